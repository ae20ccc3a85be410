import PyProof.Rows.All
import Wide.All
import OpenK.AllK
import Wide.FinOn
import KE.KStateDown
import Lean
import HandS.Base
import HandS.Call
import HandS.List
import HandS.Comp
import HandS.Ends
import HandS.Dict
import HandS.Iter
import HandS.Text
import HandS.Words
import HandS.WordsList
import HandS.Defaults
import HandS.IsInst
import HandS.Wide
import HandS.WideBits
import HandS.Conv
import HandS.Flow
import HandS.Style
import HandS.Flt
import HandS.More
import HandS.Set
import HandS.SetFor
import HandS.Strs
import HandS.SortInts
import HandS.MakeKw
import HandS.MakeKwOnly
import HandS.Codes
import HandS.SetKeys
import HandS.SortRule
import HandS.WordsDict
import HandS.Head0
import HandS.Head1
import HandS.Head2
import HandS.HeadEnd
import HandS.HeadHook1
import HandS.HeadHook2
import PyProof.DictMoreH
import PyProof.ListStr
import HandS.OwnEq
import KE.SortData
import PySem.Challenge.RW_remadehere_k56_whole_two_runners_cut
set_option Elab.async false
set_option linter.all false
set_option maxRecDepth 100000
set_option maxHeartbeats 8000000
namespace R
open PySem L2
/-! ### worlds: F the part that stays, H all that is tracked -/
theorem ne_none {α : Type} {o : Option α} {x : α} (h : o = some x) : o ≠ none := fun e => by rw [h] at e; cases e
theorem Same.new {H : Hp} {p : Addr} {o : HO} (h : H p = none) : Same H (upd H p o) := fun a u e => by
  rw [upd_ne (ne_of_none e h)]
  exact e
theorem rd_same {F H : Hp} {a : Addr} {u : HO} (e : Same F H) (h : Rd F a u) : Rd H a u := by
  rcases h with h | ⟨o, h⟩
  · exact .inl (e _ _ h)
  · exact .inr ⟨o, e _ _ h⟩
theorem sqL_same {K : PySem.W.Frag} {F H : Hp} {a : Addr} {xs : List V} (e : Same F H) (h : SqL K F a xs) : SqL K H a xs := by
  rcases h with h | h
  · exact .inl (rd_same e h)
  · exact .inr h
theorem sqT_same {K : PySem.W.Frag} {F H : Hp} {a : Addr} {xs : List V} (e : Same F H) (h : SqT K F a xs) : SqT K H a xs := by
  rcases h with h | h
  · exact .inl (rd_same e h)
  · exact .inr h
theorem sqL_of {K : PySem.W.Frag} {H : Hp} {a : Addr} {xs : List V} (h : H a = some (.lst xs)) : SqL K H a xs := .inl (.inl h)
theorem sqT_of {K : PySem.W.Frag} {H : Hp} {a : Addr} {xs : List V} (h : H a = some (.tup xs)) : SqT K H a xs := .inl (.inl h)
mutual
theorem dp_same {K : PySem.W.Frag} {F H : Hp} (e : Same F H) : ∀ (d : PyData) (v : V), Dp K F v d → Dp K H v d
  | .none, _, .non => .non
  | .bool _, _, .bl b => .bl b
  | .int _, _, .int i => .int i
  | .str _, _, .str x => .str x
  | .list ds, _, .lst h hs => .lst (sqL_same e h) (dpa_same e ds _ hs)
  | .tuple ds, _, .tup h hs => .tup (sqT_same e h) (dpa_same e ds _ hs)
theorem dpa_same {K : PySem.W.Frag} {F H : Hp} (e : Same F H) : ∀ (ds : List PyData) (vs : List V), DpAll K F vs ds → DpAll K H vs ds
  | [], _, .nil => .nil
  | d :: ds, _, .cons h hs => .cons (dp_same e d _ h) (dpa_same e ds _ hs)
end
/-- what a deed does: F grows to F2, H to H2; of what H has outside of F only the objects at M change -/
structure Gr (M : List Addr) (F H F2 H2 : Hp) : Prop where
  ff : Same F F2
  fh : Same F2 H2
  hh : ∀ a o, a ∉ M → H a = some o → H2 a = some o
  al : ∀ a, H a ≠ none → H2 a ≠ none
  nw : ∀ a, H a ≠ none → F a = none → F2 a = none
theorem Gr.refl {M : List Addr} {F H : Hp} (h : Same F H) : Gr M F H F H := ⟨Same.refl F, h, fun _ _ _ e => e, fun _ e => e, fun _ _ e => e⟩
theorem Gr.trans {M : List Addr} {F H F1 H1 F2 H2 : Hp} (a : Gr M F H F1 H1) (b : Gr M F1 H1 F2 H2) : Gr M F H F2 H2 :=
  ⟨a.ff.trans b.ff, b.fh, fun x o n e => b.hh x o n (a.hh x o n e), fun x e => b.al x (a.al x e), fun x e n => b.nw x (a.al x e) (a.nw x e n)⟩
theorem Gr.sub {M N : List Addr} {F H F2 H2 : Hp} (a : Gr M F H F2 H2) (h : ∀ x ∈ M, x ∈ N) : Gr N F H F2 H2 := ⟨a.ff, a.fh, fun x o n e => a.hh x o (fun m => n (h x m)) e, a.al, a.nw⟩
theorem Gr.up {M : List Addr} {F H F2 H2 : Hp} (a : Gr [] F H F2 H2) : Gr M F H F2 H2 := a.sub fun _ h => by cases h
/-- a new object that stays -/
theorem Gr.im {M : List Addr} {F H : Hp} {p : Addr} {o : HO} (w : Same F H) (h : H p = none) : Gr M F H (upd F p o) (upd H p o) := by
  have hF : F p = none := w.free h
  refine ⟨Same.new hF, fun a u e => ?_, fun a u _ e => ?_, fun a e => ?_, fun a e n => ?_⟩
  · by_cases q : a = p
    · subst q
      rw [upd_same] at e ⊢
      exact e
    · rw [upd_ne q] at e ⊢
      exact w a u e
  · rw [upd_ne (ne_of_none e h)]
    exact e
  · by_cases q : a = p
    · subst q
      rw [upd_same]
      exact fun z => nomatch z
    · rw [upd_ne q]
      exact e
  · have q : a ≠ p := fun z => by subst z; exact e h
    rw [upd_ne q]
    exact n
/-- a new object that may change -/
theorem Gr.new {M : List Addr} {F H : Hp} {p : Addr} {o : HO} (w : Same F H) (h : H p = none) : Gr M F H F (upd H p o) := by
  refine ⟨Same.refl F, w.trans (Same.new h), fun a u _ e => ?_, fun a e => ?_, fun a e n => n⟩
  · rw [upd_ne (ne_of_none e h)]
    exact e
  · by_cases q : a = p
    · subst q
      rw [upd_same]
      exact fun z => nomatch z
    · rw [upd_ne q]
      exact e
/-- a change of an object that may change -/
theorem Gr.wr {M : List Addr} {F H : Hp} {p : Addr} {o : HO} (w : Same F H) (h : F p = none) (hm : p ∈ M) : Gr M F H F (upd H p o) := by
  refine ⟨Same.refl F, fun a u e => ?_, fun a u n e => ?_, fun a e => ?_, fun a e n => n⟩
  · have q : a ≠ p := ne_of_none e h
    rw [upd_ne q]
    exact w a u e
  · have q : a ≠ p := fun z => by subst z; exact n hm
    rw [upd_ne q]
    exact e
  · by_cases q : a = p
    · subst q
      rw [upd_same]
      exact fun z => nomatch z
    · rw [upd_ne q]
      exact e
/-- .. of one that was new behind the start -/
theorem Gr.wrn {M : List Addr} {F0 H0 F H : Hp} {p : Addr} {o : HO} (g : Gr M F0 H0 F H) (h : F p = none) (hn : H0 p = none) : Gr M F0 H0 F (upd H p o) := by
  refine ⟨g.ff, fun a u e => ?_, fun a u n e => ?_, fun a e => ?_, g.nw⟩
  · have q : a ≠ p := ne_of_none e h
    rw [upd_ne q]
    exact g.fh a u e
  · have q : a ≠ p := fun z => by subst z; rw [hn] at e; cases e
    rw [upd_ne q]
    exact g.hh a u n e
  · by_cases q : a = p
    · subst q
      rw [upd_same]
      exact fun z => nomatch z
    · rw [upd_ne q]
      exact g.al a e
/-- an object that may change -/
structure Mu (F H : Hp) (p : Addr) (o : HO) : Prop where
  n : F p = none
  h : H p = some o
theorem Gr.mu {M : List Addr} {F H F2 H2 : Hp} {p : Addr} {o : HO} (g : Gr M F H F2 H2) (m : Mu F H p o) (hp : p ∉ M) : Mu F2 H2 p o := ⟨g.nw p (ne_none m.h) m.n, g.hh p o hp m.h⟩
theorem Gr.mu0 {F H F2 H2 : Hp} {p : Addr} {o : HO} (g : Gr [] F H F2 H2) (m : Mu F H p o) : Mu F2 H2 p o := g.mu m (fun h => nomatch h)
theorem Mu.new {F H : Hp} {p : Addr} {o : HO} (w : Same F H) (h : H p = none) : Mu F (upd H p o) p o := ⟨w.free h, upd_same⟩
theorem Mu.wr {F H : Hp} {p : Addr} {o u : HO} (m : Mu F H p o) : Mu F (upd H p u) p u := ⟨m.n, upd_same⟩
theorem Mu.oth {F H : Hp} {p q : Addr} {o u : HO} (m : Mu F H p o) (h : p ≠ q) : Mu F (upd H q u) p o := ⟨m.n, by rw [upd_ne h]; exact m.h⟩
theorem Mu.sq {K : PySem.W.Frag} {F H : Hp} {p : Addr} {xs : List V} (m : Mu F H p (.lst xs)) : SqL K H p xs := sqL_of m.h
theorem Mu.ne_new {F H : Hp} {p q : Addr} {o : HO} (m : Mu F H p o) (h : H q = none) : p ≠ q := ne_of_none m.h h
theorem upd_at {F : Hp} {p : Addr} {o : HO} : upd F p o p = some o := upd_same
/-! ### promises by the number of arguments -/
def S1 (φ : V → Hp → VK → Prop) : Sp := fun vs H Q _ => match vs with
  | [a] => φ a H Q
  | _ => False
def S2 (φ : V → V → Hp → VK → Prop) : Sp := fun vs H Q _ => match vs with
  | [a, b] => φ a b H Q
  | _ => False
def S3 (φ : V → V → V → Hp → VK → Prop) : Sp := fun vs H Q _ => match vs with
  | [a, b, c] => φ a b c H Q
  | _ => False
def S4 (φ : V → V → V → V → Hp → VK → Prop) : Sp := fun vs H Q _ => match vs with
  | [a, b, c, d] => φ a b c d H Q
  | _ => False
def S5 (φ : V → V → V → V → V → Hp → VK → Prop) : Sp := fun vs H Q _ => match vs with
  | [a, b, c, d, e] => φ a b c d e H Q
  | _ => False
def S6 (φ : V → V → V → V → V → V → Hp → VK → Prop) : Sp := fun vs H Q _ => match vs with
  | [a, b, c, d, e, f] => φ a b c d e f H Q
  | _ => False
def S7 (φ : V → V → V → V → V → V → V → Hp → VK → Prop) : Sp := fun vs H Q _ => match vs with
  | [a, b, c, d, e, f, g] => φ a b c d e f g H Q
  | _ => False
def S0 (φ : Hp → VK → Prop) : Sp := fun vs H Q _ => match vs with
  | [] => φ H Q
  | _ => False
theorem S0.len {φ : Hp → VK → Prop} {vs : List V} {H : Hp} {Q : VK} {E : XK} (h : S0 φ vs H Q E) : vs.length = 0 := by
  match vs, h with
  | [], _ => rfl
theorem S1.len {φ : V → Hp → VK → Prop} {vs : List V} {H : Hp} {Q : VK} {E : XK} (h : S1 φ vs H Q E) : vs.length = 1 := by
  match vs, h with
  | [_], _ => rfl
theorem S2.len {φ : V → V → Hp → VK → Prop} {vs : List V} {H : Hp} {Q : VK} {E : XK} (h : S2 φ vs H Q E) : vs.length = 2 := by
  match vs, h with
  | [_, _], _ => rfl
theorem S3.len {φ : V → V → V → Hp → VK → Prop} {vs : List V} {H : Hp} {Q : VK} {E : XK} (h : S3 φ vs H Q E) : vs.length = 3 := by
  match vs, h with
  | [_, _, _], _ => rfl
theorem S4.len {φ : V → V → V → V → Hp → VK → Prop} {vs : List V} {H : Hp} {Q : VK} {E : XK} (h : S4 φ vs H Q E) : vs.length = 4 := by
  match vs, h with
  | [_, _, _, _], _ => rfl
theorem S5.len {φ : V → V → V → V → V → Hp → VK → Prop} {vs : List V} {H : Hp} {Q : VK} {E : XK} (h : S5 φ vs H Q E) : vs.length = 5 := by
  match vs, h with
  | [_, _, _, _, _], _ => rfl
theorem S6.len {φ : V → V → V → V → V → V → Hp → VK → Prop} {vs : List V} {H : Hp} {Q : VK} {E : XK} (h : S6 φ vs H Q E) : vs.length = 6 := by
  match vs, h with
  | [_, _, _, _, _, _], _ => rfl
theorem S7.len {φ : V → V → V → V → V → V → V → Hp → VK → Prop} {vs : List V} {H : Hp} {Q : VK} {E : XK} (h : S7 φ vs H Q E) : vs.length = 7 := by
  match vs, h with
  | [_, _, _, _, _, _, _], _ => rfl
/-! ### a def as it stands, with its promise -/
structure DO (P : Program) (w : World) (K : PySem.W.Frag) (mg : Str → Option Value) (base : Heap) (k : Nat) (x : Str) (ps : List Str) (dvs : List V) (sp : Sp) : Prop where
  ex : ∃ (f : Addr) (fd : FuncData) (ds : List Value), FnOk P w K mg base CX0 k f fd ps sp ∧ mg x = some (.ref f) ∧ PySem.W.keepIn K (.ref f) = true ∧ Binds K fd ps ds ∧ Vals dvs ds
section
variable {X : Cx} {k j : Nat} {ps : List Str} {sp : Sp} {dvs : List V} {x : Str} {p pos : Pos} {e : Expr} {es : List Expr} {t : TA}
theorem pcall (D : DO X.prog X.w X.K X.mg X.base k x ps dvs sp) (hr : Room j X.A) (ha : PA X (e :: es) t) (hj : k ≤ j := by first | decide | exact Nat.le_refl _ | omega) (hg : Gl X x := by rfl) (hdb : (x == ("__debug__" : Str)) = false := by decide)
    (he : starEach (e :: es) X.env = (false, eval e X.env) :: starEach es X.env := by rfl) (hpl : (backTo pos (starEach es X.env)).any (·.1) = false := by rfl) :
    PE X (.Call (.Name x p) (e :: es) [] pos) (tCall sp dvs E0 t) := by
  obtain ⟨f, fd, ds, F, hm, hk, hb, hd⟩ := D.ex
  exact pe_call F (hr.mono hj) hg hm hk hb hd pass0 ha hdb he hpl
end
/-! ### calls with keywords -/
/-- the parameters' values: by place (0), by a keyword's place (1), by a default's place (2) -/
def pick {α : Type} (d : α) (tp : List (Nat × Nat)) (vs zs ds : List α) : List α := tp.map fun p => if p.1 = 0 then vs.getD p.2 d else if p.1 = 1 then zs.getD p.2 d else ds.getD p.2 d
theorem vals_getD : ∀ {vs : List V} {us : List Value} (i : Nat), Vals vs us → RelV (vs.getD i .non) (us.getD i .none)
  | _, _, _, .nil => rfl
  | _, _, 0, .cons r _ => r
  | _, _, i + 1, .cons _ t => by
    show RelV ((_ :: _ : List V).getD (i + 1) .non) ((_ :: _ : List Value).getD (i + 1) .none)
    rw [List.getD_cons_succ, List.getD_cons_succ]
    exact vals_getD i t
theorem pick_rel {vs zs ds : List V} {us ws es : List Value} (r1 : Vals vs us) (r2 : Vals zs ws) (r3 : Vals ds es) : ∀ tp : List (Nat × Nat), Vals (pick .non tp vs zs ds) (pick .none tp us ws es)
  | [] => .nil
  | p :: tp => .cons (by
      show RelV (if p.1 = 0 then vs.getD p.2 .non else if p.1 = 1 then zs.getD p.2 .non else ds.getD p.2 .non) (if p.1 = 0 then us.getD p.2 .none else if p.1 = 1 then ws.getD p.2 .none else es.getD p.2 .none)
      by_cases h0 : p.1 = 0
      · rw [if_pos h0, if_pos h0]
        exact vals_getD _ r1
      · rw [if_neg h0, if_neg h0]
        by_cases h1 : p.1 = 1
        · rw [if_pos h1, if_pos h1]
          exact vals_getD _ r2
        · rw [if_neg h1, if_neg h1]
          exact vals_getD _ r3) (pick_rel r1 r2 r3 tp)
theorem kbD {K : PySem.W.Frag} {x qual : Str} {params : Arguments} {body : List Stmt} {scope : Scope} {dvs : List V} {f : Addr} {fd : FuncData} {ps ks : List Str} {n : Nat} {tp : List (Nat × Nat)} (F : FunD K x qual params body scope dvs [] f fd) (hd : dvs ≠ [])
    (h : ∀ (T : Addr) (kV doc pm : Value) (an : Option Addr) (cdv ct : Value) (us ws its : List Value), us.length = n → ws.length = ks.length → its.length = dvs.length →
      ∃ k, bindArgs (PySem.W.fnOf x qual params body scope (.ref T) kV doc pm an cdv ct) ⟨us, ks.zip ws⟩ = seqItems? (.ref T) >>= k ∧ k (some its.toArray) = pure (ps.zip (pick .none tp us ws its))) :
    ∃ its : List Value, KBn K fd ps n ks (fun us ws => pick .none tp us ws its) (fun vs zs => pick .non tp vs zs dvs) := by
  obtain ⟨oc, od, dV, kV, doc, pm, an, cdv, ct, osl, rfl, lk, hcd, hD, hK⟩ := F.ex
  rcases hD with ⟨e, _⟩ | ⟨_, T, o, its, m, rfl, lT, oT, rT⟩
  · exact absurd e hd
  · refine ⟨its, fun s us ws X l1 l2 => ?_, fun r1 r2 => pick_rel r1 r2 rT tp⟩
    obtain ⟨k, e1, e2⟩ := h T kV doc pm an cdv ct us ws its l1 l2 rT.length.symm
    refine BindsTo.of_looks fun M => ?_
    rw [e1]
    exact looks_items X lT oT (.of_pure e2)
/-! ### rules with the written part by its own name -/
section
variable {X : Cx} {K : PySem.W.Frag}
theorem ixL (h : X.K = K := by rfl) : IxR X (rIxL K) := by subst h; exact ix_list
theorem ixT (h : X.K = K := by rfl) : IxR X (rIxT K) := by subst h; exact ix_tup
theorem slL (h : X.K = K := by rfl) : SlR X (rSlL K) := by subst h; exact sl_list
theorem slT (h : X.K = K := by rfl) : SlR X (rSlT K) := by subst h; exact sl_tup
theorem opEqD (A : X.A.units + 64 < cLine) (h : X.K = K := by rfl) : OpR X (compareOp .Eq) (rEqD K) := by subst h; exact op_eqD A
def rLenQ (K : PySem.W.Frag) : List V → Hp → VK → Prop := fun xs H Q => ∃ p ys, xs = [.ref p] ∧ (SqL K H p ys ∨ SqT K H p ys) ∧ Q (.int ys.length) H
def rListOf (K : PySem.W.Frag) : List V → Hp → VK → Prop := fun xs H Q => ∃ p ys, xs = [.ref p] ∧ (SqL K H p ys ∨ SqT K H p ys) ∧ ∀ l, H l = none → Q (.ref l) (upd H l (.lst ys))
def rLenS : List V → Hp → VK → Prop := fun xs H Q => ∃ z, xs = [.str z] ∧ z.length ≤ sizeLine ∧ Q (.int z.length) H
def rInt1 : List V → Hp → VK → Prop := fun xs H Q => (∃ i, xs = [.int i] ∧ Q (.int i) H) ∨ ∃ k, xs = [.bl k] ∧ Q (.int (if k then 1 else 0)) H
def rAbs : List V → Hp → VK → Prop := fun xs H Q => ∃ i, xs = [.int i] ∧ Q (.int (if i < 0 then -i else i)) H
def rMin2 : List V → Hp → VK → Prop := fun xs H Q => ∃ i j, xs = [.int i, .int j] ∧ Q (.int (if j < i then j else i)) H
def rMax2 : List V → Hp → VK → Prop := fun xs H Q => ∃ i j, xs = [.int i, .int j] ∧ Q (.int (if j > i then j else i)) H
theorem clLenQ (h : X.K = K := by rfl) : CallR X (.builtin "len") (rLenQ K) := by subst h; exact call_len_seq
theorem clLenS : CallR X (.builtin "len") rLenS := call_len_str
theorem clListOf (h : X.K = K := by rfl) : CallR X (.type "list") (rListOf K) := by subst h; exact call_list_of
theorem clInt1 : CallR X (.type "int") rInt1 := call_int1
theorem clAbs : CallR X (.builtin "abs") rAbs := call_abs
theorem clMin2 (hc : X.calm = true := by rfl) : CallR X (.builtin "min") rMin2 := call_min2 hc
theorem clMax2 (hc : X.calm = true := by rfl) : CallR X (.builtin "max") rMax2 := call_max2 hc
theorem clAll (hc : X.calm = true := by rfl) (h : X.K = K := by rfl) : CallR X (.builtin "all") (rAll K) := by subst h; exact cr_all hc
theorem clIsi (h : X.K = K := by rfl) : CallR X (.builtin "isinstance") (rIsi K) := by subst h; exact call_isi
def tTruth (K : PySem.W.Frag) (ta : TE) : TT := fun σ H Q => ta σ H fun x H' => ∃ k, TruV K x H' k ∧ Q k H'
variable {o e : Expr} {es : List Expr} {to te : TE} {t : TA} {name : Str} {apos cpos : Pos} {T id : String} {r : V → List V → Hp → VK → Prop}
theorem peBM0 (pa : PlainAttrs T) (slot : Slot T name id) (hty : typeOf (.builtin id) = pure (.type "method_descriptor")) (hm : MtR X id r) (ho : PE X o to) (h : X.K = K := by rfl)
    (hbase : attributeBase o name X.env (eval o X.env) = eval o X.env := by rfl) (hline : (apos.endLine == cpos.line) = true := by rfl) : PE X (.Call (.Attribute o name apos) [] [] cpos) (tBM0 K T r to) := by
  subst h
  exact pe_bm0 pa slot hty hm ho hbase hline
theorem peBM (pa : PlainAttrs T) (slot : Slot T name id) (hty : typeOf (.builtin id) = pure (.type "method_descriptor")) (hm : MtR X id r) (ho : PE X o to) (ha : PA X (e :: es) t) (h : X.K = K := by rfl)
    (hbase : attributeBase o name X.env (eval o X.env) = eval o X.env := by rfl)
    (hfew : ((backTo cpos (starEach (e :: es) X.env)).all (fun x => !x.1) && (backToKw cpos (keywordEach [] X.env)).all (fun x => x.1.isSome)
      && decide ((e :: es).length + ([] : List Keyword).length + (if ([] : List Keyword).isEmpty then 0 else 1) < 30)) = true := by rfl)
    (hline : (apos.endLine == cpos.line) = true := by rfl) (hs : starEach (e :: es) X.env = (false, eval e X.env) :: starEach es X.env := by rfl) (hplain : (backTo cpos (starEach es X.env)).any (·.1) = false := by rfl) :
    PE X (.Call (.Attribute o name apos) (e :: es) [] cpos) (tBM K T r to t) := by
  subst h
  exact pe_bm pa slot hty hm ho ha hbase hfew hline hs hplain
def rJoin (K : PySem.W.Frag) : V → List V → Hp → VK → Prop := fun x xs H Q => ∃ a p, ∃ ys : List Str, x = .str a ∧ xs = [.ref p] ∧ (SqL K H p (ys.map V.str) ∨ SqT K H p (ys.map V.str)) ∧
      (ys.map (·.length)).sum + ys.length * a.length ≤ 16777216 ∧ Q (.str (Txt.join a ys)) H
theorem peJoin (ho : PE X o to) (he : PE X e te) (h : X.K = K := by rfl) (hs : starEach [e] X.env = [(false, eval e X.env)] := by rfl) (hbase : attributeBase o "join" X.env (eval o X.env) = eval o X.env := by rfl) (hline : (apos.endLine == cpos.line) = true := by rfl) :
    PE X (.Call (.Attribute o "join" apos) [e] [] cpos) (tM1 (rJoin K) to te) := by
  subst h
  exact pe_join ho he hs hbase hline
theorem peFld {f : Str} {pos : Pos} (he : PE X o to) (h : X.K = K := by rfl) (hb : attributeBase o f X.env (eval o X.env) = eval o X.env := by rfl) : PE X (.Attribute o f pos) (tFld K to f) := by
  subst h
  exact pe_fld he hb
end
/-! ### steps of a reading -/
section
variable {K : PySem.W.Frag} {σ : L2.St} {H : Hp} {Q : VK} {ta tb te : TE} {x y v : V} {nx bk ct : L2.St → Hp → Prop} {rt : VK}
-- slots
section
variable {a0 a1 a2 a3 a4 a5 a6 a7 a8 a9 a10 a11 a12 a13 : Option V} {r : L2.St}
theorem w_v0 (q : Q v H) : tVar 0 (some v :: r) H Q := ⟨v, rfl, q⟩
theorem w_v1 (q : Q v H) : tVar 1 (a0 :: some v :: r) H Q := ⟨v, rfl, q⟩
theorem w_v2 (q : Q v H) : tVar 2 (a0 :: a1 :: some v :: r) H Q := ⟨v, rfl, q⟩
theorem w_v3 (q : Q v H) : tVar 3 (a0 :: a1 :: a2 :: some v :: r) H Q := ⟨v, rfl, q⟩
theorem w_v4 (q : Q v H) : tVar 4 (a0 :: a1 :: a2 :: a3 :: some v :: r) H Q := ⟨v, rfl, q⟩
theorem w_v5 (q : Q v H) : tVar 5 (a0 :: a1 :: a2 :: a3 :: a4 :: some v :: r) H Q := ⟨v, rfl, q⟩
theorem w_v6 (q : Q v H) : tVar 6 (a0 :: a1 :: a2 :: a3 :: a4 :: a5 :: some v :: r) H Q := ⟨v, rfl, q⟩
theorem w_v7 (q : Q v H) : tVar 7 (a0 :: a1 :: a2 :: a3 :: a4 :: a5 :: a6 :: some v :: r) H Q := ⟨v, rfl, q⟩
theorem w_v8 (q : Q v H) : tVar 8 (a0 :: a1 :: a2 :: a3 :: a4 :: a5 :: a6 :: a7 :: some v :: r) H Q := ⟨v, rfl, q⟩
theorem w_v9 (q : Q v H) : tVar 9 (a0 :: a1 :: a2 :: a3 :: a4 :: a5 :: a6 :: a7 :: a8 :: some v :: r) H Q := ⟨v, rfl, q⟩
theorem w_v10 (q : Q v H) : tVar 10 (a0 :: a1 :: a2 :: a3 :: a4 :: a5 :: a6 :: a7 :: a8 :: a9 :: some v :: r) H Q := ⟨v, rfl, q⟩
theorem w_v11 (q : Q v H) : tVar 11 (a0 :: a1 :: a2 :: a3 :: a4 :: a5 :: a6 :: a7 :: a8 :: a9 :: a10 :: some v :: r) H Q := ⟨v, rfl, q⟩
theorem w_v12 (q : Q v H) : tVar 12 (a0 :: a1 :: a2 :: a3 :: a4 :: a5 :: a6 :: a7 :: a8 :: a9 :: a10 :: a11 :: some v :: r) H Q := ⟨v, rfl, q⟩
theorem w_v13 (q : Q v H) : tVar 13 (a0 :: a1 :: a2 :: a3 :: a4 :: a5 :: a6 :: a7 :: a8 :: a9 :: a10 :: a11 :: a12 :: some v :: r) H Q := ⟨v, rfl, q⟩
variable {N : L2.St → Hp → Prop}
theorem w_n0 (q : N (some v :: r) H) : gName 0 v (a0 :: r) H N := q
theorem w_n1 (q : N (a0 :: some v :: r) H) : gName 1 v (a0 :: a1 :: r) H N := q
theorem w_n2 (q : N (a0 :: a1 :: some v :: r) H) : gName 2 v (a0 :: a1 :: a2 :: r) H N := q
theorem w_n3 (q : N (a0 :: a1 :: a2 :: some v :: r) H) : gName 3 v (a0 :: a1 :: a2 :: a3 :: r) H N := q
theorem w_n4 (q : N (a0 :: a1 :: a2 :: a3 :: some v :: r) H) : gName 4 v (a0 :: a1 :: a2 :: a3 :: a4 :: r) H N := q
theorem w_n5 (q : N (a0 :: a1 :: a2 :: a3 :: a4 :: some v :: r) H) : gName 5 v (a0 :: a1 :: a2 :: a3 :: a4 :: a5 :: r) H N := q
theorem w_n6 (q : N (a0 :: a1 :: a2 :: a3 :: a4 :: a5 :: some v :: r) H) : gName 6 v (a0 :: a1 :: a2 :: a3 :: a4 :: a5 :: a6 :: r) H N := q
theorem w_n7 (q : N (a0 :: a1 :: a2 :: a3 :: a4 :: a5 :: a6 :: some v :: r) H) : gName 7 v (a0 :: a1 :: a2 :: a3 :: a4 :: a5 :: a6 :: a7 :: r) H N := q
theorem w_n8 (q : N (a0 :: a1 :: a2 :: a3 :: a4 :: a5 :: a6 :: a7 :: some v :: r) H) : gName 8 v (a0 :: a1 :: a2 :: a3 :: a4 :: a5 :: a6 :: a7 :: a8 :: r) H N := q
theorem w_n9 (q : N (a0 :: a1 :: a2 :: a3 :: a4 :: a5 :: a6 :: a7 :: a8 :: some v :: r) H) : gName 9 v (a0 :: a1 :: a2 :: a3 :: a4 :: a5 :: a6 :: a7 :: a8 :: a9 :: r) H N := q
theorem w_n10 (q : N (a0 :: a1 :: a2 :: a3 :: a4 :: a5 :: a6 :: a7 :: a8 :: a9 :: some v :: r) H) : gName 10 v (a0 :: a1 :: a2 :: a3 :: a4 :: a5 :: a6 :: a7 :: a8 :: a9 :: a10 :: r) H N := q
theorem w_n11 (q : N (a0 :: a1 :: a2 :: a3 :: a4 :: a5 :: a6 :: a7 :: a8 :: a9 :: a10 :: some v :: r) H) : gName 11 v (a0 :: a1 :: a2 :: a3 :: a4 :: a5 :: a6 :: a7 :: a8 :: a9 :: a10 :: a11 :: r) H N := q
theorem w_n12 (q : N (a0 :: a1 :: a2 :: a3 :: a4 :: a5 :: a6 :: a7 :: a8 :: a9 :: a10 :: a11 :: some v :: r) H) : gName 12 v (a0 :: a1 :: a2 :: a3 :: a4 :: a5 :: a6 :: a7 :: a8 :: a9 :: a10 :: a11 :: a12 :: r) H N := q
theorem w_n13 (q : N (a0 :: a1 :: a2 :: a3 :: a4 :: a5 :: a6 :: a7 :: a8 :: a9 :: a10 :: a11 :: a12 :: some v :: r) H) : gName 13 v (a0 :: a1 :: a2 :: a3 :: a4 :: a5 :: a6 :: a7 :: a8 :: a9 :: a10 :: a11 :: a12 :: a13 :: r) H N := q
end
-- expressions
theorem w_c (q : Q v H) : tC v σ H Q := q
theorem w_op {r : R2} (q : ta σ H fun x H1 => tb σ H1 fun y H2 => r x y H2 Q) : tOp r ta tb σ H Q := q
theorem w_un {r : V → Hp → VK → Prop} (q : ta σ H fun x H1 => r x H1 Q) : tUn r ta σ H Q := q
theorem w_add {i j : Int} (q : Q (.int (i + j)) H) : rI0 (fun i j => V.int (i + j)) (.int i) (.int j) H Q := ⟨i, j, rfl, rfl, q⟩
theorem w_subt {i j : Int} (q : Q (.int (i - j)) H) : rI0 (fun i j => V.int (i - j)) (.int i) (.int j) H Q := ⟨i, j, rfl, rfl, q⟩
theorem w_lt {i j : Int} (q : Q (.bl (decide (i < j))) H) : rI0 (fun i j => V.bl (decide (i < j))) (.int i) (.int j) H Q := ⟨i, j, rfl, rfl, q⟩
theorem w_le {i j : Int} (q : Q (.bl (decide (i ≤ j))) H) : rI0 (fun i j => V.bl (decide (i ≤ j))) (.int i) (.int j) H Q := ⟨i, j, rfl, rfl, q⟩
theorem w_gt {i j : Int} (q : Q (.bl (decide (j < i))) H) : rI0 (fun i j => V.bl (decide (j < i))) (.int i) (.int j) H Q := ⟨i, j, rfl, rfl, q⟩
theorem w_ge {i j : Int} (q : Q (.bl (decide (j ≤ i))) H) : rI0 (fun i j => V.bl (decide (j ≤ i))) (.int i) (.int j) H Q := ⟨i, j, rfl, rfl, q⟩
theorem w_mul {i j : Int} (c : CMul i j) (q : Q (.int (i * j)) H) : rI CMul (fun i j => V.int (i * j)) (.int i) (.int j) H Q := ⟨i, j, rfl, rfl, c, q⟩
theorem w_mod {i j : Int} (c : 0 < j) (q : Q (.int (i % j)) H) : rI (fun _ j => 0 < j) (fun i j => V.int (i % j)) (.int i) (.int j) H Q := ⟨i, j, rfl, rfl, c, q⟩
theorem w_fdiv {i j : Int} (c : CDivW i j) (q : Q (.int (i / j)) H) : rI CDivW (fun i j => V.int (i / j)) (.int i) (.int j) H Q := ⟨i, j, rfl, rfl, c, q⟩
theorem w_pow {i j : Int} (c : CPow i j) (q : Q (.int (i ^ j.toNat)) H) : rI CPow (fun i j => V.int (i ^ j.toNat)) (.int i) (.int j) H Q := ⟨i, j, rfl, rfl, c, q⟩
theorem w_neg {i : Int} (q : Q (.int (-i)) H) : rU (fun i => V.int (-i)) (.int i) H Q := ⟨i, rfl, q⟩
def asInt (x : V) (H : Hp) (Z : Int → Hp → Prop) : Prop := ∃ i, x = .int i ∧ Z i H
def asBl (x : V) (H : Hp) (T : Bool → Hp → Prop) : Prop := ∃ k, x = .bl k ∧ T k H
theorem w_asInt {i : Int} {Z : Int → Hp → Prop} (q : Z i H) : asInt (.int i) H Z := ⟨i, rfl, q⟩
theorem w_asBl {b : Bool} {T : Bool → Hp → Prop} (q : T b H) : asBl (.bl b) H T := ⟨b, rfl, q⟩
theorem w_bits {to : TE} (q : to σ H fun x H1 => asInt x H1 fun i H2 => Q (.int (Builtin.Int.intBits i : Nat)) H2) : tBits to σ H Q := q
theorem w_eqI {i j : Int} (q : Q (.bl (decide (i = j))) H) : rEq (.int i) (.int j) H Q := ⟨rfl, by
  have e : decide (V.int i = V.int j) = decide (i = j) := by
    by_cases h : i = j
    · subst h; simp
    · rw [decide_eq_false h, decide_eq_false fun z => h (V.int.inj z)]
  rw [e]
  exact q⟩
theorem w_neI {i j : Int} (q : Q (.bl (!decide (i = j))) H) : rNe (.int i) (.int j) H Q := ⟨rfl, by
  have e : decide (V.int i = V.int j) = decide (i = j) := by
    by_cases h : i = j
    · subst h; simp
    · rw [decide_eq_false h, decide_eq_false fun z => h (V.int.inj z)]
  rw [e]
  exact q⟩
theorem w_eqS {a b : Str} (q : Q (.bl (decide (a = b))) H) : rEq (.str a) (.str b) H Q := ⟨rfl, by
  have e : decide (V.str a = V.str b) = decide (a = b) := by
    by_cases h : a = b
    · subst h; simp
    · rw [decide_eq_false h, decide_eq_false fun z => h (V.str.inj z)]
  rw [e]
  exact q⟩
theorem w_neS {a b : Str} (q : Q (.bl (!decide (a = b))) H) : rNe (.str a) (.str b) H Q := ⟨rfl, by
  have e : decide (V.str a = V.str b) = decide (a = b) := by
    by_cases h : a = b
    · subst h; simp
    · rw [decide_eq_false h, decide_eq_false fun z => h (V.str.inj z)]
  rw [e]
  exact q⟩
theorem w_eqB {a b : Bool} (q : Q (.bl (decide (a = b))) H) : rEq (.bl a) (.bl b) H Q := ⟨rfl, by
  have e : decide (V.bl a = V.bl b) = decide (a = b) := by
    by_cases h : a = b
    · subst h; simp
    · rw [decide_eq_false h, decide_eq_false fun z => h (V.bl.inj z)]
  rw [e]
  exact q⟩
theorem w_neB {a b : Bool} (q : Q (.bl (!decide (a = b))) H) : rNe (.bl a) (.bl b) H Q := ⟨rfl, by
  have e : decide (V.bl a = V.bl b) = decide (a = b) := by
    by_cases h : a = b
    · subst h; simp
    · rw [decide_eq_false h, decide_eq_false fun z => h (V.bl.inj z)]
  rw [e]
  exact q⟩
theorem w_isN (q : ta σ H fun x H1 => Q (.bl (decide (x = .non))) H1) : tIsN ta σ H Q := q
theorem w_notN (q : ta σ H fun x H1 => Q (.bl (!decide (x = .non))) H1) : tNotN ta σ H Q := q
-- tests
section
variable {T : Bool → Hp → Prop} {t u : TT}
theorem w_test (q : te σ H fun x H1 => asBl x H1 T) : tTest te σ H T := q
theorem w_tB (q : te σ H fun x H1 => asBl x H1 T) : tB te σ H T := q
theorem w_and (q : t σ H fun c H1 => if c = true then u σ H1 T else T false H1) : tAnd t u σ H T := q
theorem w_or (q : t σ H fun c H1 => if c = true then T true H1 else u σ H1 T) : tOr t u σ H T := q
theorem w_not (q : t σ H fun c H1 => T (!c) H1) : tNot t σ H T := q
theorem w_yes (q : T true H) : tYes σ H T := q
theorem w_if (q : t σ H fun c H1 => if c = true then ta σ H1 Q else tb σ H1 Q) : tIf t ta tb σ H Q := q
theorem w_truth (q : ta σ H fun x H' => ∃ k, TruV K x H' k ∧ T k H') : tTruth K ta σ H T := q
end
theorem w_andV (q : ta σ H fun x H1 => asBl x H1 fun c H2 => if c = true then tb σ H2 Q else Q (.bl false) H2) : tAndV ta tb σ H Q := q
theorem w_orV (q : ta σ H fun x H1 => asBl x H1 fun c H2 => if c = true then Q (.bl true) H2 else tb σ H2 Q) : tOrV ta tb σ H Q := q
theorem w_notV (q : ta σ H fun x H1 => asBl x H1 fun c H2 => Q (.bl (!c)) H2) : tNotV ta σ H Q := q
-- arguments
theorem w_nil {L : List V → Hp → Prop} (q : L [] H) : tNil σ H L := q
theorem w_cons {tr : TA} {L : List V → Hp → Prop} (q : ta σ H fun x H1 => tr σ H1 fun xs H2 => L (x :: xs) H2) : tCons ta tr σ H L := q
theorem w_call {sp : Sp} {dvs : List V} {E : XK} {t : TA} (q : t σ H fun vs H1 => sp (vs ++ dvs) H1 Q E) : tCall sp dvs E t σ H Q := q
theorem w_callN {n m : Nat} {sp : Sp} {gV : List V → List V → List V} {E : XK} {t tk : TA} (q : t σ H fun vs H1 => tk σ H1 fun zs H2 => vs.length = n ∧ zs.length = m ∧ sp (gV vs zs) H2 Q E) : tCallN n m sp gV E t tk σ H Q := q
theorem w_CB {r : List V → Hp → VK → Prop} {t : TA} (q : t σ H fun vs H1 => r vs H1 Q) : tCB r t σ H Q := q
theorem w_tup {t : TA} (q : t σ H fun xs H1 => xs.length ≤ sizeLine ∧ ∀ p, H1 p = none → Q (.ref p) (upd H1 p (.tup xs))) : tTup t σ H Q := q
theorem w_lst {t : TA} (q : t σ H fun xs H1 => xs.length ≤ sizeLine ∧ ∀ p, H1 p = none → Q (.ref p) (upd H1 p (.lst xs))) : tLst t σ H Q := q
theorem w_sl {r : V → Option Int → Option Int → Hp → VK → Prop} {tl th : TO} (q : te σ H fun x H1 => tl σ H1 fun l H2 => th σ H2 fun u H3 => r x l u H3 Q) : tSl r te tl th σ H Q := q
theorem w_nop {Z : Option Int → Hp → Prop} (q : Z none H) : tNoPart σ H Z := q
theorem w_part {Z : Option Int → Hp → Prop} (q : te σ H fun x H1 => asInt x H1 fun i H2 => Z (some i) H2) : tPart te σ H Z := q
theorem w_BM0 {T : String} {r : V → List V → Hp → VK → Prop} (q : ta σ H fun x H1 => tyV K T x H1 ∧ r x [] H1 Q) : tBM0 K T r ta σ H Q := q
theorem w_BM {T : String} {r : V → List V → Hp → VK → Prop} {t : TA} (q : ta σ H fun x H1 => tyV K T x H1 ∧ t σ H1 fun xs H2 => r x xs H2 Q) : tBM K T r ta t σ H Q := q
def asStr (x : V) (P : Prop) : Prop := (∃ a, x = .str a) ∧ P
theorem w_M0 {r : V → List V → Hp → VK → Prop} (q : ta σ H fun x H1 => asStr x (r x [] H1 Q)) : tM0 r ta σ H Q := q
theorem w_M1 {r : V → List V → Hp → VK → Prop} (q : ta σ H fun x H1 => asStr x (te σ H1 fun y H2 => r x [y] H2 Q)) : tM1 r ta te σ H Q := q
theorem w_asStr {a : Str} {P : Prop} (q : P) : asStr (.str a) P := ⟨⟨a, rfl⟩, q⟩
theorem w_sub {to ti : TE} {t : TSet} {Z : L2.St → Hp → Prop} (q : to σ H fun o H1 => ti σ H1 fun i H2 => t o i v H2 fun H3 => Z σ H3) : gSub to ti t v σ H Z := q
-- statements
section
variable {t u tbody : TS} {c : TT} {g : TG}
theorem w_seq (q : t ⟨u ⟨nx, rt, bk, ct⟩, rt, bk, ct⟩ σ H) : tSeq t u ⟨nx, rt, bk, ct⟩ σ H := q
theorem w_cut (Mid : L2.St → Hp → Prop) (h1 : t ⟨Mid, rt, bk, ct⟩ σ H) (h2 : ∀ σ' H', Mid σ' H' → u ⟨nx, rt, bk, ct⟩ σ' H') : C8.tCut t u ⟨nx, rt, bk, ct⟩ σ H := ⟨Mid, h1, h2⟩
theorem w_asg (q : te σ H fun x H1 => g x σ H1 nx) : tAsg te g ⟨nx, rt, bk, ct⟩ σ H := q
theorem w_ret (q : te σ H rt) : tRet te ⟨nx, rt, bk, ct⟩ σ H := q
theorem w_retN (q : rt .non H) : tRetN ⟨nx, rt, bk, ct⟩ σ H := q
theorem w_drop (q : te σ H fun _ H1 => nx σ H1) : tDrop te ⟨nx, rt, bk, ct⟩ σ H := q
theorem w_ifS (q : c σ H fun b H1 => if b = true then t ⟨nx, rt, bk, ct⟩ σ H1 else u ⟨nx, rt, bk, ct⟩ σ H1) : tIfS c t u ⟨nx, rt, bk, ct⟩ σ H := q
theorem w_nx (q : nx σ H) : tNext ⟨nx, rt, bk, ct⟩ σ H := q
theorem w_cont (q : ct σ H) : tCont ⟨nx, rt, bk, ct⟩ σ H := q
theorem w_brk (q : bk σ H) : tBreak ⟨nx, rt, bk, ct⟩ σ H := q
theorem w_tgt {n : Nat} {ts : TGs} {Z : L2.St → Hp → Prop} {a : Addr} (xs : List V) (h : SqT K H a xs) (hn : xs.length = n) (q : ts xs σ H Z) : gTup K n ts (.ref a) σ H Z := ⟨a, xs, rfl, h, hn, q⟩
theorem w_gc {ts : TGs} {xs : List V} {Z : L2.St → Hp → Prop} (q : g v σ H fun σ' H' => ts xs σ' H' Z) : gCons g ts (v :: xs) σ H Z := ⟨v, xs, rfl, q⟩
theorem w_gn {Z : L2.St → Hp → Prop} (q : Z σ H) : gNil [] σ H Z := ⟨rfl, q⟩
/-- a while, by what holds and a number that falls -/
theorem w_while (W : Nat → L2.St → Hp → Prop) {m0 : Nat} (h0 : W m0 σ H)
    (hs : ∀ m σ H, W m σ H → c σ H fun b H1 => if b = true then ∃ N : L2.St → Hp → Prop, (∀ σ' H', N σ' H' → ∃ m', m' < m ∧ W m' σ' H') ∧ tbody ⟨N, rt, nx, N⟩ σ H1 else nx σ H1) : tWhile c tbody ⟨nx, rt, bk, ct⟩ σ H := ⟨W, ⟨m0, h0⟩, hs⟩
theorem w_turn {W : Nat → L2.St → Hp → Prop} {m : Nat} (h : tbody ⟨fun σ' H' => ∃ m', m' < m ∧ W m' σ' H', rt, nx, fun σ' H' => ∃ m', m' < m ∧ W m' σ' H'⟩ σ H) :
    ∃ N : L2.St → Hp → Prop, (∀ σ' H', N σ' H' → ∃ m', m' < m ∧ W m' σ' H') ∧ tbody ⟨N, rt, nx, N⟩ σ H := ⟨_, fun _ _ h => h, h⟩
/-- for k in range(n), range(a, b) -/
theorem w_for {wi : TI} (q : wi σ H fun J H1 => ∃ W : Nat → Nat → L2.St → Hp → Prop, (∃ m, W 0 m σ H1) ∧ ∀ i m σ H, W i m σ H →
      (J.stop i H ∧ nx σ H) ∨ (J.go i H ∧ ∃ N : L2.St → Hp → Prop, (∀ σ' H', N σ' H' → ∃ m', m' < m ∧ W (i + 1) m' σ' H') ∧ ∀ x H', J.yld i H x H' → g x σ H' fun σ2 H2 => tbody ⟨N, rt, nx, N⟩ σ2 H2)) : tFor wi g tbody ⟨nx, rt, bk, ct⟩ σ H := q
end
theorem w_rng1 {t : TA} {R : It → Hp → Prop} (q : t σ H fun vs H1 => ∃ j : Int, vs = [.int j] ∧ -(2 ^ 62) ≤ j ∧ j < 2 ^ 62 ∧ R (Itr 0 j.toNat) H1) : iRng1 t σ H R := q
theorem w_rng2 {t : TA} {R : It → Hp → Prop} (q : t σ H fun vs H1 => ∃ i j : Int, vs = [.int i, .int j] ∧ (-(2 ^ 62) ≤ i ∧ i < 2 ^ 62 ∧ -(2 ^ 62) ≤ j ∧ j < 2 ^ 62) ∧ R (Itr i (j - i).toNat) H1) : iRng2 t σ H R := q
theorem w_ilist {R : It → Hp → Prop} (q : te σ H fun x H1 => ∃ a, x = .ref a ∧ (∃ xs, SqL K H1 a xs) ∧ R (Itl K a) H1) : iList K te σ H R := q
theorem w_itup {R : It → Hp → Prop} (q : te σ H fun x H1 => ∃ a, x = .ref a ∧ (∃ xs, SqT K H1 a xs) ∧ R (Itt K a) H1) : iTup K te σ H R := q
theorem w_istr {R : It → Hp → Prop} (q : te σ H fun v H1 => ∃ x, v = .str x ∧ R (Its x) H1) : iStr te σ H R := q
theorem w_lc {wi : TI} {g : TG} {tt : TT} {vs : List Nat} (q : wi σ H fun J H1 => ∀ D, H1 D = none → ∃ W : Nat → Nat → Hp → Prop, (∃ m, W 0 m (upd H1 D (.lst []))) ∧ ∀ i m H, W i m H →
    (J.stop i H ∧ Q (.ref D) H) ∨ (J.go i H ∧ ∃ Nx : Hp → Prop, (∀ H', Nx H' → ∃ m', m' < m ∧ W (i + 1) m' H') ∧ ∀ x H', J.yld i H x H' → g x (wipe σ vs) H' fun σ2 H2 => wipe σ2 vs = wipe σ vs ∧ tt σ2 H2 fun b H3 =>
      if b = true then te σ2 H3 fun y H4 => ∃ acc, H4 D = some (.lst acc) ∧ acc.length < sizeLine ∧ Nx (upd H4 D (.lst (acc ++ [y]))) else Nx H3)) : tLc wi g tt te vs σ H Q := q
/-- a test that is open -/
theorem w_ite {p : Prop} [Decidable p] {A B : Prop} (h1 : p → A) (h2 : ¬ p → B) : if decide p = true then A else B := by
  by_cases h : p
  · rw [if_pos (decide_eq_true h)]
    exact h1 h
  · rw [if_neg (by simpa using h)]
    exact h2 h
theorem w_iteN {p : Prop} [Decidable p] {A B : Prop} (h1 : ¬ p → A) (h2 : p → B) : if (!decide p) = true then A else B := by
  by_cases h : p
  · rw [if_neg (by simpa using h)]
    exact h2 h
  · rw [if_pos (by simpa using h)]
    exact h1 h
theorem w_iteb {b : Bool} {A B : Prop} (h1 : b = true → A) (h2 : b = false → B) : if b = true then A else B := by
  cases b with
  | true => rw [if_pos rfl]; exact h1 rfl
  | false => rw [if_neg Bool.false_ne_true]; exact h2 rfl
theorem w_itebN {b : Bool} {A B : Prop} (h1 : b = false → A) (h2 : b = true → B) : if (!b) = true then A else B := by
  cases b with
  | false => rw [if_pos (by rfl)]; exact h1 rfl
  | true => rw [if_neg (by decide)]; exact h2 rfl
theorem w_iteT {p : Prop} [Decidable p] {A B : Prop} (hp : p) (h1 : A) : if decide p = true then A else B := by
  rw [if_pos (decide_eq_true hp)]
  exact h1
theorem w_iteF {p : Prop} [Decidable p] {A B : Prop} (hp : ¬ p) (h2 : B) : if decide p = true then A else B := by
  rw [if_neg (by simpa using hp)]
  exact h2
theorem w_tt {A B : Prop} (h : A) : if true = true then A else B := by rw [if_pos rfl]; exact h
theorem w_ff {A B : Prop} (h : B) : if false = true then A else B := by rw [if_neg Bool.false_ne_true]; exact h
theorem w_ntt {A B : Prop} (h : B) : if (!true) = true then A else B := by rw [if_neg (by decide)]; exact h
theorem w_nff {A B : Prop} (h : A) : if (!false) = true then A else B := by rw [if_pos (by rfl)]; exact h
/-- subscripts -/
theorem w_ixL {p : Addr} {i : Int} (xs : List V) (v : V) (h : SqL K H p xs) (a : atI xs i = some v) (q : Q v H) : rIxL K (.ref p) (.int i) H Q := ⟨p, xs, i, v, rfl, rfl, h, a, q⟩
theorem w_ixT {p : Addr} {i : Int} (xs : List V) (v : V) (h : SqT K H p xs) (a : atI xs i = some v) (q : Q v H) : rIxT K (.ref p) (.int i) H Q := ⟨p, xs, i, v, rfl, rfl, h, a, q⟩
theorem w_ixS {z : Str} {i : Int} {c : Nat} (h : z.length ≤ sizeLine) (a : atI z.cps.toList i = some c) (q : Q (.str ⟨#[c]⟩) H) : rIxS (.str z) (.int i) H Q := ⟨z, i, c, rfl, rfl, h, a, q⟩
theorem w_setL {p : Addr} {k : Int} {Z : Hp → Prop} (xs : List V) (j : Nat) (h : H p = some (.lst xs)) (a : ixN xs.length k = some j) (q : Z (upd H p (.lst (xs.set j v)))) : rSetL (.ref p) (.int k) v H Z := ⟨p, xs, k, j, rfl, rfl, h, a, q⟩
theorem w_b1 {p : Addr} (a0 a1 a2 a3 a4 : V) {Z : Hp → Prop} (h : H p = some (.lst [a0, a1, a2, a3, a4])) (q : Z (upd H p (.lst [a0, v, a2, a3, a4]))) : rSetL (.ref p) (.int 1) v H Z := ⟨p, _, 1, 1, rfl, rfl, h, rfl, q⟩
theorem w_b2 {p : Addr} (a0 a1 a2 a3 a4 : V) {Z : Hp → Prop} (h : H p = some (.lst [a0, a1, a2, a3, a4])) (q : Z (upd H p (.lst [a0, a1, v, a3, a4]))) : rSetL (.ref p) (.int 2) v H Z := ⟨p, _, 2, 2, rfl, rfl, h, rfl, q⟩
theorem w_b3 {p : Addr} (a0 a1 a2 a3 a4 : V) {Z : Hp → Prop} (h : H p = some (.lst [a0, a1, a2, a3, a4])) (q : Z (upd H p (.lst [a0, a1, a2, v, a4]))) : rSetL (.ref p) (.int 3) v H Z := ⟨p, _, 3, 3, rfl, rfl, h, rfl, q⟩
theorem w_b4 {p : Addr} (a0 a1 a2 a3 a4 : V) {Z : Hp → Prop} (h : H p = some (.lst [a0, a1, a2, a3, a4])) (q : Z (upd H p (.lst [a0, a1, a2, a3, v]))) : rSetL (.ref p) (.int 4) v H Z := ⟨p, _, 4, 4, rfl, rfl, h, rfl, q⟩
theorem w_app {l : Addr} (xs : List V) (h : H l = some (.lst xs)) (hn : xs.length < sizeLine) (q : Q .non (upd H l (.lst (xs ++ [y])))) : rAppend (.ref l) [y] H Q := ⟨l, xs, y, rfl, rfl, h, hn, q⟩
theorem w_tyL {l : Addr} {P : Prop} (xs : List V) (h : SqL K H l xs) (q : P) : tyV K "list" (.ref l) H ∧ P := ⟨.inl ⟨rfl, _, h⟩, q⟩
theorem w_lenQ {p : Addr} (xs : List V) (h : SqL K H p xs) (q : Q (.int xs.length) H) : rLenQ K [.ref p] H Q := ⟨p, xs, rfl, .inl h, q⟩
theorem w_lenQT {p : Addr} (xs : List V) (h : SqT K H p xs) (q : Q (.int xs.length) H) : rLenQ K [.ref p] H Q := ⟨p, xs, rfl, .inr h, q⟩
theorem w_lenS {z : Str} (h : z.length ≤ sizeLine) (q : Q (.int z.length) H) : rLenS [.str z] H Q := ⟨z, rfl, h, q⟩
theorem w_listOf {p : Addr} (xs : List V) (h : SqL K H p xs) (q : ∀ l, H l = none → Q (.ref l) (upd H l (.lst xs))) : rListOf K [.ref p] H Q := ⟨p, xs, rfl, .inl h, q⟩
theorem w_int1 {i : Int} (q : Q (.int i) H) : rInt1 [.int i] H Q := .inl ⟨i, rfl, q⟩
theorem w_int1b {b : Bool} (q : Q (.int (if b then 1 else 0)) H) : rInt1 [.bl b] H Q := .inr ⟨b, rfl, q⟩
theorem w_abs {i : Int} (q : Q (.int (if i < 0 then -i else i)) H) : rAbs [.int i] H Q := ⟨i, rfl, q⟩
theorem w_min2 {i j : Int} (q : Q (.int (if j < i then j else i)) H) : rMin2 [.int i, .int j] H Q := ⟨i, j, rfl, q⟩
theorem w_max2 {i j : Int} (q : Q (.int (if j > i then j else i)) H) : rMax2 [.int i, .int j] H Q := ⟨i, j, rfl, q⟩
theorem w_min3 {i j k : Int} (q : Q (.int (min (min i j) k)) H) : rNuC3 nuMin3 [.int i, .int j, .int k] H Q := by
  refine ⟨.int i, .int j, .int k, .int (min (min i j) k), rfl, ?_, q⟩
  have e1 : nuMin2 (.int i) (.int j) = some (.int (min i j)) := by
    show some (if decide (j < i) = true then V.int j else V.int i) = _
    by_cases h : j < i
    · rw [if_pos (decide_eq_true h)]
      congr 2
      omega
    · rw [if_neg (by simpa using h)]
      congr 2
      omega
  have e2 : nuMin2 (.int (min i j)) (.int k) = some (.int (min (min i j) k)) := by
    show some (if decide (k < min i j) = true then V.int k else V.int (min i j)) = _
    by_cases h : k < min i j
    · rw [if_pos (decide_eq_true h)]
      congr 2
      omega
    · rw [if_neg (by simpa using h)]
      congr 2
      omega
  show (nuMin2 (.int i) (.int j)).bind (fun m => nuMin2 m (.int k)) = _
  rw [e1]
  exact e2
theorem w_slL {p : Addr} {lo hi : Option Int} (xs : List V) (h : SqL K H p xs) (q : ∀ l, H l = none → Q (.ref l) (upd H l (.lst (cutV xs lo hi)))) : rSlL K (.ref p) lo hi H Q := ⟨p, xs, rfl, h, q⟩
end
end R
namespace R
open PySem L2
/-! ### the bag of a law: its cells (never changed), a place, what is left, the stirred number, a count -/
structure Bag (K : PySem.W.Frag) (F H : Hp) (b : Addr) : Prop where
  ex : ∃ (c : Addr) (cells : List Int) (i cur st n : Int), F b = none ∧ H b = some (.lst [.ref c, .int i, .int cur, .int st, .int n]) ∧ SqL K F c (cells.map V.int) ∧ cells.length ≤ 63 ∧
    (∀ x ∈ cells, 0 ≤ x ∧ x < 10 ^ 60) ∧ 0 ≤ i ∧ 0 ≤ cur ∧ cur < 10 ^ 60 ∧ 0 ≤ st ∧ st < 2147483647
theorem Bag.keep {K : PySem.W.Frag} {M : List Addr} {F H F2 H2 : Hp} {b : Addr} (g : Gr M F H F2 H2) (h : Bag K F H b) (hb : b ∉ M) : Bag K F2 H2 b := by
  obtain ⟨c, cells, i, cur, st, n, h1, h2, h3, h4⟩ := h.ex
  exact ⟨c, cells, i, cur, st, n, g.nw b (ne_none h2) h1, g.hh b _ hb h2, sqL_same g.ff h3, h4⟩
theorem Bag.keep0 {K : PySem.W.Frag} {F H F2 H2 : Hp} {b : Addr} (g : Gr [] F H F2 H2) (h : Bag K F H b) : Bag K F2 H2 b := h.keep g (fun z => nomatch z)
theorem Bag.ne_new {K : PySem.W.Frag} {F H : Hp} {b q : Addr} (h : Bag K F H b) (hq : H q = none) : b ≠ q := by
  obtain ⟨c, cells, i, cur, st, n, h1, h2, _⟩ := h.ex
  exact ne_of_none h2 hq
/-- a draw: a number from 0 on below n -/
def φdraw (K : PySem.W.Frag) : V → V → Hp → VK → Prop := fun x y H Q => ∃ (b : Addr) (m : Int) (F : Hp), x = .ref b ∧ y = .int m ∧ Same F H ∧ Bag K F H b ∧ 0 < m ∧ m < 2 ^ 200 ∧
  ∀ (r : Int) (F2 H2 : Hp), Gr [b] F H F2 H2 → Bag K F2 H2 b → 0 ≤ r → r < m → Q (.int r) H2
theorem u_draw {K : PySem.W.Frag} {b : Addr} {m : Int} {F H : Hp} {Q : VK} {E : XK} (w : Same F H) (hb : Bag K F H b) (h0 : 0 < m) (h1 : m < 2 ^ 200) (q : ∀ (r : Int) (F2 H2 : Hp), Gr [b] F H F2 H2 → Bag K F2 H2 b → 0 ≤ r → r < m → Q (.int r) H2) :
    S2 (φdraw K) ([.ref b, .int m] ++ []) H Q E := ⟨b, m, F, rfl, rfl, w, hb, h0, h1, q⟩
def φbag (K : PySem.W.Frag) : V → Hp → VK → Prop := fun x H Q => ∃ (a : Addr) (ns : List Int), x = .ref a ∧ SqL K H a (ns.map V.int) ∧ ns.length ≤ 63 ∧
  ∀ (b : Addr) (F2 H2 : Hp), Gr [] H H F2 H2 → Bag K F2 H2 b → Q (.ref b) H2
theorem bits_le {m : Int} (h0 : 0 < m) (h1 : m < 2 ^ 200) : (Builtin.Int.intBits m : Int) ≤ 200 := by
  have h : m.natAbs < 2 ^ 200 := by omega
  have e := PyProof.Rows.intBits_le h
  omega
theorem mod_nn {a b : Int} (h : 0 < b) : 0 ≤ a % b := Int.emod_nonneg a (by omega)
theorem mod_lt {a b : Int} (h : 0 < b) : a % b < b := Int.emod_lt_of_pos a h
theorem div_nn {a b : Int} (ha : 0 ≤ a) (hb : 0 < b) : 0 ≤ a / b := Int.ediv_nonneg ha (by omega)
theorem div_le' {a b : Int} (ha : 0 ≤ a) (hb : 0 < b) : a / b ≤ a := Int.ediv_le_self b ha
theorem log2_lt {j : Int} (h : j.natAbs < 2 ^ 8999) (h0 : 0 < j) : CDivW 0 j := by
  refine ⟨h0, ?_⟩
  have hp : j.natAbs ≠ 0 := by omega
  have := (Nat.log2_lt hp).mpr h
  omega
theorem divw_ok {i j : Int} (h0 : 0 < j) (h1 : j < 2 ^ 200) : CDivW i j := by
  refine ⟨h0, ?_⟩
  have hp : j.natAbs ≠ 0 := by omega
  have h : j.natAbs < 2 ^ 200 := by omega
  have := (Nat.log2_lt hp).mpr h
  omega
/-! ### loops by what holds at each turn -/
section
variable {K : PySem.W.Frag} {σ : L2.St} {H : Hp} {Q : VK} {nx bk ct : L2.St → Hp → Prop} {rt : VK} {g : TG} {tb : TS}
/-- what tFor asks of a range, by what holds ahead of turn i -/
theorem f_range {lo : Int} {n : Nat} (Pv : Nat → L2.St → Hp → Prop) (h0 : Pv 0 σ H) (hs : ∀ i σ H, i < n → Pv i σ H → g (.int (lo + i)) σ H fun σ2 H2 => tb ⟨Pv (i + 1), rt, nx, Pv (i + 1)⟩ σ2 H2) (hd : ∀ σ H, Pv n σ H → nx σ H) :
    ∃ W : Nat → Nat → L2.St → Hp → Prop, (∃ m, W 0 m σ H) ∧ ∀ i m σ H, W i m σ H →
      ((Itr lo n).stop i H ∧ nx σ H) ∨ ((Itr lo n).go i H ∧ ∃ N : L2.St → Hp → Prop, (∀ σ' H', N σ' H' → ∃ m', m' < m ∧ W (i + 1) m' σ' H') ∧ ∀ x H', (Itr lo n).yld i H x H' → g x σ H' fun σ2 H2 => tb ⟨N, rt, nx, N⟩ σ2 H2) := by
  refine ⟨fun i m σ H => m = n - i ∧ i ≤ n ∧ Pv i σ H, ⟨n, by simp, Nat.zero_le _, h0⟩, ?_⟩
  rintro i m σ H ⟨rfl, hi, p⟩
  by_cases hlt : i < n
  · refine .inr ⟨hlt, Pv (i + 1), fun σ' H' p' => ⟨n - (i + 1), by omega, rfl, hlt, p'⟩, fun x H' y => ?_⟩
    obtain ⟨e, y⟩ := y
    subst e y
    exact hs i σ _ hlt p
  · have e : i = n := by omega
    subst e
    exact .inl ⟨Nat.le_refl _, hd σ H p⟩
theorem f_range0 {n : Nat} (Pv : Nat → L2.St → Hp → Prop) (h0 : Pv 0 σ H) (hs : ∀ i σ H, i < n → Pv i σ H → g (.int (i : Int)) σ H fun σ2 H2 => tb ⟨Pv (i + 1), rt, nx, Pv (i + 1)⟩ σ2 H2) (hd : ∀ σ H, Pv n σ H → nx σ H) :
    ∃ W : Nat → Nat → L2.St → Hp → Prop, (∃ m, W 0 m σ H) ∧ ∀ i m σ H, W i m σ H →
      ((Itr 0 n).stop i H ∧ nx σ H) ∨ ((Itr 0 n).go i H ∧ ∃ N : L2.St → Hp → Prop, (∀ σ' H', N σ' H' → ∃ m', m' < m ∧ W (i + 1) m' σ' H') ∧ ∀ x H', (Itr 0 n).yld i H x H' → g x σ H' fun σ2 H2 => tb ⟨N, rt, nx, N⟩ σ2 H2) :=
  f_range Pv h0 (fun i σ H hi hp => by rw [Int.zero_add]; exact hs i σ H hi hp) hd
theorem f_list {a : Addr} {xs : List V} (Pv : Nat → L2.St → Hp → Prop) (h0 : Pv 0 σ H) (hl : ∀ i σ H, i ≤ xs.length → Pv i σ H → SqL K H a xs)
    (hs : ∀ i x σ H, xs[i]? = some x → Pv i σ H → g x σ H fun σ2 H2 => tb ⟨Pv (i + 1), rt, nx, Pv (i + 1)⟩ σ2 H2) (hd : ∀ σ H, Pv xs.length σ H → nx σ H) :
    ∃ W : Nat → Nat → L2.St → Hp → Prop, (∃ m, W 0 m σ H) ∧ ∀ i m σ H, W i m σ H →
      ((Itl K a).stop i H ∧ nx σ H) ∨ ((Itl K a).go i H ∧ ∃ N : L2.St → Hp → Prop, (∀ σ' H', N σ' H' → ∃ m', m' < m ∧ W (i + 1) m' σ' H') ∧ ∀ x H', (Itl K a).yld i H x H' → g x σ H' fun σ2 H2 => tb ⟨N, rt, nx, N⟩ σ2 H2) := by
  refine ⟨fun i m σ H => m = xs.length - i ∧ i ≤ xs.length ∧ Pv i σ H, ⟨xs.length, by simp, Nat.zero_le _, h0⟩, ?_⟩
  rintro i m σ H ⟨rfl, hi, p⟩
  have q := hl i σ H hi p
  by_cases hlt : i < xs.length
  · refine .inr ⟨⟨xs, xs[i], q, by simp [hlt]⟩, Pv (i + 1), fun σ' H' p' => ⟨xs.length - (i + 1), by omega, rfl, hlt, p'⟩, fun x H' y => ?_⟩
    obtain ⟨e, y⟩ := y
    subst e
    exact hs i x σ _ (y xs q) p
  · have e : i = xs.length := by omega
    subst e
    exact .inl ⟨⟨xs, q, Nat.le_refl _⟩, hd σ H p⟩
variable {tt : TT} {te : TE} {vs : List Nat} {D : Addr} {Qd : Hp → Prop}
theorem lc_rng {n : Nat} (Pv : Nat → Hp → Prop) (h0 : Pv 0 (upd H D (.lst []))) (hs : ∀ i H, i < n → Pv i H → g (.int (i : Int)) (wipe σ vs) H fun σ2 H2 => wipe σ2 vs = wipe σ vs ∧ tt σ2 H2 fun b H3 =>
      if b = true then te σ2 H3 fun y H4 => ∃ acc, H4 D = some (.lst acc) ∧ acc.length < sizeLine ∧ Pv (i + 1) (upd H4 D (.lst (acc ++ [y]))) else Pv (i + 1) H3) (hd : ∀ H, Pv n H → Qd H) :
    ∃ W : Nat → Nat → Hp → Prop, (∃ m, W 0 m (upd H D (.lst []))) ∧ ∀ i m H, W i m H →
      ((Itr 0 n).stop i H ∧ Qd H) ∨ ((Itr 0 n).go i H ∧ ∃ Nx : Hp → Prop, (∀ H', Nx H' → ∃ m', m' < m ∧ W (i + 1) m' H') ∧ ∀ x H', (Itr 0 n).yld i H x H' → g x (wipe σ vs) H' fun σ2 H2 => wipe σ2 vs = wipe σ vs ∧ tt σ2 H2 fun b H3 =>
        if b = true then te σ2 H3 fun y H4 => ∃ acc, H4 D = some (.lst acc) ∧ acc.length < sizeLine ∧ Nx (upd H4 D (.lst (acc ++ [y]))) else Nx H3) :=
  lc_range (lo := 0) Pv h0 (fun i H hi hp => by rw [Int.zero_add]; exact hs i H hi hp) hd
end
end R
namespace R
open PySem L2
theorem Gr.put {M : List Addr} {F0 H0 F H : Hp} {p : Addr} {o : HO} (g : Gr M F0 H0 F H) (h : F p = none) (hm : p ∈ M) : Gr M F0 H0 F (upd H p o) := g.trans (.wr g.fh h hm)
theorem Gr.add {M : List Addr} {F0 H0 F H : Hp} {p : Addr} {o : HO} (g : Gr M F0 H0 F H) (h : H p = none) : Gr M F0 H0 (upd F p o) (upd H p o) := g.trans (.im g.fh h)
theorem Gr.addm {M : List Addr} {F0 H0 F H : Hp} {p : Addr} {o : HO} (g : Gr M F0 H0 F H) (h : H p = none) : Gr M F0 H0 F (upd H p o) := g.trans (.new g.fh h)
theorem Gr.ws {M : List Addr} {F H F2 H2 : Hp} (g : Gr M F H F2 H2) : Same F H2 := g.ff.trans g.fh
theorem Gr.transN {M N : List Addr} {F H F1 H1 F2 H2 : Hp} (a : Gr M F H F1 H1) (b : Gr N F1 H1 F2 H2) (h : ∀ x ∈ N, x ∈ M ∨ H x = none) : Gr M F H F2 H2 :=
  ⟨a.ff.trans b.ff, b.fh, fun x o n e => b.hh x o (fun m => (h x m).elim n fun z => by rw [z] at e; cases e) (a.hh x o n e), fun x e => b.al x (a.al x e), fun x e n => b.nw x (a.al x e) (a.nw x e n)⟩
/-- back to a smaller part that stays -/
theorem Gr.back {M : List Addr} {F F' H F2 H2 : Hp} (g : Gr M F' H F2 H2) (s : Same F F') : Gr M F H F H2 := ⟨Same.refl F, (s.trans g.ff).trans g.fh, g.hh, g.al, fun _ _ n => n⟩
theorem Gr.fresh {M : List Addr} {F0 H0 F H : Hp} {p : Addr} (g : Gr M F0 H0 F H) (h : H p = none) : H0 p = none := by
  cases e : H0 p with
  | none => rfl
  | some o => exact absurd h (g.al p (ne_none e))
/-- an object that was new behind the start, and changes no more -/
theorem Gr.frz {M : List Addr} {F0 H0 F H : Hp} {p : Addr} {o : HO} (g : Gr M F0 H0 F H) (hn : H0 p = none) (m : Mu F H p o) : Gr M F0 H0 (upd F p o) H := by
  refine ⟨g.ff.trans (Same.new m.n), fun a u e => ?_, g.hh, g.al, fun a e n => ?_⟩
  · by_cases q : a = p
    · subst q
      rw [upd_same] at e
      exact m.h.trans e
    · rw [upd_ne q] at e
      exact g.fh a u e
  · have q : a ≠ p := fun z => by subst z; exact e hn
    rw [upd_ne q]
    exact g.nw a e n
theorem Mu.same {F H : Hp} {p : Addr} {o : HO} (m : Mu F H p o) (w : Same F H) : Same (upd F p o) H := fun a u e => by
  by_cases q : a = p
  · subst q
    rw [upd_same] at e
    exact m.h.trans e
  · rw [upd_ne q] at e
    exact w a u e
theorem Mu.frz {F H : Hp} {p q : Addr} {o u : HO} (m : Mu F H p o) (h : p ≠ q) : Mu (upd F q u) H p o := ⟨by rw [upd_ne h]; exact m.n, m.h⟩
theorem Bag.frz {K : PySem.W.Frag} {F H : Hp} {b q : Addr} {u : HO} (h : Bag K F H b) (hn : F q = none) (hq : b ≠ q) : Bag K (upd F q u) H b := by
  obtain ⟨c, cells, i, cur, st, n, h1, h2, h3, h4⟩ := h.ex
  exact ⟨c, cells, i, cur, st, n, by rw [upd_ne hq]; exact h1, h2, sqL_same (Same.new hn) h3, h4⟩
theorem Bag.put {K : PySem.W.Frag} {F H : Hp} {b q : Addr} {u : HO} (h : Bag K F H b) (hq : b ≠ q) : Bag K F (upd H q u) b := by
  obtain ⟨c, cells, i, cur, st, n, h1, h2, h3, h4⟩ := h.ex
  exact ⟨c, cells, i, cur, st, n, h1, by rw [upd_ne hq]; exact h2, h3, h4⟩
theorem Bag.addm {K : PySem.W.Frag} {F H : Hp} {b q : Addr} {u : HO} (h : Bag K F H b) (hq : H q = none) : Bag K F (upd H q u) b := h.put (h.ne_new hq)
theorem Bag.add {K : PySem.W.Frag} {F H : Hp} {b q : Addr} {u : HO} (w : Same F H) (h : Bag K F H b) (hq : H q = none) : Bag K (upd F q u) (upd H q u) b := (h.addm hq).frz (w.free hq) (h.ne_new hq)
theorem Mu.addm {F H : Hp} {p q : Addr} {o u : HO} (m : Mu F H p o) (hq : H q = none) : Mu F (upd H q u) p o := m.oth (m.ne_new hq)
theorem Mu.add {F H : Hp} {p q : Addr} {o u : HO} (m : Mu F H p o) (hq : H q = none) : Mu (upd F q u) (upd H q u) p o := (m.addm hq).frz (m.ne_new hq)
/-- a draw, the whole growth carried -/
theorem d_draw {K : PySem.W.Frag} {M : List Addr} {F0 H0 F H : Hp} {b : Addr} {m : Int} {Q : VK} {E : XK} (g : Gr M F0 H0 F H) (hb : Bag K F H b) (h0 : 0 < m) (h1 : m < 2 ^ 200)
    (q : ∀ (r : Int) (F2 H2 : Hp), Gr M F0 H0 F2 H2 → Gr [b] F H F2 H2 → Bag K F2 H2 b → 0 ≤ r → r < m → Q (.int r) H2) (hm : b ∈ M := by simp) :
    S2 (φdraw K) ([.ref b, .int m] ++ []) H Q E := ⟨b, m, F, rfl, rfl, g.fh, hb, h0, h1, fun r F2 H2 g2 hb2 hr0 hr1 => q r F2 H2 (g.trans (g2.sub fun x hx => by rw [List.mem_singleton.mp hx]; exact hm)) g2 hb2 hr0 hr1⟩
/-! ### data -/
theorem dpa_len {K : PySem.W.Frag} {F : Hp} : ∀ {vs : List V} {ds : List PyData}, DpAll K F vs ds → vs.length = ds.length
  | _, _, .nil => rfl
  | _, _, .cons _ t => congrArg (· + 1) (dpa_len t)
theorem dpa_get {K : PySem.W.Frag} {F : Hp} : ∀ {vs : List V} {ds : List PyData} {i : Nat} {d : PyData}, DpAll K F vs ds → ds[i]? = some d → ∃ v, vs[i]? = some v ∧ Dp K F v d
  | _, _, _, _, .nil, e => by simp at e
  | _, _, 0, _, .cons h _, e => by
    have e' := Option.some.inj e
    subst e'
    exact ⟨_, rfl, h⟩
  | _, _, i + 1, _, .cons _ t, e => dpa_get (i := i) t e
theorem dpa_app {K : PySem.W.Frag} {F : Hp} : ∀ {vs us : List V} {ds es : List PyData}, DpAll K F vs ds → DpAll K F us es → DpAll K F (vs ++ us) (ds ++ es)
  | _, _, _, _, .nil, h => h
  | _, _, _, _, .cons h t, u => .cons h (dpa_app t u)
theorem dpa_snoc {K : PySem.W.Frag} {F : Hp} {vs : List V} {ds : List PyData} {v : V} {d : PyData} (h : DpAll K F vs ds) (hd : Dp K F v d) : DpAll K F (vs ++ [v]) (ds ++ [d]) := dpa_app h (.cons hd .nil)
def tyD : PyData → String
  | .none => "NoneType" | .bool _ => "bool" | .int _ => "int" | .str _ => "str" | .list _ => "list" | .tuple _ => "tuple" | .dict _ => "dict"
theorem tyx_of {K : PySem.W.Frag} {F H : Hp} {x : V} {d : PyData} (h : Dp K F x d) (w : Same F H) : TyX K H x (.type (tyD d)) := by
  cases h with
  | non => exact .base .non
  | bl b => exact .base (.bl b)
  | int i => exact .base (.int i)
  | str s => exact .base (.str s)
  | lst hs _ =>
    rcases hs with (h | ⟨o, h⟩) | ⟨o, its, n, e1, e2, _⟩
    · exact .base (.lst (w _ _ h))
    · exact .base (.frz (w _ _ h))
    · exact .kList e1 e2
  | tup hs _ =>
    rcases hs with (h | ⟨o, h⟩) | ⟨o, its, n, e1, e2, _⟩
    · exact .base (.tup (w _ _ h))
    · exact .fTuple (w _ _ h)
    · exact .kTuple e1 e2
section
variable {K : PySem.W.Frag} {F H : Hp} {x y : V} {d : PyData} {Q : VK} {n m : String} {p : Addr}
theorem u_isi {b : Bool} (h : Dp K F x d) (w : Same F H) (e : kitB (tyD d) n = some b) (q : Q (.bl b) H) : rIsi K [x, .ty n] H Q :=
  ⟨x, .ty n, _, _, b, rfl, .ty n, tyx_of h w, kit_ty e, q⟩
end
def isLst : PyData → Bool
  | .list _ => true
  | _ => false
def isTup : PyData → Bool
  | .tuple _ => true
  | _ => false
def isBol : PyData → Bool
  | .bool _ => true
  | _ => false
def isInt : PyData → Bool
  | .bool _ | .int _ => true
  | _ => false
def isStr : PyData → Bool
  | .str _ => true
  | _ => false
theorem k_bool : ∀ d : PyData, kitB (tyD d) "bool" = some (isBol d) := by intro d; cases d <;> simp only [tyD, isLst, isTup, isBol, isInt, isStr] <;> decide +kernel
theorem k_int : ∀ d : PyData, kitB (tyD d) "int" = some (isInt d) := by intro d; cases d <;> simp only [tyD, isLst, isTup, isBol, isInt, isStr] <;> decide +kernel
section
variable {K : PySem.W.Frag} {H : Hp} {Q : VK} {v : V} {A B : Prop}
theorem w_nself {α : Type} [DecidableEq α] {a : α} (h : B) : if (!decide (a = a)) = true then A else B := by
  rw [if_neg (by simp)]
  exact h
theorem w_self {α : Type} [DecidableEq α] {a : α} (h : A) : if decide (a = a) = true then A else B := by
  rw [if_pos (by simp)]
  exact h
theorem w_is {b c : Bool} (e : b = c) (h : if c = true then A else B) : if b = true then A else B := by rw [e]; exact h
end
theorem le1000 {n : Nat} (h : n ≤ 1000) : n ≤ sizeLine := Nat.le_of_lt (small1000 h)
theorem small_lt {n : Nat} (h : n ≤ 1000000) : n < sizeLine := by rw [sizeLine_eq]; omega
theorem all_rep (n : Nat) : (List.replicate n true).all id = true := by
  induction n with
  | zero => rfl
  | succ n ih => rw [List.replicate_succ, List.all_cons, ih]; rfl
theorem szle {n : Nat} (h : n ≤ 1000000) : n ≤ sizeLine := Nat.le_of_lt (by rw [sizeLine_eq]; omega)
section
variable {K : PySem.W.Frag} {σ : L2.St} {H : Hp} {Q : VK} {ta : TE}
theorem w_lstRg {te : L2.St → Hp → (Int → Int → Hp → Prop) → Prop} (q : te σ H fun a b H1 => RgOk a b ∧ ∀ q, H1 q = none → Q (.ref q) (upd H1 q (.lst (rgV a b)))) : tLstRg te σ H Q := q
theorem w_rg1 {R : Int → Int → Hp → Prop} (q : ta σ H fun x H1 => asInt x H1 fun n H2 => R 0 n H2) : tRg1 ta σ H R := q
theorem w_revL (q : ta σ H fun x H1 => ∃ a xs, x = .ref a ∧ SqL K H1 a xs ∧ ∀ p, H1 p = none → Q (.ref p) (upd H1 p (.lst xs.reverse))) : tRevL K ta σ H Q := q
end
def nV (l : List Nat) : List V := l.map fun k => V.int (k : Nat)
theorem rgV0 (n : Int) : rgV 0 n = nV (List.range n.toNat) := by
  unfold rgV nV
  rw [Int.sub_zero]
  refine List.map_congr_left fun k _ => ?_
  rw [Int.zero_add]
theorem nV_rev (l : List Nat) : (nV l).reverse = nV l.reverse := by
  unfold nV
  rw [List.map_reverse]
theorem nV_get {l : List Nat} {i : Nat} {x : V} (h : (nV l)[i]? = some x) : ∃ k, l[i]? = some k ∧ x = .int (k : Nat) := by
  unfold nV at h
  rw [List.getElem?_map] at h
  cases e : l[i]? with
  | none => rw [e] at h; cases h
  | some k =>
    rw [e] at h
    exact ⟨k, rfl, (Option.some.inj h).symm⟩
theorem pick_ix {ns : List Int} {i lo hi : Int} (h0 : 0 ≤ i) (h1 : i < (ns.length : Int)) (hb : ∀ x ∈ ns, lo ≤ x ∧ x ≤ hi) : ∃ m, atI (ns.map V.int) i = some (.int m) ∧ lo ≤ m ∧ m ≤ hi := by
  have hi : i.toNat < ns.length := by omega
  refine ⟨ns[i.toNat], ?_, hb _ (List.getElem_mem hi)⟩
  refine at_of (j := i.toNat) (by omega) ?_
  rw [List.getElem?_map, List.getElem?_eq_getElem hi]
  rfl
theorem rep_flat {α : Type} (n : Nat) (x : α) : (List.replicate n [x]).flatten = List.replicate n x := by
  induction n with
  | zero => rfl
  | succ n ih => rw [List.replicate_succ, List.flatten_cons, ih]; rfl
theorem cell_at {cells : List Int} {i : Int} (h0 : 0 ≤ i) (h1 : i < ((cells.map V.int).length : Nat)) : ∃ x, x ∈ cells ∧ atI (cells.map V.int) i = some (.int x) := by
  rw [List.length_map] at h1
  have hi : i.toNat < cells.length := by omega
  refine ⟨cells[i.toNat], List.getElem_mem hi, ?_⟩
  refine at_of (j := i.toNat) (by omega) ?_
  rw [List.getElem?_map, List.getElem?_eq_getElem hi]
  rfl
theorem cut63 {ns : List Int} (h : ns.length ≤ 63) : cutV (ns.map V.int) none (some 63) = ns.map V.int := by
  unfold cutV
  rw [HT.sIx_none, show HT.sIx (ns.map V.int).length (ns.map V.int).length (some 63) = min 63 (ns.map V.int).length from HT.sIx_nat _ _ 63, List.drop_zero, List.length_map]
  refine List.take_of_length_le ?_
  rw [List.length_map]
  omega
theorem map_get {ns : List Int} {i : Nat} {x : V} (h : (ns.map V.int)[i]? = some x) : ∃ c, x = .int c := by
  rw [List.getElem?_map] at h
  cases e : ns[i]? with
  | none => rw [e] at h; cases h
  | some c =>
    rw [e] at h
    exact ⟨c, (Option.some.inj h).symm⟩
/-! data of modest size, no dicts, plain signs -/
mutual
def good : PyData → Bool
  | .none | .bool _ | .int _ => true
  | .str x => PyData.strOk x && decide (x.length ≤ 100000)
  | .list ds | .tuple ds => decide (ds.length ≤ 100000) && goodAll ds
  | .dict _ => false
def goodAll : List PyData → Bool
  | [] => true
  | d :: ds => good d && goodAll ds
end
theorem goodAll_iff : ∀ {ds : List PyData}, goodAll ds = true ↔ ∀ d ∈ ds, good d = true
  | [] => by simp [goodAll]
  | d :: ds => by simp [goodAll, goodAll_iff (ds := ds)]
mutual
theorem lay_good : ∀ d : PyData, good d = true → d.canLay0 = true
  | .none, _ => rfl
  | .bool _, _ => rfl
  | .int _, _ => rfl
  | .str x, h => by
    rw [good, Bool.and_eq_true] at h
    exact h.1
  | .list ds, h => by
    rw [good, Bool.and_eq_true] at h
    exact lay_goodAll ds h.2
  | .tuple ds, h => by
    rw [good, Bool.and_eq_true] at h
    exact lay_goodAll ds h.2
  | .dict _, h => by cases h
theorem lay_goodAll : ∀ ds : List PyData, goodAll ds = true → PyData.canLayAll0 ds = true
  | [], _ => rfl
  | d :: ds, h => by
    rw [goodAll, Bool.and_eq_true] at h
    rw [PyData.canLayAll0, lay_good d h.1, lay_goodAll ds h.2]
    rfl
end
theorem good_shaped {d : PyData} (h : good d = true) (hd : d.depth ≤ 64) : SeqAt.shaped d = true := by
  unfold SeqAt.shaped
  rw [lay_good d h, decide_eq_true hd]
  rfl
theorem good_refl {d : PyData} (h : good d = true) : PyData.eqv d d = true := SeqAt.eqv_refl d (lay_good d h)
theorem good_list {ds : List PyData} (hl : ds.length ≤ 100000) (h : ∀ d ∈ ds, good d = true) : good (.list ds) = true := by
  rw [good, Bool.and_eq_true]
  exact ⟨decide_eq_true hl, goodAll_iff.mpr h⟩
theorem good_tuple {ds : List PyData} (hl : ds.length ≤ 100000) (h : ∀ d ∈ ds, good d = true) : good (.tuple ds) = true := by
  rw [good, Bool.and_eq_true]
  exact ⟨decide_eq_true hl, goodAll_iff.mpr h⟩
theorem depth_list {ds : List PyData} {n : Nat} (h : ∀ d ∈ ds, d.depth ≤ n) : (PyData.list ds).depth ≤ n + 1 := by
  have key : ∀ ds : List PyData, (∀ d ∈ ds, d.depth ≤ n) → PyData.depthAll ds ≤ n := by
    intro ds
    induction ds with
    | nil => intro _; exact Nat.zero_le _
    | cons d ds ih =>
      intro h
      rw [PyData.depthAll]
      exact Nat.max_le.mpr ⟨h d (List.mem_cons_self ..), ih fun e he => h e (List.mem_cons_of_mem _ he)⟩
  rw [PyData.depth]
  exact Nat.succ_le_succ (key ds h)
theorem depth_tuple {ds : List PyData} {n : Nat} (h : ∀ d ∈ ds, d.depth ≤ n) : (PyData.tuple ds).depth ≤ n + 1 := depth_list (ds := ds) h
/-! == and != of equal data -/
section
variable {K : PySem.W.Frag} {F H : Hp} {x y : V} {d : PyData} {Q : VK}
theorem u_eqD (w : Same F H) (hx : Dp K F x d) (hy : Dp K F y d) (hg : good d = true) (hd : d.depth ≤ 64) (q : Q (.bl true) H) : rEqD K x y H Q :=
  ⟨d, d, dp_same w _ _ hx, dp_same w _ _ hy, good_shaped hg hd, good_shaped hg hd, by rw [good_refl hg]; exact q⟩
end
end R
namespace R
open PySem L2
/-! ### data taken apart -/
section
variable {K : PySem.W.Frag} {F : Hp} {x v : V}
theorem dp_int {i : Int} (h : Dp K F x (.int i)) : x = .int i := by cases h; rfl
theorem dp_str {s : Str} (h : Dp K F x (.str s)) : x = .str s := by cases h; rfl
theorem dp_list {ds : List PyData} (h : Dp K F x (.list ds)) : ∃ (a : Addr) (vs : List V), x = .ref a ∧ SqL K F a vs ∧ DpAll K F vs ds := by
  cases h with
  | lst hs ha => exact ⟨_, _, rfl, hs, ha⟩
theorem dp_tup {ds : List PyData} (h : Dp K F x (.tuple ds)) : ∃ (a : Addr) (vs : List V), x = .ref a ∧ SqT K F a vs ∧ DpAll K F vs ds := by
  cases h with
  | tup hs ha => exact ⟨_, _, rfl, hs, ha⟩
theorem dpa_cons {vs : List V} {d : PyData} {ds : List PyData} (h : DpAll K F vs (d :: ds)) : ∃ v us, vs = v :: us ∧ Dp K F v d ∧ DpAll K F us ds := by
  cases h with
  | cons h t => exact ⟨_, _, rfl, h, t⟩
theorem dpa_nil {vs : List V} (h : DpAll K F vs []) : vs = [] := by cases h; rfl
theorem dp_tup3 {d1 d2 d3 : PyData} (h : Dp K F x (.tuple [d1, d2, d3])) : ∃ (a : Addr) (v1 v2 v3 : V), x = .ref a ∧ SqT K F a [v1, v2, v3] ∧ Dp K F v1 d1 ∧ Dp K F v2 d2 ∧ Dp K F v3 d3 := by
  obtain ⟨a, vs, rfl, hs, h0⟩ := dp_tup h
  obtain ⟨v1, us, rfl, h1, h0⟩ := dpa_cons h0
  obtain ⟨v2, us, rfl, h2, h0⟩ := dpa_cons h0
  obtain ⟨v3, us, rfl, h3, h0⟩ := dpa_cons h0
  cases dpa_nil h0
  exact ⟨a, v1, v2, v3, rfl, hs, h1, h2, h3⟩
theorem dp_tup4 {d1 d2 d3 d4 : PyData} (h : Dp K F x (.tuple [d1, d2, d3, d4])) : ∃ (a : Addr) (v1 v2 v3 v4 : V), x = .ref a ∧ SqT K F a [v1, v2, v3, v4] ∧ Dp K F v1 d1 ∧ Dp K F v2 d2 ∧ Dp K F v3 d3 ∧ Dp K F v4 d4 := by
  obtain ⟨a, vs, rfl, hs, h0⟩ := dp_tup h
  obtain ⟨v1, us, rfl, h1, h0⟩ := dpa_cons h0
  obtain ⟨v2, us, rfl, h2, h0⟩ := dpa_cons h0
  obtain ⟨v3, us, rfl, h3, h0⟩ := dpa_cons h0
  obtain ⟨v4, us, rfl, h4, h0⟩ := dpa_cons h0
  cases dpa_nil h0
  exact ⟨a, v1, v2, v3, v4, rfl, hs, h1, h2, h3, h4⟩
end
/-! ### texts -/
/-- a text of plain signs -/
def okS (z : Str) : Prop := PyData.strOk z = true
instance (z : Str) : Decidable (okS z) := inferInstanceAs (Decidable (PyData.strOk z = true))
theorem joined (ys : List Str) (h : ∀ y ∈ ys, y.length = 1 ∧ okS y) : (Txt.join ⟨#[]⟩ ys).length = ys.length ∧ okS (Txt.join ⟨#[]⟩ ys) := by
  have e : TL.tl (Txt.join ⟨#[]⟩ ys) = (ys.map TL.tl).flatten := by
    rw [TL.join_eq, TL.tl_join]
    have key : ∀ l : List (List Nat), TL.joinL [] l = l.flatten := by
      intro l
      induction l with
      | nil => rfl
      | cons p r ih =>
        cases r with
        | nil => simp [TL.joinL]
        | cons q r =>
          show p ++ ([] ++ TL.joinL [] (q :: r)) = _
          rw [ih, List.nil_append]
          rfl
    exact key _
  have hl : ∀ z : Str, z.length = (TL.tl z).length := fun z => by simp [TL.tl, Str.length]
  constructor
  · rw [hl, e]
    clear e
    induction ys with
    | nil => rfl
    | cons y r ih =>
      rw [List.map_cons, List.flatten_cons, List.length_append, ih fun z hz => h z (List.mem_cons_of_mem _ hz), ← hl, (h y (List.mem_cons_self ..)).1, List.length_cons]
      omega
  · show (Txt.join ⟨#[]⟩ ys).cps.all (· < 0x110000) = true
    rw [← Array.all_toList]
    show (TL.tl (Txt.join ⟨#[]⟩ ys)).all _ = true
    rw [e, List.all_eq_true]
    intro c hc
    obtain ⟨l, hl1, hc⟩ := List.mem_flatten.mp hc
    obtain ⟨y, hy, rfl⟩ := List.mem_map.mp hl1
    have h2 : y.cps.all (· < 0x110000) = true := (h y hy).2
    rw [← Array.all_toList, List.all_eq_true] at h2
    exact h2 c hc
theorem sum_ones : ∀ (ys : List Str), (∀ y ∈ ys, y.length = 1 ∧ okS y) → (ys.map (·.length)).sum = ys.length
  | [], _ => rfl
  | y :: r, h => by
    rw [List.map_cons, List.sum_cons, sum_ones r fun z hz => h z (List.mem_cons_of_mem _ hz), (h y (List.mem_cons_self ..)).1, List.length_cons]
    omega
theorem at_of' {α : Type} {xs : List α} {z : Int} {j : Nat} {v : α} (e : z = (j : Int)) (h : xs[j]? = some v) : atI xs z = some v := by
  rw [e]
  exact atI_nat h
theorem sign_at {z : Str} {r : Int} (ok : okS z) (h0 : 0 ≤ r) (h1 : r < (z.length : Nat)) : ∃ c : Nat, atI z.cps.toList r = some c ∧ okS ⟨#[c]⟩ := by
  have hi : r.toNat < z.cps.toList.length := by
    have : z.cps.toList.length = z.length := by simp [Str.length]
    omega
  refine ⟨z.cps.toList[r.toNat], at_of' (by omega) (List.getElem?_eq_getElem hi), ?_⟩
  have h2 : z.cps.all (· < 0x110000) = true := ok
  rw [← Array.all_toList, List.all_eq_true] at h2
  have h3 := h2 _ (List.getElem_mem hi)
  show (#[z.cps.toList[r.toNat]] : Array Nat).all (· < 0x110000) = true
  simpa using h3
theorem sign_get {z : Str} {k : Nat} (h1 : k < z.length) : atI z.cps.toList (k : Int) = some (z.cps.toList.getD k 0) := by
  have hi : k < z.cps.toList.length := by
    have : z.cps.toList.length = z.length := by simp [Str.length]
    omega
  refine atI_nat ?_
  rw [List.getD_eq_getElem?_getD, List.getElem?_eq_getElem hi]
  rfl
theorem ok_sign {z : Str} {k : Nat} (ok : okS z) (h1 : k < z.length) : okS ⟨#[z.cps.toList.getD k 0]⟩ := by
  have hi : k < z.cps.toList.length := by
    have : z.cps.toList.length = z.length := by simp [Str.length]
    omega
  have h2 : z.cps.all (· < 0x110000) = true := ok
  rw [← Array.all_toList, List.all_eq_true] at h2
  have h3 := h2 _ (List.getElem_mem hi)
  rw [List.getD_eq_getElem?_getD, List.getElem?_eq_getElem hi]
  show (#[z.cps.toList[k]] : Array Nat).all (· < 0x110000) = true
  simpa using h3
/-! ### rows of a plan -/
inductive Wd where | copy | keep | lay
  deriving DecidableEq
def Wd.s : Wd → Str
  | .copy => "copy" | .keep => "keep" | .lay => "lay"
inductive PRow where
  | put (to : Int) (s : Str)
  | mv (w : Wd) (to at_ n : Int)
def PRow.d : PRow → PyData
  | .put to s => .tuple [.str "put", .int to, .str s]
  | .mv w to a n => .tuple [.str w.s, .int to, .int a, .int n]
def PRow.size : PRow → Nat
  | .put _ s => s.length
  | .mv _ _ _ n => n.toNat
def PRow.ok : PRow → Prop
  | .put _ s => okS s ∧ s.length ≤ 5000
  | .mv _ _ _ n => 0 ≤ n ∧ n ≤ 5000
def wr (a : Str) (i : Int) (b : Str) (x : PyData) : PyData := .tuple [.str a, .int i, .str b, x]
def Wd.cell (w : Wd) : Str := if w = .keep then "slot" else "cell"
def Wd.src (w : Wd) : Str := if w = .lay then "slot" else "cell"
def PRow.steps (w : Wd) (to a n : Int) : List Nat := if w = .copy ∧ a < to then (List.range n.toNat).reverse else List.range n.toNat
def PRow.writes : PRow → List PyData
  | .put to s => (List.range s.length).map fun (k : Nat) => wr "cell" (to + k) "sign" (.str ⟨#[s.cps.toList.getD k 0]⟩)
  | .mv w to a n => (PRow.steps w to a n).map fun (k : Nat) => wr w.cell (to + k) w.src (.int (a + k))
theorem PRow.steps_len (w : Wd) (to a n : Int) : (PRow.steps w to a n).length = n.toNat := by
  unfold PRow.steps
  split
  · rw [List.length_reverse, List.length_range]
  · rw [List.length_range]
theorem PRow.writes_len (r : PRow) : r.writes.length = r.size := by
  cases r with
  | put to s => simp [PRow.writes, PRow.size]
  | mv w to a n => simp [PRow.writes, PRow.size, PRow.steps_len]
section
variable {K : PySem.W.Frag} {F : Hp} {x : V}
theorem dp_put {to : Int} {s : Str} (h : Dp K F x (PRow.put to s).d) : ∃ a, x = .ref a ∧ SqT K F a [.str "put", .int to, .str s] := by
  obtain ⟨a, v1, v2, v3, rfl, hs, h1, h2, h3⟩ := dp_tup3 h
  rw [dp_str h1, dp_int h2, dp_str h3] at hs
  exact ⟨a, rfl, hs⟩
theorem dp_mv {w : Wd} {to a n : Int} (h : Dp K F x (PRow.mv w to a n).d) : ∃ p, x = .ref p ∧ SqT K F p [.str w.s, .int to, .int a, .int n] := by
  obtain ⟨p, v1, v2, v3, v4, rfl, hs, h1, h2, h3, h4⟩ := dp_tup4 h
  rw [dp_str h1, dp_int h2, dp_int h3, dp_int h4] at hs
  exact ⟨p, rfl, hs⟩
end
/-- a new list of these data -/
structure NewL (K : PySem.W.Frag) (H F2 H2 : Hp) (a : Addr) (ds : List PyData) : Prop where
  nw : H a = none
  ex : ∃ vs, Mu F2 H2 a (.lst vs) ∧ DpAll K F2 vs ds
def φrow_writes (K : PySem.W.Frag) : V → Hp → VK → Prop := fun x H Q => ∃ (F : Hp) (r : PRow), Same F H ∧ Dp K F x r.d ∧ r.ok ∧
  ∀ (a : Addr) (F2 H2 : Hp), Gr [] F H F2 H2 → NewL K H F2 H2 a r.writes → Q (.ref a) H2
def φwrites (K : PySem.W.Frag) : V → Hp → VK → Prop := fun x H Q => ∃ (F : Hp) (rs : List PRow), Same F H ∧ Dp K F x (.list (rs.map PRow.d)) ∧ (∀ r ∈ rs, r.ok) ∧ (rs.map PRow.size).sum ≤ 50000 ∧
  ∀ (a : Addr) (F2 H2 : Hp), Gr [] F H F2 H2 → NewL K H F2 H2 a (rs.flatMap PRow.writes) → Q (.ref a) H2
/-! ### the law's makers -/
def φsign (K : PySem.W.Frag) : V → V → Hp → VK → Prop := fun x y H Q => ∃ (b : Addr) (f : Bool) (F : Hp), x = .ref b ∧ y = .bl f ∧ Same F H ∧ Bag K F H b ∧
  ∀ (s : Str) (F2 H2 : Hp), Gr [b] F H F2 H2 → Bag K F2 H2 b → s.length = 1 → okS s → Q (.str s) H2
def φtext (K : PySem.W.Frag) : V → V → V → Hp → VK → Prop := fun x y z H Q => ∃ (b : Addr) (f : Bool) (n : Int) (F : Hp), x = .ref b ∧ y = .bl f ∧ z = .int n ∧ Same F H ∧ Bag K F H b ∧ 0 ≤ n ∧ n ≤ 5000 ∧
  ∀ (s : Str) (F2 H2 : Hp), Gr [b] F H F2 H2 → Bag K F2 H2 b → (s.length : Int) = n → okS s → Q (.str s) H2
theorem w_ixL1 {z : Str} {r : Int} {n : Int} {H : Hp} {Q : VK} (ok : okS z) (hn : (z.length : Int) = n) (hs : z.length ≤ 1000) (r0 : 0 ≤ r) (r1 : r < n) (q : ∀ s : Str, s.length = 1 → okS s → Q (.str s) H) : rIxS (.str z) (.int r) H Q := by
  obtain ⟨c, ec, oc⟩ := sign_at (z := z) ok r0 (by rw [hn]; exact r1)
  exact w_ixS (le1000 hs) ec (q _ rfl oc)
/-- a list of truths of this length, that may change -/
def Hs (F H : Hp) (t : Addr) (n : Nat) : Prop := ∃ bs : List Bool, bs.length = n ∧ Mu F H t (.lst (bs.map V.bl))
theorem Hs.keep {M : List Addr} {F H F2 H2 : Hp} {t : Addr} {n : Nat} (g : Gr M F H F2 H2) (h : Hs F H t n) (ht : t ∉ M) : Hs F2 H2 t n := by
  obtain ⟨bs, l, m⟩ := h
  exact ⟨bs, l, g.mu m ht⟩
theorem Hs.addm {F H : Hp} {t p : Addr} {n : Nat} {u : HO} (h : Hs F H t n) (hp : H p = none) : Hs F (upd H p u) t n := by
  obtain ⟨bs, l, m⟩ := h
  exact ⟨bs, l, m.addm hp⟩
theorem Hs.add {F H : Hp} {t p : Addr} {n : Nat} {u : HO} (h : Hs F H t n) (hp : H p = none) : Hs (upd F p u) (upd H p u) t n := by
  obtain ⟨bs, l, m⟩ := h
  exact ⟨bs, l, m.add hp⟩
theorem Hs.ne_new {F H : Hp} {t q : Addr} {n : Nat} (h : Hs F H t n) (hq : H q = none) : t ≠ q := by
  obtain ⟨_, _, m⟩ := h
  exact m.ne_new hq
theorem Hs.put {F H : Hp} {t q : Addr} {n : Nat} {u : HO} (h : Hs F H t n) (hq : t ≠ q) : Hs F (upd H q u) t n := by
  obtain ⟨bs, l, m⟩ := h
  exact ⟨bs, l, m.oth hq⟩
theorem Hs.set {F H : Hp} {t p : Addr} {n : Nat} {cs : List Bool} (h : Hs F H t n) (hp : t = p → cs.length = n) (m : Mu F H p (.lst (cs.map V.bl))) {j : Nat} : Hs F (upd H p (.lst ((cs.map V.bl).set j (V.bl true)))) t n := by
  by_cases e : t = p
  · subst e
    refine ⟨cs.set j true, by rw [List.length_set]; exact hp rfl, ?_⟩
    rw [List.map_set]
    exact m.wr
  · obtain ⟨bs, l, m'⟩ := h
    exact ⟨bs, l, m'.oth e⟩
theorem ixN_in {n : Nat} {i : Int} (h0 : 0 ≤ i) (h1 : i < (n : Int)) : ixN n i = some i.toNat := by
  unfold ixN
  rw [if_pos h0, if_pos h1]
theorem u_emp {K : PySem.W.Frag} {H : Hp} {a p : Addr} {bs : List Bool} {Q : VK} (ha : SqL K H a (bs.map V.bl)) (hp : SqL K H p []) (hl : bs.length ≤ 1000) (q : Q (.bl (decide (bs.length = 0))) H) : rEqD K (.ref a) (.ref p) H Q := by
  have key : ∀ bs : List Bool, DpAll K H (bs.map V.bl) (bs.map PyData.bool) := by
    intro bs
    induction bs with
    | nil => exact .nil
    | cons b bs ih => exact .cons (.bl b) ih
  refine ⟨.list (bs.map PyData.bool), .list [], .lst ha (key bs), .lst hp .nil, ?_, ?_, ?_⟩
  · refine good_shaped (good_list (by rw [List.length_map]; omega) fun d hd => ?_) (Nat.le_trans (depth_list (n := 0) fun d hd => ?_) (by decide))
    · obtain ⟨b, _, rfl⟩ := List.mem_map.mp hd
      rfl
    · obtain ⟨b, _, rfl⟩ := List.mem_map.mp hd
      exact Nat.le_refl _
  · exact good_shaped rfl (by decide)
  · have e : PyData.eqv (.list (bs.map PyData.bool)) (.list []) = decide (bs.length = 0) := by
      cases bs with
      | nil => rfl
      | cons b bs => rfl
    rw [e]
    exact q
/-- four numbers: n, big, slots, rows -/
def φshape (K : PySem.W.Frag) : V → Hp → VK → Prop := fun x H Q => ∃ (b : Addr) (F : Hp), x = .ref b ∧ Same F H ∧ Bag K F H b ∧
  ∀ (t : Addr) (n big slots rows : Int) (F2 H2 : Hp), Gr [b] F H F2 H2 → Bag K F2 H2 b → F2 t = some (.tup [.int n, .int big, .int slots, .int rows]) → 0 ≤ n → n ≤ big → big ≤ 400 → 0 ≤ slots → slots ≤ 400 → 0 ≤ rows → rows ≤ 1000 → Q (.ref t) H2
theorem size_snoc (rs : List PRow) (r : PRow) : ((rs ++ [r]).map PRow.size).sum = (rs.map PRow.size).sum + r.size := by
  rw [List.map_append, List.sum_append]
  rfl
theorem ok_snoc {rs : List PRow} {r : PRow} (h : ∀ x ∈ rs, x.ok) (hr : r.ok) : ∀ x ∈ rs ++ [r], x.ok := by
  intro x hx
  rcases List.mem_append.mp hx with h1 | h1
  · exact h x h1
  · rw [List.mem_singleton.mp h1]
    exact hr
theorem row_at {K : PySem.W.Frag} {F : Hp} {us : List V} {rs : List PRow} {i : Nat} {x : V} (h : DpAll K F us (rs.map PRow.d)) (hx : us[i]? = some x) : ∃ r, rs[i]? = some r ∧ Dp K F x r.d := by
  have hl := dpa_len h
  have hi := (List.getElem?_eq_some_iff.mp hx).1
  rw [List.length_map] at hl
  have hr : rs[i]? = some rs[i] := List.getElem?_eq_getElem (by omega)
  obtain ⟨v, hv, dv⟩ := dpa_get (i := i) (d := rs[i].d) h (by rw [List.getElem?_map, hr]; rfl)
  rw [hx] at hv
  rw [Option.some.inj hv]
  exact ⟨_, hr, dv⟩
theorem flat_len : ∀ (rs : List PRow) (i : Nat), ((rs.take i).flatMap PRow.writes).length ≤ (rs.map PRow.size).sum
  | [], i => by simp
  | r :: rs, 0 => by simp
  | r :: rs, i + 1 => by
    rw [List.take_succ_cons, List.flatMap_cons, List.length_append, PRow.writes_len, List.map_cons, List.sum_cons]
    exact Nat.add_le_add_left (flat_len rs i) _
theorem flat_take {rs : List PRow} {i : Nat} {r : PRow} (h : rs[i]? = some r) : (rs.take (i + 1)).flatMap PRow.writes = (rs.take i).flatMap PRow.writes ++ r.writes := by
  rw [List.take_add_one, h, List.flatMap_append]
  simp
theorem rev_get {n i : Nat} (h : i < n) : (List.range n).reverse[i]? = some (n - 1 - i) := by
  rw [List.getElem?_reverse (by rw [List.length_range]; exact h), List.length_range, List.getElem?_range (by omega)]
theorem cell_ok : okS "cell" ∧ ("cell" : Str).length ≤ 100 := by decide +kernel
theorem slot_ok : okS "slot" ∧ ("slot" : Str).length ≤ 100 := by decide +kernel
theorem sign_ok : okS "sign" ∧ ("sign" : Str).length ≤ 100 := by decide +kernel
theorem str_good {z : Str} (h : okS z) (hl : z.length ≤ 100000) : good (.str z) = true := by
  rw [good, h, decide_eq_true hl]
  rfl
theorem row_good {r : PRow} (h : r.ok) : good r.d = true ∧ r.d.depth ≤ 1 := by
  cases r with
  | put to s =>
    constructor
    · refine good_tuple (by simp) fun d hd => ?_
      simp only [List.mem_cons, List.not_mem_nil, or_false] at hd
      rcases hd with rfl | rfl | rfl
      · decide +kernel
      · rfl
      · exact str_good h.1 (Nat.le_trans h.2 (by decide))
    · refine depth_tuple fun d hd => ?_
      simp only [List.mem_cons, List.not_mem_nil, or_false] at hd
      rcases hd with rfl | rfl | rfl <;> exact Nat.le_refl _
  | mv w to a n =>
    constructor
    · refine good_tuple (by simp) fun d hd => ?_
      simp only [List.mem_cons, List.not_mem_nil, or_false] at hd
      rcases hd with rfl | rfl | rfl | rfl
      · cases w <;> decide +kernel
      · rfl
      · rfl
      · rfl
    · refine depth_tuple fun d hd => ?_
      simp only [List.mem_cons, List.not_mem_nil, or_false] at hd
      rcases hd with rfl | rfl | rfl | rfl <;> exact Nat.le_refl _
theorem all_good {rs : List PRow} (h : ∀ r ∈ rs, r.ok) (hl : rs.length ≤ 100000) : good (.list (rs.map PRow.d)) = true ∧ (PyData.list (rs.map PRow.d)).depth ≤ 2 := by
  constructor
  · refine good_list (by rw [List.length_map]; exact hl) fun d hd => ?_
    obtain ⟨r, hr, rfl⟩ := List.mem_map.mp hd
    exact (row_good (h r hr)).1
  · refine depth_list fun d hd => ?_
    obtain ⟨r, hr, rfl⟩ := List.mem_map.mp hd
    exact (row_good (h r hr)).2
def φlaw (K : PySem.W.Frag) : V → Hp → VK → Prop := fun x H Q => ∃ (a : Addr) (ns : List Int), x = .ref a ∧ SqL K H a (ns.map V.int) ∧ ns.length ≤ 63 ∧ ∀ H', Q (.bl true) H'
theorem law_start {K : PySem.W.Frag} {H : Hp} (a : Addr) (ns : List Int) (hl : ns.length ≤ 63) (hO : Only H) (hS : SqL K H a (ns.map V.int)) : (S1 (φlaw K)) [.ref a] H (fun v _ => v = .bl true) fun _ _ _ => False := ⟨a, ns, rfl, hS, hl, fun _ => rfl⟩
end R
namespace R
open PySem PySem.Spec PyProof.Rows L2
/-- d.setdefault(t, z), t a tuple -/
def tDSetT (td ty tx : TE) : TE := fun σ H Q => td σ H fun x H1 => ∃ a, x = .ref a ∧ IsD H1 a ∧ ty σ H1 fun y H2 => tx σ H2 fun z H3 => ∃ (b : Addr) (kvs : List (List Key × V)) (k : List Key), H3 a = some (.dT kvs) ∧ y = .ref b ∧ H3 b = some (.tup (k.map kV)) ∧ kvs.length < sizeLine ∧
  (∀ v, valV kvs k = some v → Q v H3) ∧ (valV kvs k = none → Q z (upd H3 a (.dT (putK kvs k z))))
section
variable {X : Cx}
/-- sorted(d) of a dict of int keys, any number of them -/
def rSortD : List V → Hp → VK → Prop := fun xs H Q => ∃ (a : Addr) (kvs : List (Key × V)) (ks : List Int), xs = [.ref a] ∧ Rd H a (.dK kvs) ∧ kvs.map (·.1) = ks.map Sum.inl ∧
    ∀ (ys : List Int) (p : Addr), ys.Perm ks → ys.Pairwise (· ≤ ·) → H p = none → Q (.ref p) (upd H p (.lst (ys.map V.int)))
theorem clSortD (hcalm : X.calm = true := by rfl) : CallR X (.builtin "sorted") rSortD := by
  intro pins s σ H xs us Q I r q
  obtain ⟨a, kvs, ks, ex, hd, hks, q⟩ := q
  subst ex
  obtain ⟨u, eu, rx⟩ := vals1 r
  subst eu
  cases rx
  obtain ⟨z, lo, vs, rel, dd⟩ := dk_rd I.hok hd
  obtain ⟨ep, hat⟩ := dd.dictAt
  have hkeys : vs.map (·.1) = ks.map Sum.inl := rel.keys.symm.trans hks
  have hl : vs.length = ks.length := by
    have e := congrArg List.length hkeys
    rw [List.length_map, List.length_map] at e
    exact e
  have h16 : vs.length ≤ sizeLine := by rw [← rel.length]; exact z
  refine Calls.call_function_entry PyProof.Rows.kind_sorted PyProof.Rows.plain_sorted PyProof.Rows.entry_sorted (PyProof.Rows.args_sorted1 _) ?_
  unfold Builtin.«sorted»
  refine wpAny_bind (m := checkCount "sorted" 1 1 _) (wpAny_pure ?_)
  refine wpAny_bind (PySem.W.kdu_collect (A := X.A.in1) (PySem.W.kdl_dict (knd := mixKind X.prog X.w) (kvs := vs) (ep := ep) lo) (I.ok.hd hcalm) hat h16 fun h' tk acc hk hacc => ?_)
  have hal : acc.toList.length = ks.length := by rw [Array.length_toList, hacc.1, hl]
  have hS : IntsAre acc.toList ks := ints_each hal fun j v e => by
    obtain ⟨k, x, e1, e2⟩ := hacc.2 j v (by rw [← Array.getElem?_toList]; exact e)
    have e3 : (vs.map (·.1))[j]? = some k := by rw [List.getElem?_map, e1]; rfl
    rw [hkeys, List.getElem?_map] at e3
    cases e4 : ks[j]? with
    | none => rw [e4] at e3; cases e3
    | some y =>
      rw [e4] at e3
      have e5 : Sum.inl y = k := Option.some.inj e3
      subst e5
      rcases keyIs_shape (show keyIs (Sum.inl y) v = true from e2) with ⟨i, t, ek, ev⟩ | ⟨z, t, ek, ev⟩
      · cases ek
        exact ⟨y, t, rfl, ev⟩
      · cases ek
  have I1 : Inv X pins σ H { s with heap := h', toks := tk } := I.kept hk
  have hz2 : acc.toList.length ≤ sizeLine := by rw [hal, ← hl]; exact h16
  refine wpAny_bind (wpAny_newList ?_ hz2)
  have hoL : (h'.push (seqObj "list" acc.toList.toArray 0)).get? h'.objs.size = some (seqObj "list" acc.toList.toArray 0) := Heap.get?_push_size _ rfl
  show wpAny _ _ _ _ _ { s with heap := h'.push (seqObj "list" acc.toList.toArray 0), toks := tk }
  refine wpAny_bind (wpAny_holding (wpAny_call_entry PyProof.Rows.slot_list_sort ⟨_, hoL, rfl⟩ PyProof.Rows.entry_list_sort
    (SrtO.list_sort_ord (s := { s with heap := h'.push (seqObj "list" acc.toList.toArray 0), toks := tk }) SrtO.swo_int hoL hz2 (fun h2 => SrtO.ints_sortable hS h2) fun out h1 h2 => ⟨_, rfl, ?_⟩) (PyProof.Rows.args_list_sort _)))
  obtain ⟨k1, k2, k3⟩ := SrtO.ints_out hS h1 h2
  obtain ⟨e', he'⟩ := PyProof.Rows.sortedHeap_at (vs := acc.toList) (out := out.toArray) hoL
  have hlen : ((out.map SrtO.iv).map V.int).length ≤ sizeLine := by
    rw [List.length_map, k2.length_eq, ← hl]
    exact h16
  refine wpAny_pure ⟨_, rfl, .ref h'.objs.size, upd H h'.objs.size (.lst ((out.map SrtO.iv).map V.int)), I1.laid (t' := tk) (fun b u e => ?_) (Nat.le_refl _)
    (show ObjOk X.prog X.w _ _ _ (.lst ((out.map SrtO.iv).map V.int)) from ⟨hlen, out, e', vals_of_ints k1, he'⟩), rfl, q _ _ k2 k3 (I1.hok.fresh (Nat.le_refl _))⟩
  have hb : b < h'.objs.size := Heap.lt_size e
  rw [PyProof.Rows.sortedHeap_old (Nat.ne_of_lt hb) (by rw [size_push']; exact Nat.lt_succ_of_lt hb)]
  exact Heap.get?_push_of_some _ e
end
end R
namespace R
open PySem L2
/-! ### dicts in a reading -/
def gDGet (x y : V) (H : Hp) (Q : VK) : Prop := ∃ a v, x = .ref a ∧ DGet H a y (some v) ∧ Q v H
def gDIn (x y : V) (H : Hp) (Q : VK) : Prop := ∃ a o, x = .ref a ∧ DGet H a y o ∧ Q (.bl o.isSome) H
def gDNotIn (x y : V) (H : Hp) (Q : VK) : Prop := ∃ a o, x = .ref a ∧ DGet H a y o ∧ Q (.bl (!o.isSome)) H
def gDPut (x y v : V) (H : Hp) (Z : Hp → Prop) : Prop := ∃ a H4, x = .ref a ∧ DPut H a y v H4 ∧ Z H4
section
variable {K : PySem.W.Frag} {σ : L2.St} {H : Hp} {Q : VK} {td ty tv tx te : TE} {x y v : V} {nx bk ct : L2.St → Hp → Prop} {rt : VK} {D p : Addr} {kvs : List (List Key × V)} {ks : List Key}
theorem w_dnewT (q : ∀ p, H p = none → Q (.ref p) (upd H p (.dT []))) : tDNewT σ H Q := q
theorem w_dnewK (q : ∀ p, H p = none → Q (.ref p) (upd H p (.dK []))) : tDNewK σ H Q := q
theorem w_dget (q : td σ H fun x H1 => ty σ H1 fun y H2 => gDGet x y H2 Q) : tDGet td ty σ H Q := q
theorem w_din (q : ty σ H fun y H1 => td σ H1 fun x H2 => gDIn x y H2 Q) : tDIn ty td σ H Q := q
theorem w_dnotin (q : ty σ H fun y H1 => td σ H1 fun x H2 => gDNotIn x y H2 Q) : tDNotIn ty td σ H Q := q
theorem w_dput (q : tv σ H fun v H1 => td σ H1 fun x H2 => ty σ H2 fun y H3 => gDPut x y v H3 fun H4 => nx σ H4) : sDPut td ty tv ⟨nx, rt, bk, ct⟩ σ H := q
theorem w_dsetT (q : td σ H fun x H1 => ∃ a, x = .ref a ∧ IsD H1 a ∧ ty σ H1 fun y H2 => tx σ H2 fun z H3 => ∃ (b : Addr) (kvs : List (List Key × V)) (k : List Key), H3 a = some (.dT kvs) ∧ y = .ref b ∧ H3 b = some (.tup (k.map kV)) ∧ kvs.length < sizeLine ∧
  (∀ v, valV kvs k = some v → Q v H3) ∧ (valV kvs k = none → Q z (upd H3 a (.dT (putK kvs k z))))) : tDSetT td ty tx σ H Q := q
theorem w_dgetT (h : H D = some (.dT kvs)) (hp : H p = some (.tup (ks.map kV))) (e : valV kvs ks = some v) (q : Q v H) : gDGet (.ref D) (.ref p) H Q := ⟨D, v, rfl, e ▸ DGet.t h hp, q⟩
theorem w_dinT (h : H D = some (.dT kvs)) (hp : H p = some (.tup (ks.map kV))) (e : valV kvs ks = some v) (q : Q (.bl true) H) : gDIn (.ref D) (.ref p) H Q := ⟨D, some v, rfl, e ▸ DGet.t h hp, q⟩
theorem w_dinF (h : H D = some (.dT kvs)) (hp : H p = some (.tup (ks.map kV))) (e : valV kvs ks = none) (q : Q (.bl false) H) : gDIn (.ref D) (.ref p) H Q := ⟨D, none, rfl, e ▸ DGet.t h hp, q⟩
theorem w_dnotinT (h : H D = some (.dT kvs)) (hp : H p = some (.tup (ks.map kV))) (e : valV kvs ks = some v) (q : Q (.bl false) H) : gDNotIn (.ref D) (.ref p) H Q := ⟨D, some v, rfl, e ▸ DGet.t h hp, q⟩
theorem w_dnotinF (h : H D = some (.dT kvs)) (hp : H p = some (.tup (ks.map kV))) (e : valV kvs ks = none) (q : Q (.bl true) H) : gDNotIn (.ref D) (.ref p) H Q := ⟨D, none, rfl, e ▸ DGet.t h hp, q⟩
theorem w_dputT {Z : Hp → Prop} (h : H D = some (.dT kvs)) (hp : H p = some (.tup (ks.map kV))) (hl : kvs.length < sizeLine) (q : Z (upd H D (.dT (putK kvs ks v)))) : gDPut (.ref D) (.ref p) v H Z := ⟨D, _, rfl, DPut.t h hp hl, q⟩
theorem w_dputI {Z : Hp → Prop} {kvs : List (Key × V)} {i : Int} (h : H D = some (.dK kvs)) (hl : kvs.length < sizeLine) (q : Z (upd H D (.dK (putK kvs (.inl i) v)))) : gDPut (.ref D) (.int i) v H Z := ⟨D, _, rfl, DPut.k (k := .inl i) h hl, q⟩
end
theorem w_rg2 {σ : L2.St} {H : Hp} {ta tb : TE} {R : Int → Int → Hp → Prop} (q : ta σ H fun x H1 => tb σ H1 fun y H2 => ∃ i j, x = .int i ∧ y = .int j ∧ R i j H2) : tRg2 ta tb σ H R := q
/-! ### writes as acts -/
structure WAct where
  w : Str
  n : Int
  s : Str
  x : Key
def keyD : Key → PyData
  | .inl i => .int i
  | .inr z => .str z
def WAct.d (t : WAct) : PyData := .tuple [.str t.w, .int t.n, .str t.s, keyD t.x]
def WAct.wk (t : WAct) : List Key := [.inr t.w, .inl t.n]
def WAct.rk (t : WAct) : List Key := [.inr t.s, t.x]
def keyOk : Key → Prop
  | .inl _ => True
  | .inr z => okS z ∧ z.length ≤ 100
def WAct.ok (t : WAct) : Prop := (okS t.w ∧ t.w.length ≤ 100) ∧ (okS t.s ∧ t.s.length ≤ 100) ∧ keyOk t.x
theorem dp_key {K : PySem.W.Frag} {F : Hp} {x : V} {k : Key} (h : Dp K F x (keyD k)) : x = kV k := by
  cases k with
  | inl i => exact dp_int h
  | inr z => exact dp_str h
theorem key_dp {K : PySem.W.Frag} {F : Hp} (k : Key) : Dp K F (kV k) (keyD k) := by
  cases k with
  | inl i => exact .int i
  | inr z => exact .str z
theorem dp_act {K : PySem.W.Frag} {F : Hp} {x : V} {t : WAct} (h : Dp K F x t.d) : ∃ p, x = .ref p ∧ SqT K F p [.str t.w, .int t.n, .str t.s, kV t.x] := by
  obtain ⟨p, v1, v2, v3, v4, rfl, hs, h1, h2, h3, h4⟩ := dp_tup4 h
  rw [dp_str h1, dp_int h2, dp_str h3, dp_key h4] at hs
  exact ⟨p, rfl, hs⟩
/-! ### the fault of a row of acts -/
def getN (kvs : List (List Key × Nat)) (k : List Key) : Option Nat := (kvs.find? fun kv => decide (kv.1 = k)).map (·.2)
def toV (kvs : List (List Key × Nat)) : List (List Key × V) := kvs.map fun p => (p.1, V.int (p.2 : Nat))
theorem valV_toV (k : List Key) : ∀ kvs : List (List Key × Nat), valV (toV kvs) k = (getN kvs k).map fun n => V.int (n : Nat)
  | [] => rfl
  | p :: r => by
    have ih := valV_toV k r
    by_cases e : p.1 = k
    · rw [show toV (p :: r) = (p.1, V.int (p.2 : Nat)) :: toV r from rfl, valV_pos (p := (p.1, V.int (p.2 : Nat))) e]
      simp [getN, List.find?_cons, e]
    · rw [show toV (p :: r) = (p.1, V.int (p.2 : Nat)) :: toV r from rfl, valV_neg (p := (p.1, V.int (p.2 : Nat))) e, ih]
      simp [getN, List.find?_cons, e]
theorem valV_some {kvs : List (List Key × Nat)} {k : List Key} {n : Nat} (e : getN kvs k = some n) : valV (toV kvs) k = some (.int (n : Nat)) := by rw [valV_toV, e]; rfl
theorem valV_none {kvs : List (List Key × Nat)} {k : List Key} (e : getN kvs k = none) : valV (toV kvs) k = none := by rw [valV_toV, e]; rfl
theorem put_toV {kvs : List (List Key × Nat)} {k : List Key} {j : Nat} (e : getN kvs k = none) : putK (toV kvs) k (.int (j : Nat)) = toV (kvs ++ [(k, j)]) := by
  rw [putK_new _ (valV_none e)]
  simp [toV]
theorem getN_mem {kvs : List (List Key × Nat)} {k : List Key} {n : Nat} (e : getN kvs k = some n) : ∃ p ∈ kvs, p.2 = n := by
  unfold getN at e
  cases h : kvs.find? fun kv => decide (kv.1 = k) with
  | none => rw [h] at e; cases e
  | some p =>
    rw [h] at e
    exact ⟨p, List.mem_of_find?_eq_some h, Option.some.inj e⟩
def stepN (kvs : List (List Key × Nat)) (t : WAct) (j : Nat) : List (List Key × Nat) := if t.s = "sign" then kvs else
  match getN kvs t.rk with
  | some _ => kvs
  | none => kvs ++ [(t.rk, j)]
theorem step_sign {kvs : List (List Key × Nat)} {t : WAct} {j : Nat} (h : t.s = "sign") : stepN kvs t j = kvs := by unfold stepN; rw [if_pos h]
theorem step_old {kvs : List (List Key × Nat)} {t : WAct} {j n : Nat} (h : ¬ t.s = "sign") (e : getN kvs t.rk = some n) : stepN kvs t j = kvs := by unfold stepN; rw [if_neg h, e]
theorem step_new {kvs : List (List Key × Nat)} {t : WAct} {j : Nat} (h : ¬ t.s = "sign") (e : getN kvs t.rk = none) : stepN kvs t j = kvs ++ [(t.rk, j)] := by unfold stepN; rw [if_neg h, e]
theorem step_mem {kvs : List (List Key × Nat)} {t : WAct} {j : Nat} {p : List Key × Nat} (h : p ∈ stepN kvs t j) : p ∈ kvs ∨ p.2 = j := by
  unfold stepN at h
  split at h
  · exact .inl h
  · split at h
    · exact .inl h
    · rcases List.mem_append.mp h with h | h
      · exact .inl h
      · rw [List.mem_singleton.mp h]
        exact .inr rfl
def faultGo : List WAct → List (List Key × Nat) → Nat → Option (Nat × Nat)
  | [], _, _ => none
  | t :: ts, kvs, j => match getN kvs t.wk with
    | some i => some (i, j)
    | none => faultGo ts (stepN kvs t j) (j + 1)
theorem go_hit {t : WAct} {ts : List WAct} {kvs : List (List Key × Nat)} {j i : Nat} (e : getN kvs t.wk = some i) : faultGo (t :: ts) kvs j = some (i, j) := by rw [faultGo, e]
theorem go_miss {t : WAct} {ts : List WAct} {kvs : List (List Key × Nat)} {j : Nat} (e : getN kvs t.wk = none) : faultGo (t :: ts) kvs j = faultGo ts (stepN kvs t j) (j + 1) := by rw [faultGo, e]
def stretch (acts : List WAct) (first last : Nat) : List WAct := (acts.drop first).take (last - first)
def faultFrom (acts : List WAct) (first last : Nat) : Option (Nat × Nat) := faultGo (stretch acts first last) [] first
theorem stretch_len (acts : List WAct) (first last : Nat) (hl : last ≤ acts.length) : (stretch acts first last).length = last - first := by
  unfold stretch
  rw [List.length_take, List.length_drop]
  omega
theorem stretch_at {acts : List WAct} {first last i : Nat} (h : i < last - first) (hl : last ≤ acts.length) : ∃ t, acts[first + i]? = some t ∧ (stretch acts first last).drop i = t :: (stretch acts first last).drop (i + 1) := by
  have h1 : i < (stretch acts first last).length := by rw [stretch_len _ _ _ hl]; exact h
  refine ⟨(stretch acts first last)[i], ?_, List.drop_eq_getElem_cons h1⟩
  have e : (stretch acts first last)[i]? = acts[first + i]? := by
    unfold stretch
    rw [List.getElem?_take_of_lt h, List.getElem?_drop]
  rw [← e]
  exact List.getElem?_eq_getElem h1
theorem go_range : ∀ (ts : List WAct) (kvs : List (List Key × Nat)) (j lo i b : Nat), lo ≤ j → (∀ p ∈ kvs, lo ≤ p.2 ∧ p.2 < j) → faultGo ts kvs j = some (i, b) → lo ≤ i ∧ i < b ∧ b < j + ts.length
  | [], _, _, _, _, _, _, _, e => by rw [faultGo] at e; cases e
  | t :: ts, kvs, j, lo, i, b, hlo, hk, e => by
    cases h : getN kvs t.wk with
    | some n =>
      rw [go_hit h] at e
      have e' := Option.some.inj e
      cases e'
      obtain ⟨p, hp, rfl⟩ := getN_mem h
      have := hk p hp
      rw [List.length_cons]
      exact ⟨this.1, this.2, by omega⟩
    | none =>
      rw [go_miss h] at e
      have := go_range ts (stepN kvs t j) (j + 1) lo i b (by omega) (fun p hp => by
        rcases step_mem hp with hp | hp
        · have := hk p hp
          omega
        · omega) e
      rw [List.length_cons]
      omega
theorem from_range {acts : List WAct} {first last i b : Nat} (hl : last ≤ acts.length) (e : faultFrom acts first last = some (i, b)) : first ≤ i ∧ i < b ∧ b < last := by
  have := go_range (stretch acts first last) [] first first i b (Nat.le_refl _) (fun p hp => by cases hp) e
  rw [stretch_len _ _ _ hl] at this
  omega
/-- a fault as a value -/
def ResV (F : Hp) (v : V) : Option (Nat × Nat) → Prop
  | none => v = .non
  | some (i, j) => ∃ p, v = .ref p ∧ F p = some (.tup [.int (i : Nat), .int (j : Nat)])
theorem ResV.same {F F2 : Hp} {v : V} {o : Option (Nat × Nat)} (h : ResV F v o) (w : Same F F2) : ResV F2 v o := by
  cases o with
  | none => exact h
  | some p =>
    obtain ⟨a, e1, e2⟩ := h
    exact ⟨a, e1, w _ _ e2⟩
def φfault (K : PySem.W.Frag) : V → V → V → Hp → VK → Prop := fun x y z H Q => ∃ (F : Hp) (acts : List WAct) (first last : Nat), y = .int (first : Nat) ∧ z = .int (last : Nat) ∧ Same F H ∧ Dp K F x (.list (acts.map WAct.d)) ∧ first ≤ acts.length ∧ last ≤ acts.length ∧ acts.length ≤ 100000 ∧
  ∀ (v : V) (F2 H2 : Hp), Gr [] F H F2 H2 → ResV F2 v (faultFrom acts first last) → Q v H2
theorem act_at {K : PySem.W.Frag} {F : Hp} {us : List V} {acts : List WAct} {i : Nat} {t : WAct} (h : DpAll K F us (acts.map WAct.d)) (e : acts[i]? = some t) : ∃ p, us[i]? = some (.ref p) ∧ SqT K F p [.str t.w, .int t.n, .str t.s, kV t.x] := by
  obtain ⟨v, gv, dv⟩ := dpa_get (i := i) (d := t.d) h (by rw [List.getElem?_map, e]; rfl)
  obtain ⟨p, rfl, hp⟩ := dp_act dv
  exact ⟨p, gv, hp⟩
/-! ### the law's makers -/
/-- marks that stay -/
structure Mks (F : Hp) (p : Addr) (n : Nat) (ms : List Nat) : Prop where
  at_ : F p = some (.lst (nV ms))
  ok : ∀ k ∈ ms, 1 ≤ k ∧ k < n
  len : ms.length ≤ 20000
theorem Mks.same {F F2 : Hp} {p : Addr} {n : Nat} {ms : List Nat} (h : Mks F p n ms) (w : Same F F2) : Mks F2 p n ms := ⟨w _ _ h.at_, h.ok, h.len⟩
theorem ints_nat {n : Nat} : ∀ {ys : List Int}, (∀ k ∈ ys, 1 ≤ k ∧ k < (n : Int)) → ∃ ms : List Nat, ys.map V.int = nV ms ∧ (∀ k ∈ ms, 1 ≤ k ∧ k < n) ∧ ms.length = ys.length
  | [], _ => ⟨[], rfl, by simp, rfl⟩
  | y :: ys, h => by
    obtain ⟨ms, e, h1, h2⟩ := ints_nat (ys := ys) fun k hk => h k (List.mem_cons_of_mem _ hk)
    have hy := h y (List.mem_cons_self ..)
    refine ⟨y.toNat :: ms, ?_, fun k hk => ?_, by rw [List.length_cons, List.length_cons, h2]⟩
    · show V.int y :: ys.map V.int = V.int (y.toNat : Nat) :: nV ms
      rw [e, Int.toNat_of_nonneg (by omega)]
    · rcases List.mem_cons.mp hk with rfl | hk
      · omega
      · exact h1 k hk
/-- a list of lists of marks -/
def PL (F : Hp) (n : Nat) (v : V) : Prop := ∃ p ms, v = .ref p ∧ Mks F p n ms
theorem PL.same {F F2 : Hp} {n : Nat} {v : V} (h : PL F n v) (w : Same F F2) : PL F2 n v := by
  obtain ⟨p, ms, e, m⟩ := h
  exact ⟨p, ms, e, m.same w⟩
end R
namespace R
open PySem PySem.Spec PyProof.Rows L2
/-! ### a op1 b op2 c op3 d -/
def tChain3 (r1 r2 r3 : R2) (ta tb tc td : TE) : TE := fun σ H Q => ta σ H fun x H1 => tb σ H1 fun y H2 => r1 x y H2 fun z H3 => asBl z H3 fun k H3 =>
  if k = true then tc σ H3 fun w H4 => r2 y w H4 fun z2 H5 => asBl z2 H5 fun k2 H5 => if k2 = true then td σ H5 fun u H6 => r3 w u H6 Q else Q (.bl false) H5 else Q (.bl false) H3
section
variable {σ : L2.St} {H : Hp} {Q : VK} {ta tb tc td : TE} {r r1 r2 r3 : R2}
theorem w_chain3 (q : ta σ H fun x H1 => tb σ H1 fun y H2 => r1 x y H2 fun z H3 => asBl z H3 fun k H3 =>
  if k = true then tc σ H3 fun w H4 => r2 y w H4 fun z2 H5 => asBl z2 H5 fun k2 H5 => if k2 = true then td σ H5 fun u H6 => r3 w u H6 Q else Q (.bl false) H5 else Q (.bl false) H3) : tChain3 r1 r2 r3 ta tb tc td σ H Q := q
theorem w_chain (q : ta σ H fun x H1 => tb σ H1 fun y H2 => r1 x y H2 fun z H3 => asBl z H3 fun k H3 => if k = true then tc σ H3 fun w H4 => r2 y w H4 Q else Q (.bl false) H3) : tChain r1 r2 ta tb tc σ H Q := q
end
/-! ### the fewest marks -/
def fewGo : List WAct → List (List Key × Nat) → Nat → List Nat × List (Nat × Nat)
  | [], _, _ => ([], [])
  | t :: ts, kvs, j => match getN kvs t.wk with
    | some i => (j :: (fewGo ts (stepN [] t j) (j + 1)).1, (i, j) :: (fewGo ts (stepN [] t j) (j + 1)).2)
    | none => fewGo ts (stepN kvs t j) (j + 1)
def few (acts : List WAct) : List Nat × List (Nat × Nat) := fewGo acts [] 0
/-! ### pairs as values -/
def PrV (F : Hp) : List V → List (Nat × Nat) → Prop
  | [], [] => True
  | v :: vs, p :: ps => (∃ t, v = .ref t ∧ F t = some (.tup [.int (p.1 : Nat), .int (p.2 : Nat)])) ∧ PrV F vs ps
  | _, _ => False
theorem PrV.same {F F2 : Hp} (w : Same F F2) : ∀ {vs : List V} {ps : List (Nat × Nat)}, PrV F vs ps → PrV F2 vs ps
  | [], [], _ => trivial
  | v :: vs, p :: ps, ⟨⟨t, e1, e2⟩, h⟩ => ⟨⟨t, e1, w _ _ e2⟩, PrV.same w h⟩
theorem PrV.len {F : Hp} : ∀ {vs : List V} {ps : List (Nat × Nat)}, PrV F vs ps → vs.length = ps.length
  | [], [], _ => rfl
  | v :: vs, p :: ps, ⟨_, h⟩ => congrArg (· + 1) (PrV.len h)
theorem nV_len (l : List Nat) : (nV l).length = l.length := by unfold nV; rw [List.length_map]
def twoD (p : Nat × Nat) : PyData := .tuple [.int (p.1 : Nat), .int (p.2 : Nat)]
theorem PrV.dpa {K : PySem.W.Frag} {F : Hp} : ∀ {vs : List V} {ps : List (Nat × Nat)}, PrV F vs ps → DpAll K F vs (ps.map twoD)
  | [], [], _ => .nil
  | v :: vs, p :: ps, ⟨⟨t, e1, e2⟩, h⟩ => .cons (e1 ▸ .tup (sqT_of e2) (.cons (.int _) (.cons (.int _) .nil))) (PrV.dpa h)
/-! ### promises -/
def φwholeF : V → Hp → VK → Prop := fun x H Q => ∃ i : Int, x = .int i ∧ Q (.bl true) H
/-! ### the writes of a plan as acts -/
def PRow.acts : PRow → List WAct
  | .put to s => (List.range s.length).map fun (k : Nat) => ⟨"cell", to + k, "sign", .inr ⟨#[s.cps.toList.getD k 0]⟩⟩
  | .mv w to a n => (PRow.steps w to a n).map fun (k : Nat) => ⟨w.cell, to + k, w.src, .inl (a + k)⟩
theorem acts_writes (r : PRow) : r.acts.map WAct.d = r.writes := by
  cases r with
  | put to s =>
    unfold PRow.acts PRow.writes
    rw [List.map_map]
    rfl
  | mv w to a n =>
    unfold PRow.acts PRow.writes
    rw [List.map_map]
    rfl
theorem acts_all (rs : List PRow) : (rs.flatMap PRow.acts).map WAct.d = rs.flatMap PRow.writes := by
  rw [List.map_flatMap]
  exact congrArg (fun f => rs.flatMap f) (funext acts_writes)
theorem acts_ok {r : PRow} (h : r.ok) : ∀ t ∈ r.acts, t.ok := by
  intro t ht
  cases r with
  | put to s =>
    obtain ⟨k, hk, rfl⟩ := List.mem_map.mp ht
    have hk2 := List.mem_range.mp hk
    exact ⟨cell_ok, sign_ok, ok_sign h.1 hk2, by show 1 ≤ 100; decide⟩
  | mv w to a n =>
    obtain ⟨k, hk, rfl⟩ := List.mem_map.mp ht
    refine ⟨?_, ?_, trivial⟩
    · cases w <;> first | exact cell_ok | exact slot_ok
    · cases w <;> first | exact cell_ok | exact slot_ok
theorem acts_all_ok {rs : List PRow} (h : ∀ r ∈ rs, r.ok) : ∀ t ∈ rs.flatMap PRow.acts, t.ok := by
  intro t ht
  obtain ⟨r, hr, ht⟩ := List.mem_flatMap.mp ht
  exact acts_ok (h r hr) t ht
end R
namespace R
open PySem L2
/-! ### parts of the heap, one beside the other -/
structure Own where
  as : List Addr
  φ : Hp → Hp → Prop
  st : ∀ {F H F2 H2 : Hp}, Same F F2 → (∀ a ∈ as, ∀ o, H a = some o → H2 a = some o) → (∀ a ∈ as, F a = none → F2 a = none) → φ F H → φ F2 H2
  al : ∀ {F H : Hp}, φ F H → ∀ a ∈ as, H a ≠ none
theorem Own.gr (o : Own) {M : List Addr} {F H F2 H2 : Hp} (g : Gr M F H F2 H2) (h : ∀ a ∈ o.as, a ∉ M) (x : o.φ F H) : o.φ F2 H2 :=
  o.st g.ff (fun a m u e => g.hh a u (h a m) e) (fun a m e => g.nw a (o.al x a m) e) x
def mu (p : Addr) (o : HO) : Own := ⟨[p], fun F H => Mu F H p o, fun s h n m => ⟨n p (List.mem_singleton.mpr rfl) m.n, h p (List.mem_singleton.mpr rfl) o m.h⟩, fun m a h => by
  rw [List.mem_singleton.mp h]
  exact ne_none m.h⟩
def bag (K : PySem.W.Frag) (b : Addr) : Own := ⟨[b], fun F H => Bag K F H b, fun s h n m => by
  obtain ⟨c, cells, i, cur, st, k, h1, h2, h3, h4⟩ := m.ex
  exact ⟨c, cells, i, cur, st, k, n b (List.mem_singleton.mpr rfl) h1, h b (List.mem_singleton.mpr rfl) _ h2, sqL_same s h3, h4⟩, fun m a h => by
  rw [List.mem_singleton.mp h]
  obtain ⟨c, cells, i, cur, st, k, h1, h2, h3, h4⟩ := m.ex
  exact ne_none h2⟩
def pur (φ : Hp → Prop) (h : ∀ {F F2 : Hp}, Same F F2 → φ F → φ F2) : Own := ⟨[], fun F _ => φ F, fun s _ _ x => h s x, fun _ a h => nomatch h⟩
def dpa (K : PySem.W.Frag) (vs : List V) (ds : List PyData) : Own := pur (fun F => DpAll K F vs ds) fun s x => dpa_same s _ _ x
def imL (K : PySem.W.Frag) (a : Addr) (xs : List V) : Own := pur (fun F => SqL K F a xs) fun s x => sqL_same s x
def imT (K : PySem.W.Frag) (a : Addr) (xs : List V) : Own := pur (fun F => SqT K F a xs) fun s x => sqT_same s x
/-- an object that stays -/
def fx (p : Addr) (o : HO) : Own := pur (fun F => F p = some o) fun s x => s _ _ x
abbrev ads (L : List Own) : List Addr := L.flatMap Own.as
structure St (F H : Hp) (L : List Own) : Prop where
  s : Same F H
  i : ∀ o ∈ L, o.φ F H
  d : (ads L).Nodup
structure W (M : List Addr) (F0 H0 F H : Hp) (L : List Own) : Prop where
  g : Gr M F0 H0 F H
  i : ∀ o ∈ L, o.φ F H
  d : (ads L).Nodup
  o : ∀ a ∈ ads L, a ∈ M ∨ H0 a = none
/-- D taken out of L leaves Rs -/
inductive Rm (x : Own) : List Own → List Own → Prop
  | here {L : List Own} : Rm x (x :: L) L
  | there {y : Own} {L Rs : List Own} : Rm x L Rs → Rm x (y :: L) (y :: Rs)
inductive Pick : List Own → List Own → List Own → Prop
  | nil {L : List Own} : Pick L [] L
  | cons {o : Own} {L L1 D Rs : List Own} : Rm o L L1 → Pick L1 D Rs → Pick L (o :: D) Rs
theorem Rm.perm {x : Own} {L Rs : List Own} (h : Rm x L Rs) : L.Perm (x :: Rs) := by
  induction h with
  | here => exact .refl _
  | there _ ih => exact (ih.cons _).trans (.swap _ _ _)
theorem Pick.perm {L D Rs : List Own} (h : Pick L D Rs) : L.Perm (D ++ Rs) := by
  induction h with
  | nil => exact .refl _
  | cons h _ ih => exact h.perm.trans (ih.cons _)
theorem ads_perm {L L' : List Own} (h : L.Perm L') : (ads L).Perm (ads L') := h.flatMap_right Own.as
theorem ads_app (L L' : List Own) : ads (L ++ L') = ads L ++ ads L' := by simp [ads]
section
variable {K : PySem.W.Frag} {M N : List Addr} {F0 H0 F H F1 H1 F2 H2 : Hp} {L L2 D Rs : List Own} {p a : Addr} {u o2 : HO}
theorem W.perm (w : W M F0 H0 F H L) (h : L.Perm L2) : W M F0 H0 F H L2 :=
  ⟨w.g, fun o m => w.i o (h.mem_iff.mpr m), (ads_perm h).nodup_iff.mp w.d, fun a m => w.o a ((ads_perm h).mem_iff.mpr m)⟩
theorem W.to (w : W M F0 H0 F H L) (k : Pick L D Rs) : W M F0 H0 F H D := by
  have w := w.perm k.perm
  refine ⟨w.g, fun o m => w.i o (List.mem_append_left _ m), ?_, fun a m => w.o a (by rw [ads_app]; exact List.mem_append_left _ m)⟩
  have h := w.d
  rw [ads_app] at h
  exact (List.nodup_append.mp h).1
def Pk (L D : List Own) : Prop := ∃ Rs, Pick L D Rs
theorem W.pk (w : W M F0 H0 F H L) (k : Pk L D) : W M F0 H0 F H D := k.elim fun _ k => w.to k
theorem W.st (w : W M F0 H0 F H L) (k : Pick L D Rs) : St F H D := ⟨w.g.fh, (w.to k).i, (w.to k).d⟩
theorem St.w (s : St F H L) (h : M = ads L := by rfl) : W M F H F H L := ⟨.refl s.s, s.i, s.d, fun a m => .inl (by rw [h]; exact m)⟩
theorem W.start (s : Same F H) : W M F H F H [] := ⟨.refl s, (fun _ h => nomatch h), .nil, (fun _ h => nomatch h)⟩
theorem W.call (w : W M F0 H0 F H L) (k : Pick L D Rs) (w2 : W N F H F2 H2 L2) (hN : N = ads D := by rfl) : W M F0 H0 F2 H2 (L2 ++ Rs) := by
  subst hN
  have w := w.perm k.perm
  have hd := w.d
  have ho := w.o
  rw [ads_app] at hd ho
  obtain ⟨d1, d2, d3⟩ := List.nodup_append.mp hd
  have hR : ∀ a ∈ ads Rs, H a ≠ none := fun a m => by
    obtain ⟨o, mo, ma⟩ := List.mem_flatMap.mp m
    exact o.al (w.i o (List.mem_append_right _ mo)) a ma
  refine ⟨w.g.transN w2.g fun x m => ho x (List.mem_append_left _ m), fun o m => ?_, ?_, fun a m => ?_⟩
  · rcases List.mem_append.mp m with m | m
    · exact w2.i o m
    · refine o.gr w2.g (fun a ha hb => d3 a hb a (List.mem_flatMap.mpr ⟨o, m, ha⟩) rfl) (w.i o (List.mem_append_right _ m))
  · rw [ads_app]
    refine List.nodup_append.mpr ⟨w2.d, d2, fun a ha b hb e => ?_⟩
    subst e
    rcases w2.o a ha with h | h
    · exact d3 a h a hb rfl
    · exact hR a hb h
  · rw [ads_app] at m
    rcases List.mem_append.mp m with m | m
    · rcases w2.o a m with h | h
      · exact ho a (List.mem_append_left _ h)
      · exact .inr (w.g.fresh h)
    · exact ho a (List.mem_append_right _ m)
theorem W.ws (w : W M F0 H0 F H L) : Same F0 H := w.g.ws
theorem W.fh (w : W M F0 H0 F H L) : Same F H := w.g.fh
theorem W.ff (w : W M F0 H0 F H L) : Same F0 F := w.g.ff
theorem W.push (w : W M F0 H0 F H L) (o : Own) (h : o.φ F H) (e : o.as = [] := by rfl) : W M F0 H0 F H (o :: L) := by
  refine ⟨w.g, fun q m => ?_, ?_, fun a m => ?_⟩
  · rcases List.mem_cons.mp m with rfl | m
    · exact h
    · exact w.i q m
  · show ((o :: L).flatMap Own.as).Nodup
    rw [List.flatMap_cons, e]
    exact w.d
  · have m' : a ∈ (o :: L).flatMap Own.as := m
    rw [List.flatMap_cons, e] at m'
    exact w.o a m'
/-- a new object that stays -/
theorem W.im (w : W M F0 H0 F H L) (h : H p = none) : W M F0 H0 (upd F p u) (upd H p u) L := by
  have w2 : W [] F H (upd F p u) (upd H p u) [] := ⟨.im w.g.fh h, (fun _ h => nomatch h), .nil, (fun _ h => nomatch h)⟩
  exact w.call .nil w2
/-- a new object that may change -/
theorem W.nw (w : W M F0 H0 F H L) (h : H p = none) : W M F0 H0 F (upd H p u) (mu p u :: L) := by
  have w2 : W [] F H F (upd H p u) [mu p u] := by
    refine ⟨.new w.g.fh h, fun q m => ?_, ?_, fun a m => ?_⟩
    · rw [List.mem_singleton.mp m]
      exact Mu.new w.g.fh h
    · show ([p] : List Addr).Nodup
      simp
    · have : a = p := List.mem_singleton.mp m
      subst this
      exact .inr h
  exact w.call .nil w2
/-- a change -/
theorem W.wr (w : W M F0 H0 F H L) (k : Pick L [mu p o2] Rs) : W M F0 H0 F (upd H p u) (mu p u :: Rs) := by
  have m : Mu F H p o2 := (w.to k).i _ (List.mem_singleton.mpr rfl)
  have w2 : W [p] F H F (upd H p u) [mu p u] := by
    refine ⟨.wr w.g.fh m.n (List.mem_singleton.mpr rfl), fun q h => ?_, ?_, fun a h => ?_⟩
    · rw [List.mem_singleton.mp h]
      exact m.wr
    · show ([p] : List Addr).Nodup
      simp
    · exact .inl h
  exact w.call k w2 rfl
/-- an object that changes no more -/
theorem W.fz (w : W M F0 H0 F H L) (k : Pick L [mu p u] Rs) (hn : H0 p = none) : W M F0 H0 (upd F p u) H Rs := by
  have w := w.perm k.perm
  have m : Mu F H p u := w.i _ (List.mem_cons_self ..)
  have hd := w.d
  rw [ads_app] at hd
  obtain ⟨d1, d2, d3⟩ := List.nodup_append.mp hd
  refine ⟨w.g.frz hn m, fun o ho => ?_, d2, fun a ha => w.o a (by rw [ads_app]; exact List.mem_append_right _ ha)⟩
  have hp : ∀ a ∈ o.as, a ≠ p := fun a ha e => d3 p (List.mem_singleton.mpr rfl) a (List.mem_flatMap.mpr ⟨o, ho, ha⟩) e.symm
  refine o.st (Same.new m.n) (fun a _ _ e => e) (fun a ha e => ?_) (w.i o (List.mem_append_right _ ho))
  rw [upd_ne (hp a ha)]
  exact e
theorem W.fzL {xs : List V} (w : W M F0 H0 F H L) (k : Pick L [mu p (.lst xs)] Rs) (hn : H0 p = none) : ∃ F2, W M F0 H0 F2 H (fx p (.lst xs) :: Rs) := ⟨_, (w.fz k hn).push (fx p (.lst xs)) upd_same⟩
end
inductive App : List Own → List Own → List Own → Prop
  | nil {Rs : List Own} : App [] Rs Rs
  | cons {o : Own} {L Rs L' : List Own} : App L Rs L' → App (o :: L) Rs (o :: L')
theorem App.eq {L Rs L' : List Own} (h : App L Rs L') : L ++ Rs = L' := by
  induction h with
  | nil => rfl
  | cons _ ih => rw [List.cons_append, ih]
section
variable {K : PySem.W.Frag} {M N : List Addr} {F0 H0 F H F1 H1 F2 H2 : Hp} {L L2 L3 D Rs : List Own} {p a : Addr} {u o2 : HO} {xs ys : List V} {ds : List PyData} {d : PyData} {v : V}
theorem W.cal (w : W M F0 H0 F H L) (k : Pick L D Rs) (w2 : W N F H F2 H2 L2) (e : App L2 Rs L3) (hN : N = ads D := by rfl) : W M F0 H0 F2 H2 L3 := by
  rw [← e.eq]
  exact w.call k w2 hN
/-- .. by what the older promises tell -/
theorem W.gr (w : W M F0 H0 F H L) (k : Pick L D Rs) (g : Gr N F H F2 H2) (i : ∀ o ∈ D, o.φ F2 H2) (e : App D Rs L3) (hN : N = ads D := by rfl) : W M F0 H0 F2 H2 L3 :=
  w.cal k (L2 := D) ⟨g, i, (w.to k).d, fun a m => .inl (by rw [hN]; exact m)⟩ e hN
theorem W.gr1 {o : Own} (w : W M F0 H0 F H L) (k : Pick L [o] Rs) (g : Gr N F H F2 H2) (i : o.φ F2 H2) (hN : N = ads [o] := by rfl) : W M F0 H0 F2 H2 (o :: Rs) :=
  w.gr k g (fun q m => by rw [List.mem_singleton.mp m]; exact i) (.cons .nil) hN
/-- a new list that an older promise tells -/
theorem W.newL (w : W M F0 H0 F H L) (hn : H0 a = none) (m : Mu F H a u) (hd : a ∉ ads L) : W M F0 H0 F H (mu a u :: L) := by
  refine ⟨w.g, fun q h => ?_, ?_, fun x h => ?_⟩
  · rcases List.mem_cons.mp h with rfl | h
    · exact m
    · exact w.i q h
  · exact List.nodup_cons.mpr ⟨hd, w.d⟩
  · rcases List.mem_cons.mp h with rfl | h
    · exact .inr hn
    · exact w.o x h
theorem W.not_new (w : W M F0 H0 F H L) (h : H a = none) : a ∉ ads L := fun m => by
  obtain ⟨o, mo, ma⟩ := List.mem_flatMap.mp m
  exact o.al (w.i o mo) a ma h
/-- a call with a new list told by an older promise -/
theorem W.grL (w : W M F0 H0 F H L) (k : Pick L D Rs) (g : Gr N F H F2 H2) (i : ∀ o ∈ D, o.φ F2 H2) (l : NewL K H F2 H2 a ds) (e : App D Rs L3) (hN : N = ads D := by rfl) : ∃ xs, H0 a = none ∧ DpAll K F2 xs ds ∧ W M F0 H0 F2 H2 (mu a (.lst xs) :: L3) := by
  obtain ⟨na, xs, m, dx⟩ := l
  have w2 := w.gr k g i e hN
  refine ⟨xs, w.g.fresh na, dx, w2.newL (w.g.fresh na) m fun h => ?_⟩
  refine w.not_new na ((ads_perm k.perm).mem_iff.mpr ?_)
  rw [e.eq]
  exact h
theorem W.grL0 (w : W M F0 H0 F H L) (g : Gr [] F H F2 H2) (l : NewL K H F2 H2 a ds) : ∃ xs, H0 a = none ∧ DpAll K F2 xs ds ∧ W M F0 H0 F2 H2 (mu a (.lst xs) :: L) := w.grL (D := []) .nil g (fun _ h => nomatch h) l .nil
theorem W.mu (w : W M F0 H0 F H L) (m : mu p u ∈ L) : Mu F H p u := w.i _ m
theorem W.bag {b : Addr} (w : W M F0 H0 F H L) (m : bag K b ∈ L) : Bag K F H b := w.i _ m
theorem W.dpa (w : W M F0 H0 F H L) (m : dpa K xs ds ∈ L) : DpAll K F xs ds := w.i _ m
theorem W.imL (w : W M F0 H0 F H L) (m : imL K p xs ∈ L) : SqL K F p xs := w.i _ m
theorem W.imT (w : W M F0 H0 F H L) (m : imT K p xs ∈ L) : SqT K F p xs := w.i _ m
theorem W.at_ (w : W M F0 H0 F H L) (m : R.mu p u ∈ L) : H p = some u := (w.mu m).h
theorem W.sqM (w : W M F0 H0 F H L) (m : R.mu p (.lst xs) ∈ L) : SqL K H p xs := (w.mu m).sq
theorem W.fx (w : W M F0 H0 F H L) (m : R.fx p u ∈ L) : H p = some u := w.fh _ _ (w.i _ m)
theorem W.sqF (w : W M F0 H0 F H L) (m : R.fx p (.lst xs) ∈ L) : SqL K H p xs := sqL_of (w.fx m)
theorem W.stF (w : W M F0 H0 F H L) (m : R.fx p (.tup xs) ∈ L) : SqT K H p xs := sqT_of (w.fx m)
theorem W.sqI (w : W M F0 H0 F H L) (m : R.imL K p xs ∈ L) : SqL K H p xs := sqL_same w.fh (w.imL m)
theorem W.sq0 (w : W M F0 H0 F H L) (h : SqL K F0 p xs) : SqL K H p xs := sqL_same w.ws h
theorem W.stI (w : W M F0 H0 F H L) (m : R.imT K p xs ∈ L) : SqT K H p xs := sqT_same w.fh (w.imT m)
theorem W.st0 (w : W M F0 H0 F H L) (h : SqT K F0 p xs) : SqT K H p xs := sqT_same w.ws h
end
/-! ### steps -/
def mkT (xs : List V) (H : Hp) (Q : VK) : Prop := xs.length ≤ sizeLine ∧ ∀ p, H p = none → Q (.ref p) (upd H p (.tup xs))
def mkL (xs : List V) (H : Hp) (Q : VK) : Prop := xs.length ≤ sizeLine ∧ ∀ p, H p = none → Q (.ref p) (upd H p (.lst xs))
def forG (g : TG) (tb : TS) (D : Ends) (J : It) (σ : L2.St) (H : Hp) : Prop := ∃ W : Nat → Nat → L2.St → Hp → Prop, (∃ m, W 0 m σ H) ∧ ∀ i m σ H, W i m σ H →
  (J.stop i H ∧ D.nx σ H) ∨ (J.go i H ∧ ∃ N : L2.St → Hp → Prop, (∀ σ' H', N σ' H' → ∃ m', m' < m ∧ W (i + 1) m' σ' H') ∧ ∀ x H', J.yld i H x H' → g x σ H' fun σ2 H2 => tb ⟨N, D.rt, D.nx, N⟩ σ2 H2)
def lcG (g : TG) (tt : TT) (te : TE) (vs : List Nat) (J : It) (σ : L2.St) (H : Hp) (Q : VK) : Prop := ∀ D, H D = none → ∃ W : Nat → Nat → Hp → Prop, (∃ m, W 0 m (upd H D (.lst []))) ∧ ∀ i m H, W i m H →
  (J.stop i H ∧ Q (.ref D) H) ∨ (J.go i H ∧ ∃ Nx : Hp → Prop, (∀ H', Nx H' → ∃ m', m' < m ∧ W (i + 1) m' H') ∧ ∀ x H', J.yld i H x H' → g x (wipe σ vs) H' fun σ2 H2 => wipe σ2 vs = wipe σ vs ∧ tt σ2 H2 fun b H3 =>
    if b = true then te σ2 H3 fun y H4 => ∃ acc, H4 D = some (.lst acc) ∧ acc.length < sizeLine ∧ Nx (upd H4 D (.lst (acc ++ [y]))) else Nx H3)
def accG (D : Addr) (Z : Hp → Prop) (y : V) (H : Hp) : Prop := ∃ acc, H D = some (.lst acc) ∧ acc.length < sizeLine ∧ Z (upd H D (.lst (acc ++ [y])))
def Nx (M : List Addr) (F0 H0 : Hp) (Inv : L2.St → List Own → Prop) : L2.St → Hp → Prop := fun σ H => ∃ L F, Inv σ L ∧ W M F0 H0 F H L
def NxC (M : List Addr) (F0 H0 : Hp) (P : List V → List Own → Prop) (D : Addr) : Hp → Prop := fun H => ∃ ys L F, P ys L ∧ W M F0 H0 F H (mu D (.lst ys) :: L)
section
variable {K : PySem.W.Frag} {M N : List Addr} {F0 H0 F H : Hp} {L Rs T : List Own} {σ : L2.St} {Q : VK} {ta tb te : TE} {x y v : V} {nx bk ct : L2.St → Hp → Prop} {rt : VK} {p q a D : Addr} {xs ys : List V} {u : HO}
variable {t : TA} {wi : TI} {g : TG} {tbody : TS} {c tt : TT} {vs : List Nat} {ts us : TS}
theorem x_tup (h : t σ H fun xs H1 => mkT xs H1 Q) : tTup t σ H Q := h
theorem x_lst (h : t σ H fun xs H1 => mkL xs H1 Q) : tLst t σ H Q := h
theorem x_for (h : wi σ H fun J H1 => forG g tbody ⟨nx, rt, bk, ct⟩ J σ H1) : tFor wi g tbody ⟨nx, rt, bk, ct⟩ σ H := h
theorem x_lc (h : wi σ H fun J H1 => lcG g tt te vs J σ H1 Q) : tLc wi g tt te vs σ H Q := h
theorem x_wp {a b : L2.St} {B : Prop} (h : a = b) (q : B) : a = b ∧ B := ⟨h, q⟩
theorem n_tup (w : W M F0 H0 F H L) (hs : xs.length ≤ sizeLine) (h : ∀ p F2 H2, W M F0 H0 F2 H2 (fx p (.tup xs) :: L) → Q (.ref p) H2) : mkT xs H Q :=
  ⟨hs, fun p np => h p _ _ ((w.im (u := .tup xs) np).push (fx p (.tup xs)) upd_same)⟩
theorem n_new (w : W M F0 H0 F H L) (h : ∀ p F2 H2, W M F0 H0 F2 H2 (mu p u :: L) → H0 p = none → Q (.ref p) H2) : ∀ p, H p = none → Q (.ref p) (upd H p u) := fun p np => h p _ _ (w.nw np) (w.g.fresh np)
theorem n_lst (w : W M F0 H0 F H L) (hs : xs.length ≤ sizeLine) (h : ∀ p F2 H2, W M F0 H0 F2 H2 (mu p (.lst xs) :: L) → H0 p = none → Q (.ref p) H2) : mkL xs H Q := ⟨hs, n_new w h⟩
theorem n_listOf (w : W M F0 H0 F H L) (hs : SqL K H p xs) (h : ∀ p F2 H2, W M F0 H0 F2 H2 (mu p (.lst xs) :: L) → H0 p = none → Q (.ref p) H2) : rListOf K [.ref p] H Q := w_listOf xs hs (n_new w h)
def revG (K : PySem.W.Frag) (x : V) (H : Hp) (Q : VK) : Prop := ∃ a xs, x = .ref a ∧ SqL K H a xs ∧ ∀ p, H p = none → Q (.ref p) (upd H p (.lst xs.reverse))
theorem x_revL (h : ta σ H fun x H1 => revG K x H1 Q) : tRevL K ta σ H Q := h
def lrgG (a b : Int) (H : Hp) (Q : VK) : Prop := RgOk a b ∧ ∀ q, H q = none → Q (.ref q) (upd H q (.lst (rgV a b)))
theorem x_lstRg {te : L2.St → Hp → (Int → Int → Hp → Prop) → Prop} (h : te σ H fun a b H1 => lrgG a b H1 Q) : tLstRg te σ H Q := h
theorem n_cat (w : W M F0 H0 F H L) (h1 : H p = some (.lst xs)) (h2 : H q = some (.lst ys)) (hs : xs.length + ys.length ≤ sizeLine) (h : ∀ p F2 H2, W M F0 H0 F2 H2 (mu p (.lst (xs ++ ys)) :: L) → H0 p = none → Q (.ref p) H2) : rCat (.ref p) (.ref q) H Q :=
  ⟨p, q, xs, ys, rfl, rfl, h1, h2, hs, n_new w h⟩
theorem n_rep {k : Int} (w : W M F0 H0 F H L) (h1 : H p = some (.lst xs)) (h2 : -(2 ^ 63) ≤ k) (h3 : k < 2 ^ 63) (hs : xs.length * k.toNat ≤ sizeLine) (h : ∀ p F2 H2, W M F0 H0 F2 H2 (mu p (.lst (List.replicate k.toNat xs).flatten) :: L) → H0 p = none → Q (.ref p) H2) : rRep (.ref p) (.int k) H Q :=
  ⟨p, k, xs, rfl, rfl, h1, h2, h3, hs, n_new w h⟩
theorem n_app (w : W M F0 H0 F H L) (k : Pick L [mu p (.lst xs)] Rs) (hn : xs.length < sizeLine) (h : ∀ H2, W M F0 H0 F H2 (mu p (.lst (xs ++ [y])) :: Rs) → Q .non H2) : rAppend (.ref p) [y] H Q :=
  w_app xs ((w.to k).at_ (List.mem_singleton.mpr rfl)) hn (h _ (w.wr k))
theorem n_setL {k : Int} {Z : Hp → Prop} (w : W M F0 H0 F H L) (kk : Pick L [mu p (.lst xs)] Rs) (j : Nat) (e : ixN xs.length k = some j) (h : ∀ H2, W M F0 H0 F H2 (mu p (.lst (xs.set j v)) :: Rs) → Z H2) : rSetL (.ref p) (.int k) v H Z :=
  w_setL xs j ((w.to kk).at_ (List.mem_singleton.mpr rfl)) e (h _ (w.wr kk))
theorem n_draw {m : Int} {E : XK} {b : Addr} (w : W M F0 H0 F H L) (k : Pick L [bag K b] Rs) (h0 : 0 < m) (h1 : m < 2 ^ 200) (h : ∀ r F2 H2, W M F0 H0 F2 H2 (bag K b :: Rs) → 0 ≤ r → r < m → Q (.int r) H2) : S2 (φdraw K) ([.ref b, .int m] ++ []) H Q E :=
  u_draw w.fh ((w.to k).bag (List.mem_singleton.mpr rfl)) h0 h1 fun r F2 H2 g hb r0 r1 => h r F2 H2 (w.gr1 k g hb) r0 r1
def rg1G (vs : List V) (H : Hp) (Rr : It → Hp → Prop) : Prop := ∃ j : Int, vs = [.int j] ∧ -(2 ^ 62) ≤ j ∧ j < 2 ^ 62 ∧ Rr (Itr 0 j.toNat) H
def rg2G (vs : List V) (H : Hp) (Rr : It → Hp → Prop) : Prop := ∃ i j : Int, vs = [.int i, .int j] ∧ (-(2 ^ 62) ≤ i ∧ i < 2 ^ 62 ∧ -(2 ^ 62) ≤ j ∧ j < 2 ^ 62) ∧ Rr (Itr i (j - i).toNat) H
def ilG (K : PySem.W.Frag) (x : V) (H : Hp) (Rr : It → Hp → Prop) : Prop := ∃ a, x = .ref a ∧ (∃ xs, SqL K H a xs) ∧ Rr (Itl K a) H
def itG (K : PySem.W.Frag) (x : V) (H : Hp) (Rr : It → Hp → Prop) : Prop := ∃ a, x = .ref a ∧ (∃ xs, SqT K H a xs) ∧ Rr (Itt K a) H
def isG (x : V) (H : Hp) (Rr : It → Hp → Prop) : Prop := ∃ z, x = .str z ∧ Rr (Its z) H
theorem x_rng1 {Rr : It → Hp → Prop} (h : t σ H fun vs H1 => rg1G vs H1 Rr) : iRng1 t σ H Rr := h
theorem x_rng2 {Rr : It → Hp → Prop} (h : t σ H fun vs H1 => rg2G vs H1 Rr) : iRng2 t σ H Rr := h
theorem x_il {Rr : It → Hp → Prop} (h : te σ H fun x H1 => ilG K x H1 Rr) : iList K te σ H Rr := h
theorem x_it {Rr : It → Hp → Prop} (h : te σ H fun x H1 => itG K x H1 Rr) : iTup K te σ H Rr := h
theorem x_is {Rr : It → Hp → Prop} (h : te σ H fun x H1 => isG x H1 Rr) : iStr te σ H Rr := h
theorem n_rng1 {j : Int} {Rr : It → Hp → Prop} (h0 : -(2 ^ 62) ≤ j) (h1 : j < 2 ^ 62) (h : Rr (Itr 0 j.toNat) H) : rg1G [.int j] H Rr := ⟨j, rfl, h0, h1, h⟩
theorem n_rng2 {i j : Int} {Rr : It → Hp → Prop} (h0 : -(2 ^ 62) ≤ i) (h1 : i < 2 ^ 62) (h2 : -(2 ^ 62) ≤ j) (h3 : j < 2 ^ 62) (h : Rr (Itr i (j - i).toNat) H) : rg2G [.int i, .int j] H Rr := ⟨i, j, rfl, ⟨h0, h1, h2, h3⟩, h⟩
theorem n_il {Rr : It → Hp → Prop} (hs : SqL K H a xs) (h : Rr (Itl K a) H) : ilG K (.ref a) H Rr := ⟨a, rfl, ⟨xs, hs⟩, h⟩
theorem n_it {Rr : It → Hp → Prop} (hs : SqT K H a xs) (h : Rr (Itt K a) H) : itG K (.ref a) H Rr := ⟨a, rfl, ⟨xs, hs⟩, h⟩
theorem n_is {z : Str} {Rr : It → Hp → Prop} (h : Rr (Its z) H) : isG (.str z) H Rr := ⟨z, rfl, h⟩
theorem nx_mk {Inv : L2.St → List Own → Prop} {L2 : List Own} (w : W M F0 H0 F H L) (h : Inv σ L2) (k : Pk L L2) : Nx M F0 H0 Inv σ H := ⟨L2, F, h, w.pk k⟩
def addsG : R2 := fun x y H Q => ∃ a b, x = .str a ∧ y = .str b ∧ a.length + b.length ≤ sizeLine ∧ Q (.str (a ++ b)) H
theorem n_adds {a b : Str} (hl : a.length + b.length ≤ sizeLine) (h : Q (.str (a ++ b)) H) : addsG (.str a) (.str b) H Q := ⟨a, b, rfl, rfl, hl, h⟩
theorem x_aug {i : Nat} {ti : TIp} {x : V} {H : Hp} (h : σ[i]? = some (some x)) (q : te σ H fun y H1 => ti x y H1 fun z H2 => nx (σ.set i (some z)) H2) : tAug i te ti ⟨nx, rt, bk, ct⟩ σ H := ⟨x, h, q⟩
theorem n_ipI {g : Int → Int → Int} {i j : Int} {Z : VK} (q : Z (.int (g i j)) H) : ipI g (.int i) (.int j) H Z := ⟨i, j, rfl, rfl, q⟩
/-- loops -/
theorem n_forR {n : Nat} (w : W M F0 H0 F H L) (Inv : Nat → L2.St → List Own → Prop) {L1 : List Own} (h0 : Inv 0 σ L1)
    (hs : ∀ (i : Nat) σ L F H, i < n → Inv i σ L → W M F0 H0 F H L → g (.int (i : Int)) σ H fun σ2 H2 => tbody ⟨Nx M F0 H0 (Inv (i + 1)), rt, nx, Nx M F0 H0 (Inv (i + 1))⟩ σ2 H2)
    (hd : ∀ σ L F H, Inv n σ L → W M F0 H0 F H L → nx σ H) (k : Pk L L1 := by walk_at "pk") : forG g tbody ⟨nx, rt, bk, ct⟩ (Itr 0 n) σ H :=
  f_range0 (fun i σ H => Nx M F0 H0 (Inv i) σ H) ⟨L1, F, h0, w.pk k⟩ (fun i σ H hi ⟨L, F, h, w⟩ => hs i σ L F H hi h w) fun σ H ⟨L, F, h, w⟩ => hd σ L F H h w
theorem n_forL (xs : List V) (w : W M F0 H0 F H L) (Inv : Nat → L2.St → List Own → Prop) {L1 : List Own} (h0 : Inv 0 σ L1) (hl : ∀ i σ L F H, Inv i σ L → W M F0 H0 F H L → SqL K H a xs)
    (hs : ∀ (i : Nat) x σ L F H, xs[i]? = some x → Inv i σ L → W M F0 H0 F H L → g x σ H fun σ2 H2 => tbody ⟨Nx M F0 H0 (Inv (i + 1)), rt, nx, Nx M F0 H0 (Inv (i + 1))⟩ σ2 H2)
    (hd : ∀ σ L F H, Inv xs.length σ L → W M F0 H0 F H L → nx σ H) (k : Pk L L1 := by walk_at "pk") : forG g tbody ⟨nx, rt, bk, ct⟩ (Itl K a) σ H :=
  f_list (xs := xs) (fun i σ H => Nx M F0 H0 (Inv i) σ H) ⟨L1, F, h0, w.pk k⟩ (fun i σ H _ ⟨L, F, h, w⟩ => hl i σ L F H h w) (fun i x σ H hx ⟨L, F, h, w⟩ => hs i x σ L F H hx h w) fun σ H ⟨L, F, h, w⟩ => hd σ L F H h w
theorem n_cut (w : W M F0 H0 F H L) (Mid : L2.St → List Own → Prop) (h1 : ts ⟨Nx M F0 H0 Mid, rt, bk, ct⟩ σ H) (h2 : ∀ σ L F H, Mid σ L → W M F0 H0 F H L → us ⟨nx, rt, bk, ct⟩ σ H) : C8.tCut ts us ⟨nx, rt, bk, ct⟩ σ H :=
  w_cut (Nx M F0 H0 Mid) h1 fun σ' H' ⟨L, F, h, w⟩ => h2 σ' L F H' h w
theorem n_lcR {n : Nat} (w : W M F0 H0 F H L) (P : Nat → List V → List Own → Prop) {L1 : List Own} (h0 : P 0 [] L1)
    (hs : ∀ (i : Nat) ys L F H D, i < n → P i ys L → W M F0 H0 F H (mu D (.lst ys) :: L) → H0 D = none → g (.int (i : Int)) (wipe σ vs) H fun σ2 H2 => wipe σ2 vs = wipe σ vs ∧ tt σ2 H2 fun b H3 =>
      if b = true then te σ2 H3 (accG D (NxC M F0 H0 (P (i + 1)) D)) else NxC M F0 H0 (P (i + 1)) D H3)
    (hd : ∀ D ys L F H, P n ys L → W M F0 H0 F H (mu D (.lst ys) :: L) → H0 D = none → Q (.ref D) H) (k : Pk L L1 := by walk_at "pk") : lcG g tt te vs (Itr 0 n) σ H Q := fun D nD =>
  lc_rng (fun i H => NxC M F0 H0 (P i) D H) ⟨[], L1, F, h0, (w.pk k).nw nD⟩ (fun i H hi ⟨ys, L, F, h, w'⟩ => hs i ys L F H D hi h w' (w.g.fresh nD)) fun H ⟨ys, L, F, h, w'⟩ => hd D ys L F H h w' (w.g.fresh nD)
theorem n_lcL (xs : List V) (w : W M F0 H0 F H L) (P : Nat → List V → List Own → Prop) {L1 : List Own} (h0 : P 0 [] L1) (hl : ∀ i ys L F H D, P i ys L → W M F0 H0 F H (mu D (.lst ys) :: L) → SqL K H a xs)
    (hs : ∀ (i : Nat) x ys L F H D, xs[i]? = some x → P i ys L → W M F0 H0 F H (mu D (.lst ys) :: L) → H0 D = none → g x (wipe σ vs) H fun σ2 H2 => wipe σ2 vs = wipe σ vs ∧ tt σ2 H2 fun b H3 =>
      if b = true then te σ2 H3 (accG D (NxC M F0 H0 (P (i + 1)) D)) else NxC M F0 H0 (P (i + 1)) D H3)
    (hd : ∀ D ys L F H, P xs.length ys L → W M F0 H0 F H (mu D (.lst ys) :: L) → H0 D = none → Q (.ref D) H) (k : Pk L L1 := by walk_at "pk") : lcG g tt te vs (Itl K a) σ H Q := fun D nD =>
  lc_list (xs := xs) (fun i H => NxC M F0 H0 (P i) D H) ⟨[], L1, F, h0, (w.pk k).nw nD⟩ (fun i H _ ⟨ys, L, F, h, w'⟩ => hl i ys L F H D h w') (fun i x H hx ⟨ys, L, F, h, w'⟩ => hs i x ys L F H D hx h w' (w.g.fresh nD)) fun H ⟨ys, L, F, h, w'⟩ => hd D ys L F H h w' (w.g.fresh nD)
theorem n_rev (w : W M F0 H0 F H L) (kk : Pick L [mu p (.lst xs)] Rs) (h : ∀ H2, W M F0 H0 F H2 (mu p (.lst xs.reverse) :: Rs) → Q .non H2) : rReverse (.ref p) [] H Q :=
  ⟨p, xs, rfl, rfl, (w.to kk).at_ (List.mem_singleton.mpr rfl), h _ (w.wr kk)⟩
theorem n_clear (w : W M F0 H0 F H L) (kk : Pick L [mu p (.lst xs)] Rs) (h : ∀ H2, W M F0 H0 F H2 (mu p (.lst []) :: Rs) → Q .non H2) : rClear (.ref p) [] H Q :=
  ⟨p, xs, rfl, rfl, (w.to kk).at_ (List.mem_singleton.mpr rfl), h _ (w.wr kk)⟩
/-- a call that only reads, told by a promise with a single list -/
theorem W.ro (w : W M F0 H0 F H L) {F2 H2 : Hp} (w2 : W [] H H F2 H2 [R.mu p u]) (hp : H p = none) : W M F0 H0 F H2 (R.mu p u :: L) := by
  have m := w2.mu (List.mem_singleton.mpr rfl)
  have w3 : W [] F H F H2 [R.mu p u] := by
    refine ⟨w2.g.back w.fh, fun o ho => ?_, w2.d, w2.o⟩
    rw [List.mem_singleton.mp ho]
    exact ⟨w.fh.free hp, m.h⟩
  exact w.call .nil w3
theorem W.calB {b : Addr} {F2 H2 : Hp} {L2 L3 : List Own} (w : W M F0 H0 F H L) (k : Pick L [R.bag K b] Rs) (w2 : W [b] F H F2 H2 L2) (e : App L2 Rs L3) : W M F0 H0 F2 H2 L3 := w.cal k w2 e rfl
theorem W.bag0 {b : Addr} {F2 H2 : Hp} (g : Gr [] H H F2 H2) (h : Bag K F2 H2 b) : W [] H H F2 H2 [R.bag K b] := by
  obtain ⟨c, cells, i, cur, st, k, h1, h2, _⟩ := h.ex
  refine ⟨g, fun o m => ?_, ?_, fun a m => ?_⟩
  · rw [List.mem_singleton.mp m]
    exact h
  · show ([b] : List Addr).Nodup
    simp
  · rw [show a = b from List.mem_singleton.mp m]
    exact .inr (g.ff.free h1)
theorem n_acc (ys : List V) {P : List V → List Own → Prop} (w : W M F0 H0 F H L) (hp : P (ys ++ [y]) Rs) (k : Pk L (mu D (.lst ys) :: Rs)) (hl : ys.length < sizeLine) : accG D (NxC M F0 H0 P D) y H := by
  have w' := w.pk k
  refine ⟨ys, w'.at_ (List.mem_cons_self ..), hl, ys ++ [y], Rs, F, hp, ?_⟩
  exact w'.wr (.cons .here .nil)
end
end R
namespace R
open PySem PySem.Spec PyProof.Rows L2
section
variable {X : Cx} {K : PySem.W.Frag} {w : World}
def rSetL (K : PySem.W.Frag) (w : World) : List V → Hp → VK → Prop := fun xs H Q => ∃ (a : Addr) (ns : List Int), xs = [.ref a] ∧ SqL K H a (ns.map V.int) ∧ ns.length ≤ 4000 ∧ ∀ p c, c ≤ ns.length → H p = none → Q (.ref p) (upd H p (SetO w p (fun j => decide (j ∈ ns)) c))
end
end R
namespace R
open PySem PySem.Spec PyProof.Rows L2
/-! ### list(s) of a text -/
def chars (z : Str) : List V := z.cps.toList.map fun c => V.str ⟨#[c]⟩
theorem chars_len (z : Str) : (chars z).length = z.length := by simp [chars, Str.length]
def rListS : List V → Hp → VK → Prop := fun xs H Q => ∃ z : Str, xs = [.str z] ∧ z.length ≤ sizeLine ∧ ∀ q, H q = none → Q (.ref q) (upd H q (.lst (chars z)))
theorem clListS {X : Cx} (hc : X.calm = true := by rfl) : CallR X (.type "list") rListS := by
  intro pins s σ H xs us Q I r h
  obtain ⟨z, rfl, hz, q⟩ := h
  obtain ⟨u, rfl, rx⟩ := vals1 r
  obtain ⟨t, rfl⟩ := rx
  refine PySem.call_list_str (I.ok.hd hc) z t (fun h' tk acc c' hk e hi => ?_) hz
  refine ⟨.ref s.heap.objs.size, upd H s.heap.objs.size (.lst (chars z)), I.laid hk (Nat.le_refl _) ⟨by rw [chars_len]; exact hz, acc.toList, c', ?_, by rw [Array.toArray_toList]; exact e⟩, rfl, q _ (I.hok.fresh (Nat.le_refl _))⟩
  refine vals_of_idx _ _ (by rw [chars_len, Array.length_toList]; exact hi.1) fun j u hj => ?_
  obtain ⟨c, t', hc, rfl⟩ := hi.2 j u (by rw [← Array.getElem?_toList]; exact hj)
  refine ⟨.str ⟨#[c]⟩, ?_, ⟨_, rfl⟩⟩
  unfold chars
  rw [List.getElem?_map, Array.getElem?_toList, hc]
  rfl
theorem n_listS {M : List Addr} {F0 H0 F H : Hp} {L : List Own} {Q : VK} {z : Str} (w : W M F0 H0 F H L) (hz : z.length ≤ sizeLine) (h : ∀ p F2 H2, W M F0 H0 F2 H2 (mu p (.lst (chars z)) :: L) → H0 p = none → Q (.ref p) H2) : rListS [.str z] H Q := ⟨z, rfl, hz, n_new w h⟩
def sgn (z : Str) (k : Nat) : V := .str ⟨#[z.cps.toList.getD k 0]⟩
theorem chars_get {z : Str} {k : Nat} (h : k < z.length) : (chars z)[k]? = some (sgn z k) := by
  have hi : k < z.cps.toList.length := by
    have : z.cps.toList.length = z.length := by simp [Str.length]
    omega
  unfold chars sgn
  rw [List.getElem?_map, List.getD_eq_getElem?_getD, List.getElem?_eq_getElem hi]
  rfl
/-! ### flat values -/
def flatD : V → PyData
  | .int i => .int i
  | .str z => .str z
  | _ => .none
def FlatV (v : V) : Prop := v = .non ∨ (∃ i, v = .int i) ∨ ∃ z, v = .str z ∧ okS z ∧ z.length ≤ 100
theorem flat_dp {K : PySem.W.Frag} {F : Hp} {v : V} (h : FlatV v) : Dp K F v (flatD v) ∧ good (flatD v) = true ∧ (flatD v).depth ≤ 0 := by
  rcases h with rfl | ⟨i, rfl⟩ | ⟨z, rfl, h1, h2⟩
  · exact ⟨.non, rfl, Nat.le_refl _⟩
  · exact ⟨.int i, rfl, Nat.le_refl _⟩
  · exact ⟨.str z, str_good h1 (by omega), Nat.le_refl _⟩
theorem flat_dpa {K : PySem.W.Frag} {F : Hp} : ∀ {vs : List V}, (∀ v ∈ vs, FlatV v) → DpAll K F vs (vs.map flatD)
  | [], _ => .nil
  | v :: vs, h => .cons (flat_dp (h v (List.mem_cons_self ..))).1 (flat_dpa fun u hu => h u (List.mem_cons_of_mem _ hu))
theorem flat_good {vs : List V} (h : ∀ v ∈ vs, FlatV v) (hl : vs.length ≤ 100000) : good (.list (vs.map flatD)) = true ∧ (PyData.list (vs.map flatD)).depth ≤ 1 := by
  constructor
  · refine good_list (by rw [List.length_map]; exact hl) fun d hd => ?_
    obtain ⟨r, hr, rfl⟩ := List.mem_map.mp hd
    exact (flat_dp (K := default) (F := fun _ => none) (h r hr)).2.1
  · refine depth_list fun d hd => ?_
    obtain ⟨r, hr, rfl⟩ := List.mem_map.mp hd
    exact (flat_dp (K := default) (F := fun _ => none) (h r hr)).2.2
theorem chars_flat {z : Str} (h : okS z) : ∀ v ∈ chars z, FlatV v := by
  intro v hv
  obtain ⟨k, hk, e⟩ := List.getElem_of_mem hv
  rw [chars_len] at hk
  have e2 := chars_get hk
  rw [List.getElem?_eq_getElem (by rw [chars_len]; exact hk), e] at e2
  rw [Option.some.inj e2]
  exact .inr (.inr ⟨_, rfl, ok_sign h hk, by show 1 ≤ 100; decide⟩)
/-! ### slices -/
/-! ### items put one by one from a place on -/
def putN {α : Type} (f : Nat → α) (l : List α) (to : Nat) : Nat → List α
  | 0 => l
  | n + 1 => (putN f l to n).set (to + n) (f n)
theorem putN_len {α : Type} (f : Nat → α) (l : List α) (to : Nat) : ∀ n, (putN f l to n).length = l.length
  | 0 => rfl
  | n + 1 => by rw [putN, List.length_set, putN_len f l to n]
theorem putN_get {α : Type} (f : Nat → α) (l : List α) (to : Nat) : ∀ (n i : Nat), (putN f l to n)[i]? = if to ≤ i ∧ i < to + n ∧ i < l.length then some (f (i - to)) else l[i]?
  | 0, i => by
    rw [putN, if_neg (by omega)]
  | n + 1, i => by
    rw [putN, List.getElem?_set, putN_len]
    by_cases e : to + n = i
    · subst e
      rw [if_pos rfl]
      by_cases hl : to + n < l.length
      · rw [if_pos hl, if_pos (by omega), show to + n - to = n by omega]
      · rw [if_neg hl, if_neg (by omega), List.getElem?_eq_none (by omega)]
    · rw [if_neg e, putN_get f l to n i]
      by_cases h : to ≤ i ∧ i < to + n ∧ i < l.length
      · rw [if_pos h, if_pos (by omega)]
      · rw [if_neg h, if_neg (by omega)]
/-! ### moves -/
inductive Mv where
  | put (to : Nat) (s : Str)
  | copy (to a n : Nat)
def Mv.d : Mv → PyData
  | .put to s => .tuple [.str "put", .int to, .str s]
  | .copy to a n => .tuple [.str "copy", .int to, .int a, .int n]
def Mv.to : Mv → Nat
  | .put to _ => to
  | .copy to _ _ => to
def Mv.len : Mv → Nat
  | .put _ s => s.length
  | .copy _ _ n => n
def Mv.hi : Mv → Nat
  | .put _ _ => 0
  | .copy _ a n => a + n
def Mv.sOk : Mv → Prop
  | .put _ s => okS s ∧ s.length ≤ 1000
  | .copy to a _ => to ≠ a
structure MvOk (N : Nat) (m : Mv) : Prop where
  s : m.sOk
  p : 1 ≤ m.len
  t : m.to + m.len ≤ N
  h : m.hi ≤ N
def Mv.some (xs : List V) : Mv → List V
  | .put _ s => chars s
  | .copy _ a n => (xs.drop a).take n
section
variable {K : PySem.W.Frag} {F : Hp} {x : V}
/-- item i of a list of data -/
theorem dpa_at {α : Type} {f : α → PyData} {us : List V} {as : List α} {i : Nat} {y : V} (h : DpAll K F us (as.map f)) (hx : us[i]? = some y) : ∃ r, as[i]? = some r ∧ Dp K F y (f r) := by
  have hl := dpa_len h
  have hi := (List.getElem?_eq_some_iff.mp hx).1
  rw [List.length_map] at hl
  have hr : as[i]? = some as[i] := List.getElem?_eq_getElem (by omega)
  obtain ⟨v, hv, dv⟩ := dpa_get (i := i) (d := f as[i]) h (by rw [List.getElem?_map, hr]; rfl)
  rw [hx] at hv
  rw [Option.some.inj hv]
  exact ⟨_, hr, dv⟩
end
/-- no cell is written twice -/
def Apart (ms : List Mv) : Prop := ms.Pairwise fun m k => m.to + m.len ≤ k.to ∨ k.to + k.len ≤ m.to
theorem Apart.perm {ms ks : List Mv} (h : Apart ms) (p : ms.Perm ks) : Apart ks := (p.pairwise_iff (fun h => h.symm)).mp h
structure MvsOk (N : Nat) (ms : List Mv) : Prop where
  ok : ∀ m ∈ ms, MvOk N m
  ap : Apart ms
theorem MvsOk.perm {N : Nat} {ms ks : List Mv} (h : MvsOk N ms) (p : ms.Perm ks) : MvsOk N ks := ⟨fun m hm => h.ok m (p.mem_iff.mpr hm), h.ap.perm p⟩
theorem MvsOk.sub {N : Nat} {ms ks : List Mv} (h : MvsOk N ms) (p : ks.Sublist ms) : MvsOk N ks := ⟨fun m hm => h.ok m (p.mem hm), List.Pairwise.sublist p h.ap⟩
theorem nodup_lt : ∀ (N : Nat) (l : List Nat), l.Nodup → (∀ x ∈ l, x < N) → l.length ≤ N
  | 0, [], _, _ => Nat.le_refl _
  | 0, x :: l, _, h => absurd (h x (List.mem_cons_self ..)) (Nat.not_lt_zero _)
  | N + 1, l, hn, h => by
    have ih := nodup_lt N (l.erase N) (hn.erase N) fun x hx => by
      have h1 := h x (List.mem_of_mem_erase hx)
      have h2 : x ≠ N := fun e => by
        subst e
        exact (List.Nodup.mem_erase_iff hn).mp hx |>.1 rfl
      omega
    rw [List.length_erase] at ih
    split at ih <;> omega
/-- fewer than N + 1 of them -/
theorem MvsOk.len {N : Nat} {ms : List Mv} (h : MvsOk N ms) : ms.length ≤ N := by
  have hn : (ms.map Mv.to).Nodup := by
    refine List.pairwise_map.mpr (h.ap.imp_of_mem fun ha hb z => ?_)
    have := (h.ok _ ha).p
    have := (h.ok _ hb).p
    omega
  have hs : ∀ x ∈ ms.map Mv.to, x < N := fun x hx => by
    obtain ⟨m, hm, rfl⟩ := List.mem_map.mp hx
    have := (h.ok m hm).p
    have := (h.ok m hm).t
    omega
  have := nodup_lt N _ hn hs
  rwa [List.length_map] at this
/-! ### cuts and blocks -/
/-! ### promises -/
end R
namespace R
open PySem L2
/-! ### a class of the text: its methods with their promises, its making -/
structure DM (P : Program) (w : World) (K : PySem.W.Frag) (mg : Str → Option Value) (base : Heap) (k : Nat) (C m : Str) (ps : List Str) (dvs : List V) (sp : Sp) : Prop where
  ex : ∃ (fd : FuncData) (ds : List Value), FnOk P w K mg base CX0 k (He.ma K (He.ga K C) m) fd ps sp ∧ Meth K (He.ga K C) m (He.ma K (He.ga K C) m) ∧ Cls K (He.ga K C) ∧ Binds K fd ps ds ∧ Vals dvs ds
structure DN (P : Program) (w : World) (K : PySem.W.Frag) (mg : Str → Option Value) (base : Heap) (k : Nat) (C : Str) (ps : List Str) (dvs : List V) (sp : Sp) : Prop where
  ex : ∃ (fd : FuncData) (ds : List Value), FnOk P w K mg base CX0 k (He.ma K (He.ga K C) "__init__") fd ps sp ∧ Mk K (He.ga K C) (He.ma K (He.ga K C) "__init__") ∧ mg C = some (.ref (He.ga K C)) ∧ Binds K fd ps ds ∧ Vals dvs ds
structure DNK (P : Program) (w : World) (K : PySem.W.Frag) (mg : Str → Option Value) (base : Heap) (k : Nat) (C : Str) (ps : List Str) (n : Nat) (ks : List Str) (tp : List (Nat × Nat)) (dvs : List V) (sp : Sp) : Prop where
  ex : ∃ (fd : FuncData) (ds : List Value), FnOk P w K mg base CX0 k (He.ma K (He.ga K C) "__init__") fd ps sp ∧ Mk K (He.ga K C) (He.ma K (He.ga K C) "__init__") ∧ mg C = some (.ref (He.ga K C)) ∧
    KBn K fd ps (n + 1) ks (fun us ws => pick .none tp us ws ds) (fun vs zs => pick .non tp vs zs dvs)
section
variable {X : Cx} {k j n : Nat} {ps ks : List Str} {sp : Sp} {dvs : List V} {C m x : Str} {p pos apos : Pos} {o e : Expr} {es : List Expr} {kws : List Keyword} {ta : TE} {t tk : TA} {tp : List (Nat × Nat)} {pl : Sem Bool}
theorem pmake (D : DN X.prog X.w X.K X.mg X.base k x ps dvs sp) (hr : Room j X.A) (ha : PA X (e :: es) t) (hj : k + 1 ≤ j := by first | decide | exact Nat.le_refl _ | omega) (hg : Gl X x := by rfl) (hdb : (x == ("__debug__" : Str)) = false := by decide)
    (he : starEach (e :: es) X.env = (false, eval e X.env) :: starEach es X.env := by rfl) (hpl : (backTo pos (starEach es X.env)).any (·.1) = false := by rfl) :
    PE X (.Call (.Name x p) (e :: es) [] pos) (tMake (He.ga X.K x) sp dvs E0 t) := by
  obtain ⟨fd, ds, F, M, hm, hb, hd⟩ := D.ex
  exact pe_make M F (hr.mono hj) hg hm hb hd pass0 ha hdb he hpl
theorem pmakeK (D : DNK X.prog X.w X.K X.mg X.base k x ps n ks tp dvs sp) (hr : Room j X.A) (ha : PA X (e :: es) t) (hkw : PK X kws tk) (hj : k + 1 ≤ j := by first | decide | exact Nat.le_refl _ | omega) (hg : Gl X x := by rfl)
    (h1 : (backToKw pos (keywordEach kws X.env)).all (·.1.isSome) = true := by rfl) (h2 : (backToKw pos (keywordEach kws X.env)).filterMap (·.1) = ks := by rfl) (h3 : (x == ("__debug__" : Str)) = false := by decide)
    (h4 : starEach (e :: es) X.env = (false, eval e X.env) :: starEach es X.env := by rfl) (h5 : ((backTo pos (starEach (e :: es) X.env)).any (·.1) || (backToKw pos (keywordEach kws X.env)).any (·.1.isNone)) = false := by rfl) :
    PE X (.Call (.Name x p) (e :: es) kws pos) (tMakeK (He.ga X.K x) n ks.length sp (fun vs zs => pick .non tp vs zs dvs) E0 t tk) := by
  obtain ⟨fd, ds, F, M, hm, hb⟩ := D.ex
  exact pe_makeK M F (hr.mono hj) hg hm hb pass0 ha hkw h1 h2 h3 h4 h5
theorem pmakeK0 (D : DNK X.prog X.w X.K X.mg X.base k x ps 0 ks tp dvs sp) (hr : Room j X.A) (hkw : PK X kws tk) (hj : k + 1 ≤ j := by first | decide | exact Nat.le_refl _ | omega) (hg : Gl X x := by rfl)
    (h1 : (backToKw pos (keywordEach kws X.env)).all (·.1.isSome) = true := by rfl) (h2 : (backToKw pos (keywordEach kws X.env)).filterMap (·.1) = ks := by rfl) (h3 : (x == ("__debug__" : Str)) = false := by decide)
    (h5 : ((backTo pos (starEach [] X.env)).any (·.1) || (backToKw pos (keywordEach kws X.env)).any (·.1.isNone)) = false := by rfl) :
    PE X (.Call (.Name x p) [] kws pos) (tMakeK (He.ga X.K x) 0 ks.length sp (fun vs zs => pick .non tp vs zs dvs) E0 tNil tk) := by
  obtain ⟨fd, ds, F, M, hm, hb⟩ := D.ex
  exact pe_makeK0 M F (hr.mono hj) hg hm hb pass0 hkw h1 h2 h3 h5
theorem pmeth0 (D : DM X.prog X.w X.K X.mg X.base k C m ps dvs sp) (hr : Room j X.A) (he : PE X o ta) (hj : k ≤ j := by first | decide | exact Nat.le_refl _ | omega)
    (h3 : eval (.Call (.Attribute o m apos) [] [] pos) X.env = (eval o X.env >>= fun ov => standAt apos.atName >>= fun _ => holding [ov] (getMethod ov m pl) >>= fun q =>
      callWith pos q.1 q.2 (backTo pos (starEach [] X.env)) (backToKw pos (keywordEach [] X.env))) := by rfl) :
    PE X (.Call (.Attribute o m apos) [] [] pos) (tMeth (He.ga X.K C) m sp dvs E0 ta tNil) := by
  obtain ⟨fd, ds, F, M, c, hb, hd⟩ := D.ex
  exact pe_meth0 he c M F (hr.mono hj) hb hd pass0 h3
end
/-! ### rules with the written part by its own name -/
section
variable {X : Cx} {K : PySem.W.Frag} {o value : Expr} {f : Str} {ta tv : TE} {pos p2 : Pos}
theorem psFld (ha : PE X o ta) (hv : PE X value tv) (hs : swapsWith value (some (.Attribute o f p2)) pos.line X.env = pure false) (h : X.K = K := by rfl) : PS X (.Assign [.Attribute o f p2] value pos) (sFld K ta tv f) := by
  subst h
  exact ps_fld ha hv hs
theorem psFldAug {op : Operator} {rd : V → V → Hp → VK → Prop} (ha : PE X o ta) (hv : PE X value tv) (hop : InOp X op rd) (h : X.K = K := by rfl) : PS X (.AugAssign (.Attribute o f p2) op value pos) (sFldAug K ta tv rd f) := by
  subst h
  exact ps_fldaug ha hv hop
def rDictP (K : PySem.W.Frag) : List V → Hp → VK → Prop := fun xs H Q => ∃ (a : Addr) (ps : List Addr) (kvs : List (Key × V)), xs = [.ref a] ∧ SqL K H a (ps.map V.ref) ∧ Paired (fun p kv => SqT K H p [kV kv.1, kv.2]) ps kvs ∧ ∀ p, H p = none → Q (.ref p) (upd H p (.dK (mergeK [] kvs)))
theorem clDictP (hc : X.calm = true := by rfl) (h : X.K = K := by rfl) : CallR X (.type "dict") (rDictP K) := by subst h; exact call_dictP hc
end
/-! ### steps -/
section
variable {K : PySem.W.Frag} {σ : L2.St} {H : Hp} {Q : VK} {ta tv : TE} {x v : V} {nx bk ct : L2.St → Hp → Prop} {rt : VK} {C a dx : Addr} {f m : Str} {fs : List (Str × V)}
/-- what an instance's field asks -/
def gFld (K : PySem.W.Frag) (f : Str) (x : V) (H : Hp) (Q : VK) : Prop := ∃ a C dx fs v, x = .ref a ∧ H a = some (.ins C dx fs) ∧ Cls K C ∧ NoAttr K C f ∧ fs.lookup f = some v ∧ Q v H
theorem w_fldE (q : ta σ H fun x H1 => gFld K f x H1 Q) : tFld K ta f σ H Q := q
theorem w_fld (c : Cls K C) (n : NoAttr K C f) (h : H a = some (.ins C dx fs)) (l : fs.lookup f = some v) (q : Q v H) : gFld K f (.ref a) H Q := ⟨a, C, dx, fs, v, rfl, h, c, n, l, q⟩
def gSFld (K : PySem.W.Frag) (f : Str) (x y : V) (H : Hp) (Z : Hp → Prop) : Prop := ∃ a C dx fs, x = .ref a ∧ H a = some (.ins C dx fs) ∧ Cls K C ∧ NoAttr K C f ∧ fs.length < 1000 ∧ Z (upd H a (.ins C dx (putF f y fs)))
theorem w_sfldE (q : tv σ H fun y H1 => ta σ H1 fun x H2 => gSFld K f x y H2 fun H3 => nx σ H3) : sFld K ta tv f ⟨nx, rt, bk, ct⟩ σ H := q
theorem w_sfld {Z : Hp → Prop} (c : Cls K C) (n : NoAttr K C f) (h : H a = some (.ins C dx fs)) (l : fs.length < 1000) (q : Z (upd H a (.ins C dx (putF f v fs)))) : gSFld K f (.ref a) v H Z := ⟨a, C, dx, fs, rfl, h, c, n, l, q⟩
theorem w_meth {sp : Sp} {dvs : List V} {E : XK} {t : TA} (q : ta σ H fun x H1 => ∃ a dx fs, x = .ref a ∧ H1 a = some (.ins C dx fs) ∧ fs.lookup m = none ∧ t σ H1 fun vs H2 => sp (x :: (vs ++ dvs)) H2 Q E) : tMeth C m sp dvs E ta t σ H Q := q
end
end R
namespace R
open PySem PySem.Spec PyProof.Rows L2
/-! ### the head's facts with one more of the written part -/
end R
namespace R
open PySem L2
/-! ### instances in a reading -/
def mthG (C : Addr) (m : Str) (x : V) (H : Hp) (P : Prop) : Prop := (∃ a dx fs, x = .ref a ∧ H a = some (.ins C dx fs) ∧ fs.lookup m = none) ∧ P
def aftG (Q : VK) (x : Addr) : VK := fun v H2 => v = .non ∧ Q (.ref x) H2
def makG (C : Addr) (sp : Sp) (ws : List V) (E : XK) (H : Hp) (Q : VK) : Prop := ∀ x dx, H x = none → H dx = none → dx ≠ x → sp (.ref x :: ws) (upd (upd H dx (.own x)) x (.ins C dx [])) (aftG Q x) E
section
variable {K : PySem.W.Frag} {M : List Addr} {F0 H0 F H : Hp} {L Rs : List Own} {σ : L2.St} {Q : VK} {ta : TE} {v : V} {nx bk ct : L2.St → Hp → Prop} {rt : VK} {C a dx : Addr} {f m : Str} {fs : List (Str × V)}
theorem n_fld (h : H a = some (.ins C dx fs)) (l : fs.lookup f = some v) (c : Cls K C) (n : NoAttr K C f) (q : Q v H) : gFld K f (.ref a) H Q := w_fld c n h l q
theorem n_sfld {Z : Hp → Prop} (w : W M F0 H0 F H L) (k : Pick L [mu a (.ins C dx fs)] Rs) (c : Cls K C) (n : NoAttr K C f) (l : fs.length < 1000) (q : ∀ H2, W M F0 H0 F H2 (mu a (.ins C dx (putF f v fs)) :: Rs) → Z H2) : gSFld K f (.ref a) v H Z :=
  w_sfld c n ((w.to k).at_ (List.mem_singleton.mpr rfl)) l (q _ (w.wr k))
theorem x_meth {sp : Sp} {dvs : List V} {E : XK} {t : TA} (q : ta σ H fun x H1 => mthG C m x H1 (t σ H1 fun vs H2 => sp (x :: (vs ++ dvs)) H2 Q E)) : tMeth C m sp dvs E ta t σ H Q := by
  refine w_meth ?_
  refine cast ?_ q
  congr 1
  funext x H1
  unfold mthG
  refine propext ⟨?_, ?_⟩
  · rintro ⟨⟨a, dx, fs, h1, h2, h3⟩, h4⟩
    exact ⟨a, dx, fs, h1, h2, h3, h4⟩
  · rintro ⟨a, dx, fs, h1, h2, h3, h4⟩
    exact ⟨⟨a, dx, fs, h1, h2, h3⟩, h4⟩
theorem n_meth {P : Prop} (h : H a = some (.ins C dx fs)) (l : fs.lookup m = none) (q : P) : mthG C m (.ref a) H P := ⟨⟨a, dx, fs, rfl, h, l⟩, q⟩
theorem x_make {sp : Sp} {dvs : List V} {E : XK} {t : TA} (q : t σ H fun vs H1 => makG C sp (vs ++ dvs) E H1 Q) : tMake C sp dvs E t σ H Q := q
theorem n_make {sp : Sp} {ws : List V} {E : XK} (w : W M F0 H0 F H L) (q : ∀ x dx H2, W M F0 H0 F H2 (mu x (.ins C dx []) :: mu dx (.own x) :: L) → H0 x = none → sp (.ref x :: ws) H2 (aftG Q x) E) : makG C sp ws E H Q := by
  intro x dx nx ndx hne
  have w1 := w.nw (u := .own x) ndx
  have nx1 : upd H dx (.own x) x = none := by rw [upd_ne hne.symm]; exact nx
  exact q x dx _ (w1.nw (u := .ins C dx []) nx1) (w.g.fresh nx)
end
/-! ### rows of a change -/
inductive CRow where
  | put (s : Str)
  | copy (a n : Nat)
def CRow.d : CRow → PyData
  | .put s => .tuple [.str "put", .str s]
  | .copy a n => .tuple [.str "copy", .int a, .int n]
def CRow.gives : CRow → Nat
  | .put s => s.length
  | .copy _ n => n
def CRow.hi : CRow → Nat
  | .put _ => 0
  | .copy a n => a + n
def CRow.sOk : CRow → Prop
  | .put s => okS s ∧ s.length ≤ 1000
  | .copy _ _ => True
structure CRowOk (size : Nat) (r : CRow) : Prop where
  s : r.sOk
  p : 1 ≤ r.gives
  h : r.hi ≤ size
abbrev givesL (rows : List CRow) : Nat := (rows.map CRow.gives).sum
structure RowsOk (size : Nat) (rows : List CRow) : Prop where
  ok : ∀ r ∈ rows, CRowOk size r
  sum : givesL rows ≤ 400
theorem rows_len : ∀ {rows : List CRow}, (∀ r ∈ rows, 1 ≤ r.gives) → rows.length ≤ givesL rows
  | [], _ => Nat.le_refl _
  | r :: rows, h => by
    have ih := rows_len (rows := rows) fun q hq => h q (List.mem_cons_of_mem _ hq)
    have h1 := h r (List.mem_cons_self ..)
    show rows.length + 1 ≤ r.gives + givesL rows
    omega
theorem RowsOk.len {size : Nat} {rows : List CRow} (h : RowsOk size rows) : rows.length ≤ 400 := Nat.le_trans (rows_len fun r hr => (h.ok r hr).p) h.sum
/-- a change that stays -/
def insC (C dx r : Addr) (n : Nat) : HO := .ins C dx [("size", .int (n : Nat)), ("rows", .ref r)]
def Chg (K : PySem.W.Frag) (F : Hp) (x : V) (n : Nat) (rows : List CRow) : Prop := ∃ c dx r vs, x = .ref c ∧ F c = some (insC (He.ga K "Change") dx r n) ∧ F r = some (.lst vs) ∧ DpAll K F vs (rows.map CRow.d)
theorem Chg.same {K : PySem.W.Frag} {F F2 : Hp} {x : V} {n : Nat} {rows : List CRow} (s : Same F F2) (h : Chg K F x n rows) : Chg K F2 x n rows := by
  obtain ⟨c, dx, r, vs, e, h1, h2, h3⟩ := h
  exact ⟨c, dx, r, vs, e, s _ _ h1, s _ _ h2, dpa_same s _ _ h3⟩
/-! ### moves of a change -/
/-! ### promises -/
/-! ### the makers of k01 .. k16 -/
end R
namespace R
open PySem L2
/-! ### slots behind the fourteenth -/
section
variable {a0 a1 a2 a3 a4 a5 a6 a7 a8 a9 a10 a11 a12 a13 a14 a15 a16 a17 a18 a19 a20 a21 a22 a23 : Option V} {r : L2.St} {H : Hp} {Q : VK} {N : L2.St → Hp → Prop} {x : V}
theorem w_v14 (q : Q x H) : tVar 14 (a0 :: a1 :: a2 :: a3 :: a4 :: a5 :: a6 :: a7 :: a8 :: a9 :: a10 :: a11 :: a12 :: a13 :: some x :: r) H Q := ⟨x, rfl, q⟩
theorem w_n14 (q : N (a0 :: a1 :: a2 :: a3 :: a4 :: a5 :: a6 :: a7 :: a8 :: a9 :: a10 :: a11 :: a12 :: a13 :: some x :: r) H) : gName 14 x (a0 :: a1 :: a2 :: a3 :: a4 :: a5 :: a6 :: a7 :: a8 :: a9 :: a10 :: a11 :: a12 :: a13 :: a14 :: r) H N := q
theorem w_v15 (q : Q x H) : tVar 15 (a0 :: a1 :: a2 :: a3 :: a4 :: a5 :: a6 :: a7 :: a8 :: a9 :: a10 :: a11 :: a12 :: a13 :: a14 :: some x :: r) H Q := ⟨x, rfl, q⟩
theorem w_n15 (q : N (a0 :: a1 :: a2 :: a3 :: a4 :: a5 :: a6 :: a7 :: a8 :: a9 :: a10 :: a11 :: a12 :: a13 :: a14 :: some x :: r) H) : gName 15 x (a0 :: a1 :: a2 :: a3 :: a4 :: a5 :: a6 :: a7 :: a8 :: a9 :: a10 :: a11 :: a12 :: a13 :: a14 :: a15 :: r) H N := q
theorem w_v16 (q : Q x H) : tVar 16 (a0 :: a1 :: a2 :: a3 :: a4 :: a5 :: a6 :: a7 :: a8 :: a9 :: a10 :: a11 :: a12 :: a13 :: a14 :: a15 :: some x :: r) H Q := ⟨x, rfl, q⟩
theorem w_n16 (q : N (a0 :: a1 :: a2 :: a3 :: a4 :: a5 :: a6 :: a7 :: a8 :: a9 :: a10 :: a11 :: a12 :: a13 :: a14 :: a15 :: some x :: r) H) : gName 16 x (a0 :: a1 :: a2 :: a3 :: a4 :: a5 :: a6 :: a7 :: a8 :: a9 :: a10 :: a11 :: a12 :: a13 :: a14 :: a15 :: a16 :: r) H N := q
theorem w_v17 (q : Q x H) : tVar 17 (a0 :: a1 :: a2 :: a3 :: a4 :: a5 :: a6 :: a7 :: a8 :: a9 :: a10 :: a11 :: a12 :: a13 :: a14 :: a15 :: a16 :: some x :: r) H Q := ⟨x, rfl, q⟩
theorem w_n17 (q : N (a0 :: a1 :: a2 :: a3 :: a4 :: a5 :: a6 :: a7 :: a8 :: a9 :: a10 :: a11 :: a12 :: a13 :: a14 :: a15 :: a16 :: some x :: r) H) : gName 17 x (a0 :: a1 :: a2 :: a3 :: a4 :: a5 :: a6 :: a7 :: a8 :: a9 :: a10 :: a11 :: a12 :: a13 :: a14 :: a15 :: a16 :: a17 :: r) H N := q
theorem w_v18 (q : Q x H) : tVar 18 (a0 :: a1 :: a2 :: a3 :: a4 :: a5 :: a6 :: a7 :: a8 :: a9 :: a10 :: a11 :: a12 :: a13 :: a14 :: a15 :: a16 :: a17 :: some x :: r) H Q := ⟨x, rfl, q⟩
theorem w_n18 (q : N (a0 :: a1 :: a2 :: a3 :: a4 :: a5 :: a6 :: a7 :: a8 :: a9 :: a10 :: a11 :: a12 :: a13 :: a14 :: a15 :: a16 :: a17 :: some x :: r) H) : gName 18 x (a0 :: a1 :: a2 :: a3 :: a4 :: a5 :: a6 :: a7 :: a8 :: a9 :: a10 :: a11 :: a12 :: a13 :: a14 :: a15 :: a16 :: a17 :: a18 :: r) H N := q
theorem w_v19 (q : Q x H) : tVar 19 (a0 :: a1 :: a2 :: a3 :: a4 :: a5 :: a6 :: a7 :: a8 :: a9 :: a10 :: a11 :: a12 :: a13 :: a14 :: a15 :: a16 :: a17 :: a18 :: some x :: r) H Q := ⟨x, rfl, q⟩
theorem w_n19 (q : N (a0 :: a1 :: a2 :: a3 :: a4 :: a5 :: a6 :: a7 :: a8 :: a9 :: a10 :: a11 :: a12 :: a13 :: a14 :: a15 :: a16 :: a17 :: a18 :: some x :: r) H) : gName 19 x (a0 :: a1 :: a2 :: a3 :: a4 :: a5 :: a6 :: a7 :: a8 :: a9 :: a10 :: a11 :: a12 :: a13 :: a14 :: a15 :: a16 :: a17 :: a18 :: a19 :: r) H N := q
theorem w_v20 (q : Q x H) : tVar 20 (a0 :: a1 :: a2 :: a3 :: a4 :: a5 :: a6 :: a7 :: a8 :: a9 :: a10 :: a11 :: a12 :: a13 :: a14 :: a15 :: a16 :: a17 :: a18 :: a19 :: some x :: r) H Q := ⟨x, rfl, q⟩
theorem w_n20 (q : N (a0 :: a1 :: a2 :: a3 :: a4 :: a5 :: a6 :: a7 :: a8 :: a9 :: a10 :: a11 :: a12 :: a13 :: a14 :: a15 :: a16 :: a17 :: a18 :: a19 :: some x :: r) H) : gName 20 x (a0 :: a1 :: a2 :: a3 :: a4 :: a5 :: a6 :: a7 :: a8 :: a9 :: a10 :: a11 :: a12 :: a13 :: a14 :: a15 :: a16 :: a17 :: a18 :: a19 :: a20 :: r) H N := q
theorem w_v21 (q : Q x H) : tVar 21 (a0 :: a1 :: a2 :: a3 :: a4 :: a5 :: a6 :: a7 :: a8 :: a9 :: a10 :: a11 :: a12 :: a13 :: a14 :: a15 :: a16 :: a17 :: a18 :: a19 :: a20 :: some x :: r) H Q := ⟨x, rfl, q⟩
theorem w_n21 (q : N (a0 :: a1 :: a2 :: a3 :: a4 :: a5 :: a6 :: a7 :: a8 :: a9 :: a10 :: a11 :: a12 :: a13 :: a14 :: a15 :: a16 :: a17 :: a18 :: a19 :: a20 :: some x :: r) H) : gName 21 x (a0 :: a1 :: a2 :: a3 :: a4 :: a5 :: a6 :: a7 :: a8 :: a9 :: a10 :: a11 :: a12 :: a13 :: a14 :: a15 :: a16 :: a17 :: a18 :: a19 :: a20 :: a21 :: r) H N := q
theorem w_v22 (q : Q x H) : tVar 22 (a0 :: a1 :: a2 :: a3 :: a4 :: a5 :: a6 :: a7 :: a8 :: a9 :: a10 :: a11 :: a12 :: a13 :: a14 :: a15 :: a16 :: a17 :: a18 :: a19 :: a20 :: a21 :: some x :: r) H Q := ⟨x, rfl, q⟩
theorem w_n22 (q : N (a0 :: a1 :: a2 :: a3 :: a4 :: a5 :: a6 :: a7 :: a8 :: a9 :: a10 :: a11 :: a12 :: a13 :: a14 :: a15 :: a16 :: a17 :: a18 :: a19 :: a20 :: a21 :: some x :: r) H) : gName 22 x (a0 :: a1 :: a2 :: a3 :: a4 :: a5 :: a6 :: a7 :: a8 :: a9 :: a10 :: a11 :: a12 :: a13 :: a14 :: a15 :: a16 :: a17 :: a18 :: a19 :: a20 :: a21 :: a22 :: r) H N := q
theorem w_v23 (q : Q x H) : tVar 23 (a0 :: a1 :: a2 :: a3 :: a4 :: a5 :: a6 :: a7 :: a8 :: a9 :: a10 :: a11 :: a12 :: a13 :: a14 :: a15 :: a16 :: a17 :: a18 :: a19 :: a20 :: a21 :: a22 :: some x :: r) H Q := ⟨x, rfl, q⟩
theorem w_n23 (q : N (a0 :: a1 :: a2 :: a3 :: a4 :: a5 :: a6 :: a7 :: a8 :: a9 :: a10 :: a11 :: a12 :: a13 :: a14 :: a15 :: a16 :: a17 :: a18 :: a19 :: a20 :: a21 :: a22 :: some x :: r) H) : gName 23 x (a0 :: a1 :: a2 :: a3 :: a4 :: a5 :: a6 :: a7 :: a8 :: a9 :: a10 :: a11 :: a12 :: a13 :: a14 :: a15 :: a16 :: a17 :: a18 :: a19 :: a20 :: a21 :: a22 :: a23 :: r) H N := q
end
end R
namespace R
open PySem PySem.Spec PyProof.Rows L2
/-- a tuple as a comprehension's target -/
theorem pgT {X : Cx} {K : PySem.W.Frag} {es : List Expr} {k n : Nat} {t : TGs} {pos : Pos} (hc : X.calm = true) (h : PGs X es t) (hK : X.K = K := by rfl)
    (hn : (assignEach es X.env).length = n := by rfl) (hst : (assignEach es X.env).findIdx? (·.1) = none := by rfl) : PG X (.Tuple es k pos) (gTup K n t) := by subst hK; exact pg_tup hc h hn hst
/-! ### sorted(xs) of data, and < of data -/
end R
namespace R
open PySem PySem.Spec PyProof.Rows L2
/-! ### the fault, looked at pair by pair -/
def RdsAt (acts : List WAct) (i : Nat) (k : List Key) : Prop := ∃ t, acts[i]? = some t ∧ t.s ≠ "sign" ∧ t.rk = k
structure SeenX (acts : List WAct) (kvs : List (List Key × Nat)) (first j : Nat) : Prop where
  s1 : ∀ k i, getN kvs k = some i → first ≤ i ∧ i < j ∧ RdsAt acts i k ∧ ∀ i', first ≤ i' → i' < i → ¬ RdsAt acts i' k
  s2 : ∀ k, getN kvs k = none → ∀ i', first ≤ i' → i' < j → ¬ RdsAt acts i' k
theorem seenx_nil (acts : List WAct) (first : Nat) : SeenX acts [] first first := ⟨fun k i e => (nomatch e), fun k _ i' h1 h2 => by omega⟩
theorem getN_app (kvs : List (List Key × Nat)) (k0 k : List Key) (j : Nat) : getN (kvs ++ [(k0, j)]) k = match getN kvs k with
    | some n => some n
    | none => if k0 = k then some j else none := by
  unfold getN
  rw [List.find?_append]
  cases h : kvs.find? fun kv => decide (kv.1 = k) with
  | some p => rfl
  | none =>
    show Option.map _ (Option.or none (List.find? _ [(k0, j)])) = if k0 = k then some j else none
    by_cases e : k0 = k
    · rw [if_pos e]
      simp [List.find?_cons, e]
    · rw [if_neg e]
      simp [List.find?_cons, e]
theorem rds_at {acts : List WAct} {j : Nat} {t : WAct} {k : List Key} (ht : acts[j]? = some t) (h : RdsAt acts j k) : t.s ≠ "sign" ∧ t.rk = k := by
  obtain ⟨u, hu, h1, h2⟩ := h
  rw [ht] at hu
  cases hu
  exact ⟨h1, h2⟩
theorem seenx_step {acts : List WAct} {kvs : List (List Key × Nat)} {first j : Nat} {t : WAct} (h : SeenX acts kvs first j) (hf : first ≤ j) (ht : acts[j]? = some t) : SeenX acts (stepN kvs t j) first (j + 1) := by
  by_cases hs : t.s = "sign"
  · rw [step_sign hs]
    refine ⟨fun k i e => ?_, fun k e i' h1 h2 => ?_⟩
    · obtain ⟨a, b, c, d⟩ := h.s1 k i e
      exact ⟨a, by omega, c, d⟩
    · by_cases e2 : i' = j
      · subst e2
        exact fun hr => (rds_at ht hr).1 hs
      · exact h.s2 k e i' h1 (by omega)
  · cases e : getN kvs t.rk with
    | some n =>
      rw [step_old hs e]
      refine ⟨fun k i e => ?_, fun k e1 i' h1 h2 => ?_⟩
      · obtain ⟨a, b, c, d⟩ := h.s1 k i e
        exact ⟨a, by omega, c, d⟩
      · by_cases e2 : i' = j
        · subst e2
          intro hr
          rw [(rds_at ht hr).2, e1] at e
          cases e
        · exact h.s2 k e1 i' h1 (by omega)
    | none =>
      rw [step_new hs e]
      refine ⟨fun k i e3 => ?_, fun k e1 i' h1 h2 => ?_⟩
      · rw [getN_app] at e3
        cases e4 : getN kvs k with
        | some n =>
          rw [e4] at e3
          have e5 : n = i := Option.some.inj e3
          subst e5
          obtain ⟨a, b, c, d⟩ := h.s1 k n e4
          exact ⟨a, by omega, c, d⟩
        | none =>
          rw [e4] at e3
          by_cases ek : t.rk = k
          · have e5 : (if t.rk = k then some j else none) = some i := e3
            rw [if_pos ek] at e5
            have e6 := Option.some.inj e5
            subst e6
            exact ⟨hf, by omega, ⟨t, ht, hs, ek⟩, fun i' h1 h2 => h.s2 k e4 i' h1 h2⟩
          · have e5 : (if t.rk = k then some j else none) = some i := e3
            rw [if_neg ek] at e5
            cases e5
      · rw [getN_app] at e1
        cases e4 : getN kvs k with
        | some n =>
          rw [e4] at e1
          cases e1
        | none =>
          by_cases e2 : i' = j
          · subst e2
            intro hr
            rw [e4] at e1
            have e5 : (if t.rk = k then some i' else none) = none := e1
            rw [if_pos (rds_at ht hr).2] at e5
            cases e5
          · exact h.s2 k e4 i' h1 (by omega)
def NoAt (acts : List WAct) (first j : Nat) : Prop := ∀ u, acts[j]? = some u → ∀ i', first ≤ i' → i' < j → ¬ RdsAt acts i' u.wk
structure Hit (acts : List WAct) (first i b : Nat) : Prop where
  lt : i < b
  le : first ≤ i
  ex : ∃ u, acts[b]? = some u ∧ RdsAt acts i u.wk ∧ ∀ i', first ≤ i' → i' < i → ¬ RdsAt acts i' u.wk
theorem go_spec {acts : List WAct} {first last : Nat} (hl : last ≤ acts.length) : ∀ (n j : Nat) (kvs : List (List Key × Nat)), n = last - j → j ≤ last → first ≤ j → SeenX acts kvs first j →
    match faultGo ((acts.drop j).take n) kvs j with
    | some (i, b) => j ≤ b ∧ b < last ∧ Hit acts first i b ∧ ∀ j', j ≤ j' → j' < b → NoAt acts first j'
    | none => ∀ j', j ≤ j' → j' < last → NoAt acts first j'
  | 0, j, kvs, hn, hj, hf, hs => by
    rw [List.take_zero]
    intro j' h1 h2
    omega
  | n + 1, j, kvs, hn, hj, hf, hs => by
    have hjl : j < acts.length := by omega
    have et : acts[j]? = some acts[j] := List.getElem?_eq_getElem hjl
    rw [List.drop_eq_getElem_cons hjl, List.take_succ_cons]
    cases e : getN kvs acts[j].wk with
    | some i =>
      rw [go_hit e]
      obtain ⟨a, b, c, d⟩ := hs.s1 _ _ e
      exact ⟨Nat.le_refl _, by omega, ⟨b, a, _, et, c, d⟩, fun j' h1 h2 => by omega⟩
    | none =>
      rw [go_miss e]
      have ih := go_spec hl n (j + 1) (stepN kvs acts[j] j) (by omega) (by omega) (by omega) (seenx_step hs hf et)
      have hno : NoAt acts first j := by
        intro u hu i' h1 h2
        rw [et] at hu
        cases hu
        exact hs.s2 _ e i' h1 h2
      revert ih
      cases faultGo ((acts.drop (j + 1)).take n) (stepN kvs acts[j] j) (j + 1) with
      | some p =>
        obtain ⟨i, b⟩ := p
        rintro ⟨a, b1, c, d⟩
        refine ⟨by omega, b1, c, fun j' h1 h2 => ?_⟩
        by_cases ej : j' = j
        · subst ej
          exact hno
        · exact d j' (by omega) h2
      | none =>
        intro d j' h1 h2
        by_cases ej : j' = j
        · subst ej
          exact hno
        · exact d j' (by omega) h2
theorem from_spec {acts : List WAct} {first last : Nat} (hl : last ≤ acts.length) (hf : first ≤ last) :
    match faultFrom acts first last with
    | some (i, b) => first ≤ b ∧ b < last ∧ Hit acts first i b ∧ ∀ j', first ≤ j' → j' < b → NoAt acts first j'
    | none => ∀ j', first ≤ j' → j' < last → NoAt acts first j' := go_spec hl (last - first) first [] rfl hf (Nat.le_refl _) (seenx_nil _ _)
/-- the pair that the law looks for -/
def TT (acts : List WAct) (bars : List Nat) (i j : Nat) : Prop := i < j ∧ (∀ m ∈ bars, ¬ (i < m ∧ m ≤ j)) ∧ ∃ u, acts[j]? = some u ∧ RdsAt acts i u.wk
/-- marks that rise, all in place -/
structure Rise (n : Nat) (ms : List Nat) : Prop where
  ok : ∀ m ∈ ms, 1 ≤ m ∧ m < n
  up : ms.Pairwise (· < ·)
/-! ### none has fewer marks than the fewest -/
/-! ### all lists of marks -/
/-- lists of marks as values -/
def LV (F : Hp) : List V → List (List Nat) → Prop
  | [], [] => True
  | v :: vs, m :: ms => (∃ p, v = .ref p ∧ F p = some (.lst (nV m))) ∧ LV F vs ms
  | _, _ => False
theorem LV.same {F F2 : Hp} (w : Same F F2) : ∀ {vs : List V} {ps : List (List Nat)}, LV F vs ps → LV F2 vs ps
  | [], [], _ => trivial
  | v :: vs, p :: ps, ⟨⟨t, e1, e2⟩, h⟩ => ⟨⟨t, e1, w _ _ e2⟩, LV.same w h⟩
theorem LV.len {F : Hp} : ∀ {vs : List V} {ps : List (List Nat)}, LV F vs ps → vs.length = ps.length
  | [], [], _ => rfl
  | v :: vs, p :: ps, ⟨_, h⟩ => congrArg (· + 1) (LV.len h)
theorem LV.cut {F : Hp} : ∀ {vs : List V} {ps : List (List Nat)} (i : Nat), LV F vs ps → LV F (vs.take i) (ps.take i) ∧ LV F (vs.drop i) (ps.drop i)
  | [], [], i, _ => by rw [List.take_nil, List.take_nil, List.drop_nil, List.drop_nil]; exact ⟨trivial, trivial⟩
  | v :: vs, p :: ps, 0, h => ⟨trivial, h⟩
  | v :: vs, p :: ps, i + 1, ⟨h1, h⟩ => ⟨⟨h1, (LV.cut i h).1⟩, (LV.cut i h).2⟩
theorem cutT (xs : List V) (k : Nat) : cutV xs none (some (k : Int)) = xs.take k := by
  unfold cutV
  rw [HT.sIx_none, HT.sIx_nat, List.drop_zero, Nat.sub_zero]
  by_cases h : k ≤ xs.length
  · rw [Nat.min_eq_left h]
  · rw [Nat.min_eq_right (by omega), List.take_of_length_le (Nat.le_refl _), List.take_of_length_le (by omega)]
/-! ### promises -/
end R
namespace R
open PySem L2
/-! ### items put one by one from a place on -/
abbrev setT (bs : List Bool) (to n : Nat) : List Bool := putN (fun _ => true) bs to n
/-! ### which rows can be done, by what cells and slots hold -/
def Wd.tgt {α : Type} (w : Wd) (b : α × α) : α := if w = .keep then b.2 else b.1
def Wd.from_ {α : Type} (w : Wd) (b : α × α) : α := if w = .lay then b.2 else b.1
def PRow.can (b : List Bool × List Bool) : PRow → Prop
  | .put to s => 0 ≤ to ∧ to.toNat + s.length ≤ b.1.length
  | .mv w to a n => 0 ≤ to ∧ 0 ≤ a ∧ 0 ≤ n ∧ to.toNat + n.toNat ≤ (w.tgt b).length ∧ ∀ k, k < n.toNat → (w.from_ b)[a.toNat + k]? = some true
def PRow.flags (b : List Bool × List Bool) : PRow → List Bool × List Bool
  | .put to s => (setT b.1 to.toNat s.length, b.2)
  | .mv .copy to _ n => (setT b.1 to.toNat n.toNat, b.2)
  | .mv .keep to _ n => (b.1, setT b.2 to.toNat n.toNat)
  | .mv .lay to _ n => (setT b.1 to.toNat n.toNat, b.2)
def allFlags (b : List Bool × List Bool) (rs : List PRow) : List Bool × List Bool := rs.foldl (fun b r => r.flags b) b
def CanAll : List Bool × List Bool → List PRow → Prop
  | _, [] => True
  | b, r :: rs => r.can b ∧ CanAll (r.flags b) rs
theorem can_snoc : ∀ {rs : List PRow} {b : List Bool × List Bool} {r : PRow}, CanAll b rs → r.can (allFlags b rs) → CanAll b (rs ++ [r])
  | [], _, _, _, h => ⟨h, trivial⟩
  | q :: rs, b, r, ⟨h1, h2⟩, h => ⟨h1, can_snoc h2 h⟩
theorem flags_snoc (b : List Bool × List Bool) (rs : List PRow) (r : PRow) : allFlags b (rs ++ [r]) = r.flags (allFlags b rs) := by
  unfold allFlags
  rw [List.foldl_append]
  rfl
theorem flags_len (b : List Bool × List Bool) (r : PRow) : (r.flags b).1.length = b.1.length ∧ (r.flags b).2.length = b.2.length := by
  cases r with
  | put to s => exact ⟨putN_len _ _ _ _, rfl⟩
  | mv w to a n =>
    cases w with
    | copy => exact ⟨putN_len _ _ _ _, rfl⟩
    | keep => exact ⟨rfl, putN_len _ _ _ _⟩
    | lay => exact ⟨putN_len _ _ _ _, rfl⟩
theorem all_len : ∀ (rs : List PRow) (b : List Bool × List Bool), (allFlags b rs).1.length = b.1.length ∧ (allFlags b rs).2.length = b.2.length
  | [], _ => ⟨rfl, rfl⟩
  | r :: rs, b => by
    obtain ⟨h1, h2⟩ := all_len rs (r.flags b)
    obtain ⟨h3, h4⟩ := flags_len b r
    exact ⟨h1.trans h3, h2.trans h4⟩
theorem can_put {b : List Bool × List Bool} {to : Int} {s : Str} (h0 : 0 ≤ to) (h : to.toNat + s.length ≤ b.1.length) : (PRow.put to s).can b := ⟨h0, h⟩
theorem row_not_non {K : PySem.W.Frag} {F : Hp} {r : PRow} (h : Dp K F .non r.d) : False := by
  cases r with
  | put to s => cases h
  | mv w to a n => cases h
def flags0 (n big slots : Nat) : List Bool × List Bool := (List.replicate n true ++ List.replicate (big - n) false, List.replicate slots false)
def φany_rowS (K : PySem.W.Frag) : V → V → V → V → Hp → VK → Prop := fun x y z u H Q => ∃ (b hd t0 t1 : Addr) (b0 b1 : List Bool) (f : Bool) (wd : Int) (F : Hp), x = .ref b ∧ y = .ref hd ∧ z = .bl f ∧ u = .int wd ∧ Same F H ∧ Bag K F H b ∧
  SqL K F hd [.ref t0, .ref t1] ∧ Mu F H t0 (.lst (b0.map V.bl)) ∧ Mu F H t1 (.lst (b1.map V.bl)) ∧ t0 ≠ t1 ∧ b ≠ t0 ∧ b ≠ t1 ∧ b0.length ≤ 1000 ∧ b1.length ≤ 1000 ∧ 0 ≤ wd ∧ wd ≤ 5000 ∧
  ∀ (v : V) (F2 H2 : Hp) (c : List Bool × List Bool), Gr [b, t0, t1] F H F2 H2 → Bag K F2 H2 b → Mu F2 H2 t0 (.lst (c.1.map V.bl)) → Mu F2 H2 t1 (.lst (c.2.map V.bl)) →
    (v = .non ∧ c = (b0, b1) ∨ ∃ r : PRow, Dp K F2 v r.d ∧ r.ok ∧ (r.size : Int) ≤ wd ∧ r.can (b0, b1) ∧ c = r.flags (b0, b1)) → Q v H2
def φany_planS (K : PySem.W.Frag) : V → V → V → V → V → V → V → Hp → VK → Prop := fun x1 x2 x3 x4 x5 x6 x7 H Q => ∃ (b : Addr) (n big slots rows most : Int) (f : Bool) (F : Hp), x1 = .ref b ∧ x2 = .int n ∧ x3 = .int big ∧ x4 = .int slots ∧ x5 = .int rows ∧ x6 = .bl f ∧ x7 = .int most ∧ Same F H ∧ Bag K F H b ∧
  0 ≤ n ∧ n ≤ big ∧ big ≤ 400 ∧ 0 ≤ slots ∧ slots ≤ 400 ∧ 0 ≤ rows ∧ rows ≤ 1000 ∧ 0 ≤ most ∧ most ≤ 5000 ∧
  ∀ (a : Addr) (rs : List PRow) (F2 H2 : Hp), Gr [b] F H F2 H2 → Bag K F2 H2 b → NewL K H F2 H2 a (rs.map PRow.d) → (∀ r ∈ rs, r.ok) → (rs.map PRow.size).sum ≤ 6000 → rs.length ≤ 2000 → CanAll (flags0 n.toNat big.toNat slots.toNat) rs → Q (.ref a) H2
end R
namespace R
open PySem PySem.Spec PyProof.Rows L2
/-! ### list(s) of a text -/
theorem w_listS {z : Str} {H : Hp} {Q : VK} (h : z.length ≤ sizeLine) (q : ∀ p, H p = none → Q (.ref p) (upd H p (.lst (chars z)))) : rListS [.str z] H Q := ⟨z, rfl, h, q⟩
/-! ### a room and its slots -/
abbrev RSt := List V × List V
def Wd.put {α : Type} (w : Wd) (b : α × α) (x : α) : α × α := if w = .keep then (b.1, x) else (x, b.2)
def goneRow (st : RSt) : PRow → RSt
  | .put to s => (putN (sgn s) st.1 to.toNat s.length, st.2)
  | .mv w to a n => w.put st (putN (fun k => (w.from_ st).getD (a.toNat + k) .non) (w.tgt st) to.toNat n.toNat)
def actV (st : RSt) (t : WAct) : V := if t.s = "sign" then kV t.x else match t.x with
  | .inl j => (if t.s = "slot" then st.2 else st.1).getD j.toNat .non
  | .inr _ => .non
def doneAct (st : RSt) (t : WAct) : RSt := if t.w = "slot" then (st.1, st.2.set t.n.toNat (actV st t)) else (st.1.set t.n.toNat (actV st t), st.2)
def okAct (st : RSt) (t : WAct) : Prop := (t.s = "sign" ∨ t.s ≠ "sign" ∧ ∃ j : Nat, t.x = .inl (j : Int) ∧ ∃ v, (if t.s = "slot" then st.2 else st.1)[j]? = some v ∧ v ≠ V.non) ∧ ∃ i : Nat, t.n = (i : Int) ∧ i < (if t.w = "slot" then st.2 else st.1).length
def RunOk : RSt → List WAct → Prop
  | _, [] => True
  | st, t :: ts => okAct st t ∧ RunOk (doneAct st t) ts
def doneAll (st : RSt) (ts : List WAct) : RSt := ts.foldl doneAct st
def goneAll (st : RSt) (rs : List PRow) : RSt := rs.foldl goneRow st
theorem run_app : ∀ {ts us : List WAct} {st : RSt}, RunOk st ts → RunOk (doneAll st ts) us → RunOk st (ts ++ us)
  | [], _, _, _, h => h
  | t :: ts, us, st, ⟨h1, h2⟩, h => ⟨h1, run_app h2 h⟩
theorem done_app (st : RSt) (ts us : List WAct) : doneAll st (ts ++ us) = doneAll (doneAll st ts) us := by
  unfold doneAll
  rw [List.foldl_append]
theorem runAct_at : ∀ {ts : List WAct} {st : RSt} {i : Nat} {t : WAct}, RunOk st ts → ts[i]? = some t → okAct (doneAll st (ts.take i)) t
  | [], _, _, _, _, e => by simp at e
  | u :: ts, st, 0, t, ⟨h1, _⟩, e => by
    have e' := Option.some.inj e
    subst e'
    exact h1
  | u :: ts, st, i + 1, t, ⟨_, h2⟩, e => runAct_at (i := i) h2 e
theorem done_take {ts : List WAct} {i : Nat} {t : WAct} (st : RSt) (e : ts[i]? = some t) : doneAll st (ts.take (i + 1)) = doneAct (doneAll st (ts.take i)) t := by
  rw [List.take_add_one, e, done_app]
  rfl
theorem gone_take {rs : List PRow} {i : Nat} {r : PRow} (st : RSt) (e : rs[i]? = some r) : goneAll st (rs.take (i + 1)) = goneRow (goneAll st (rs.take i)) r := by
  unfold goneAll
  rw [List.take_add_one, e, List.foldl_append]
  rfl
/-- what the flags say of the state -/
structure Match (b : List Bool × List Bool) (st : RSt) : Prop where
  l1 : b.1.length = st.1.length
  l2 : b.2.length = st.2.length
  h1 : ∀ i : Nat, b.1[i]? = some true → ∃ v, st.1[i]? = some v ∧ v ≠ V.non
  h2 : ∀ i : Nat, b.2[i]? = some true → ∃ v, st.2[i]? = some v ∧ v ≠ V.non
def Fit (st : RSt) : PRow → Prop
  | .put to s => 0 ≤ to ∧ to.toNat + s.length ≤ st.1.length
  | .mv w to a n => 0 ≤ to ∧ 0 ≤ a ∧ 0 ≤ n ∧ to.toNat + n.toNat ≤ (w.tgt st).length ∧ ∀ k, k < n.toNat → ∃ v, (w.from_ st)[a.toNat + k]? = some v ∧ v ≠ V.non
theorem Match.fit {b : List Bool × List Bool} {st : RSt} (m : Match b st) {r : PRow} (h : r.can b) : Fit st r := by
  cases r with
  | put to s => exact ⟨h.1, by rw [← m.l1]; exact h.2⟩
  | mv w to a n =>
    obtain ⟨h0, h1, h2, h3, h4⟩ := h
    refine ⟨h0, h1, h2, ?_, fun k hk => ?_⟩
    · cases w with
      | copy => exact Nat.le_trans h3 (Nat.le_of_eq m.l1)
      | keep => exact Nat.le_trans h3 (Nat.le_of_eq m.l2)
      | lay => exact Nat.le_trans h3 (Nat.le_of_eq m.l1)
    · have := h4 k hk
      cases w <;> first | exact m.h1 _ this | exact m.h2 _ this
theorem setT_match {bs : List Bool} {xs : List V} {f : Nat → V} {to n : Nat} (hl : bs.length = xs.length) (h : ∀ i : Nat, bs[i]? = some true → ∃ v, xs[i]? = some v ∧ v ≠ V.non) (hf : ∀ k, k < n → f k ≠ V.non) :
    ∀ i : Nat, (setT bs to n)[i]? = some true → ∃ v, (putN f xs to n)[i]? = some v ∧ v ≠ V.non := by
  intro i hi
  unfold setT at hi
  rw [putN_get] at hi ⊢
  rw [hl] at hi
  by_cases c : to ≤ i ∧ i < to + n ∧ i < xs.length
  · rw [if_pos c]
    exact ⟨_, rfl, hf _ (by omega)⟩
  · rw [if_neg c] at hi ⊢
    exact h i hi
theorem getD_some {l : List V} {i : Nat} {v : V} (h : l[i]? = some v) : l.getD i .non = v := by rw [List.getD_eq_getElem?_getD, h]; rfl
theorem Match.step {b : List Bool × List Bool} {st : RSt} (m : Match b st) {r : PRow} (h : r.can b) : Match (r.flags b) (goneRow st r) := by
  have hfit := m.fit h
  cases r with
  | put to s =>
    exact ⟨by show (setT _ _ _).length = (putN _ _ _ _).length; rw [putN_len, putN_len]; exact m.l1, m.l2, setT_match m.l1 m.h1 fun k _ => (fun z => by cases z), m.h2⟩
  | mv w to a n =>
    obtain ⟨_, _, _, _, h4⟩ := hfit
    have hf : ∀ k, k < n.toNat → (w.from_ st).getD (a.toNat + k) .non ≠ V.non := fun k hk => by
      obtain ⟨v, e, nv⟩ := h4 k hk
      rw [getD_some e]
      exact nv
    cases w with
    | copy => exact ⟨by show (setT _ _ _).length = (putN _ _ _ _).length; rw [putN_len, putN_len]; exact m.l1, m.l2, setT_match m.l1 m.h1 hf, m.h2⟩
    | keep => exact ⟨m.l1, by show (setT _ _ _).length = (putN _ _ _ _).length; rw [putN_len, putN_len]; exact m.l2, m.h1, setT_match m.l2 m.h2 hf⟩
    | lay => exact ⟨by show (setT _ _ _).length = (putN _ _ _ _).length; rw [putN_len, putN_len]; exact m.l1, m.l2, setT_match m.l1 m.h1 hf, m.h2⟩
/-! ### sign by sign -/
def setsL {α : Type} (f : Nat → α) (to : Nat) (l : List Nat) (T : List α) : List α := l.foldl (fun L k => L.set (to + k) (f k)) T
theorem setsL_get {α : Type} (f : Nat → α) (to : Nat) : ∀ (l : List Nat) (T : List α) (i : Nat), (setsL f to l T)[i]? = if to ≤ i ∧ i - to ∈ l ∧ i < T.length then some (f (i - to)) else T[i]?
  | [], T, i => by
    rw [if_neg (by simp)]
    rfl
  | k :: l, T, i => by
    show (setsL f to l (T.set (to + k) (f k)))[i]? = _
    rw [setsL_get f to l _ i, List.length_set, List.getElem?_set]
    by_cases h : to ≤ i ∧ i - to ∈ l ∧ i < T.length
    · rw [if_pos h, if_pos ⟨h.1, List.mem_cons_of_mem _ h.2.1, h.2.2⟩]
    · rw [if_neg h]
      by_cases e : to + k = i
      · subst e
        rw [if_pos rfl]
        by_cases hl : to + k < T.length
        · rw [if_pos hl, if_pos ⟨Nat.le_add_right _ _, by rw [Nat.add_sub_cancel_left]; exact List.mem_cons_self .., hl⟩, Nat.add_sub_cancel_left]
        · rw [if_neg hl, if_neg (fun z => hl z.2.2), List.getElem?_eq_none (by omega)]
      · rw [if_neg e, if_neg]
        rintro ⟨z1, z2, z3⟩
        rcases List.mem_cons.mp z2 with z2 | z2
        · omega
        · exact h ⟨z1, z2, z3⟩
theorem setsL_putN {α : Type} (f : Nat → α) (to n : Nat) (l : List Nat) (T : List α) (h : ∀ k, k ∈ l ↔ k < n) : setsL f to l T = putN f T to n := by
  refine List.ext_getElem? fun i => ?_
  rw [setsL_get, putN_get]
  by_cases c : to ≤ i ∧ i < to + n ∧ i < T.length
  · rw [if_pos c, if_pos ⟨c.1, (h _).mpr (by omega), c.2.2⟩]
  · rw [if_neg c, if_neg]
    rintro ⟨z1, z2, z3⟩
    have := (h _).mp z2
    exact c ⟨z1, by omega, z3⟩
theorem setsL_snoc {α : Type} (f : Nat → α) (to : Nat) (l : List Nat) (k : Nat) (T : List α) : setsL f to (l ++ [k]) T = (setsL f to l T).set (to + k) (f k) := by
  unfold setsL
  rw [List.foldl_append]
  rfl
theorem setsL_len {α : Type} (f : Nat → α) (to : Nat) : ∀ (l : List Nat) (T : List α), (setsL f to l T).length = T.length
  | [], _ => rfl
  | k :: l, T => by
    show (setsL f to l (T.set (to + k) (f k))).length = _
    rw [setsL_len f to l, List.length_set]
/-- a put, sign by sign -/
theorem put_run (s : Str) (to : Nat) (st : RSt) : ∀ (rest l : List Nat), (∀ k ∈ rest, to + k < st.1.length) →
    RunOk (setsL (sgn s) to l st.1, st.2) (rest.map fun (k : Nat) => (⟨"cell", (to : Int) + k, "sign", .inr ⟨#[s.cps.toList.getD k 0]⟩⟩ : WAct)) ∧
    doneAll (setsL (sgn s) to l st.1, st.2) (rest.map fun (k : Nat) => (⟨"cell", (to : Int) + k, "sign", .inr ⟨#[s.cps.toList.getD k 0]⟩⟩ : WAct)) = (setsL (sgn s) to (l ++ rest) st.1, st.2)
  | [], l, _ => ⟨trivial, by rw [List.append_nil]; rfl⟩
  | k :: rest, l, h => by
    have e : doneAct (setsL (sgn s) to l st.1, st.2) ⟨"cell", (to : Int) + k, "sign", .inr ⟨#[s.cps.toList.getD k 0]⟩⟩ = (setsL (sgn s) to (l ++ [k]) st.1, st.2) := by
      rw [setsL_snoc]
      have hne : ¬ (("cell" : Str) = "slot") := by decide +kernel
      unfold doneAct actV
      show (if ("cell" : Str) = "slot" then (_, List.set _ ((to : Int) + k).toNat _) else (List.set _ ((to : Int) + k).toNat _, _)) = _
      rw [if_neg hne, if_pos rfl, show ((to : Int) + k).toNat = to + k by omega]
      rfl
    obtain ⟨i1, i2⟩ := put_run s to st rest (l ++ [k]) fun z hz => h z (List.mem_cons_of_mem _ hz)
    rw [← e] at i1 i2
    refine ⟨⟨⟨.inl rfl, to + k, by show (to : Int) + k = ((to + k : Nat) : Int); omega, ?_⟩, i1⟩, ?_⟩
    · show to + k < (if ("cell" : Str) = "slot" then st.2 else setsL (sgn s) to l st.1).length
      rw [if_neg (by decide +kernel)]
      rw [setsL_len]
      exact h k (List.mem_cons_self ..)
    · refine i2.trans ?_
      rw [List.append_assoc]
      rfl
theorem wd_put_tgt {α : Type} (w : Wd) (b : α × α) : w.put b (w.tgt b) = b := by cases w <;> rfl
/-- a move, sign by sign -/
theorem mv_run (w : Wd) (to a n : Nat) (st : RSt) (f : Nat → V) (hf : ∀ k, k < n → (w.from_ st)[a + k]? = some (f k) ∧ f k ≠ V.non) (ht : to + n ≤ (w.tgt st).length) (steps : List Nat)
    (hord : ∀ (l rest : List Nat) (k : Nat), l ++ k :: rest = steps → k < n ∧ (w = .copy → to ≤ a + k → a + k - to ∉ l)) : ∀ (rest l : List Nat), l ++ rest = steps →
    RunOk (w.put st (setsL f to l (w.tgt st))) (rest.map fun (k : Nat) => (⟨w.cell, (to : Int) + k, w.src, .inl ((a : Int) + k)⟩ : WAct)) ∧
    doneAll (w.put st (setsL f to l (w.tgt st))) (rest.map fun (k : Nat) => (⟨w.cell, (to : Int) + k, w.src, .inl ((a : Int) + k)⟩ : WAct)) = w.put st (setsL f to steps (w.tgt st))
  | [], l, h => ⟨trivial, by rw [List.append_nil] at h; rw [h]; rfl⟩
  | k :: rest, l, h => by
    obtain ⟨hk, hc⟩ := hord l rest k h
    obtain ⟨hf1, hf2⟩ := hf k hk
    have hrd : (if w.src = "slot" then (w.put st (setsL f to l (w.tgt st))).2 else (w.put st (setsL f to l (w.tgt st))).1)[a + k]? = some (f k) := by
      cases w with
      | copy =>
        rw [if_neg (by decide +kernel)]
        show (setsL f to l st.1)[a + k]? = some (f k)
        rw [setsL_get, if_neg (fun z => hc rfl z.1 z.2.1)]
        exact hf1
      | keep =>
        rw [if_neg (by decide +kernel)]
        exact hf1
      | lay =>
        rw [if_pos (by decide +kernel)]
        exact hf1
    have hns : w.src ≠ "sign" := by cases w <;> decide +kernel
    have hv : actV (w.put st (setsL f to l (w.tgt st))) ⟨w.cell, (to : Int) + k, w.src, .inl ((a : Int) + k)⟩ = f k := by
      unfold actV
      rw [if_neg hns]
      show List.getD _ ((a : Int) + k).toNat .non = f k
      rw [show ((a : Int) + k).toNat = a + k by omega]
      exact getD_some hrd
    have e : doneAct (w.put st (setsL f to l (w.tgt st))) ⟨w.cell, (to : Int) + k, w.src, .inl ((a : Int) + k)⟩ = w.put st (setsL f to (l ++ [k]) (w.tgt st)) := by
      rw [setsL_snoc]
      unfold doneAct
      rw [hv]
      show (if w.cell = "slot" then (_, List.set _ ((to : Int) + k).toNat _) else (List.set _ ((to : Int) + k).toNat _, _)) = _
      rw [show ((to : Int) + k).toNat = to + k by omega]
      cases w with
      | copy => rw [if_neg (by decide +kernel)]; rfl
      | keep => rw [if_pos (by decide +kernel)]; rfl
      | lay => rw [if_neg (by decide +kernel)]; rfl
    obtain ⟨i1, i2⟩ := mv_run w to a n st f hf ht steps hord rest (l ++ [k]) (by rw [List.append_assoc]; exact h)
    rw [← e] at i1 i2
    refine ⟨⟨⟨.inr ⟨hns, a + k, by show Sum.inl ((a : Int) + k) = Sum.inl (((a + k : Nat)) : Int); rw [Int.natCast_add], f k, hrd, hf2⟩, to + k, by show (to : Int) + k = ((to + k : Nat) : Int); omega, ?_⟩, i1⟩, i2⟩
    show to + k < (if w.cell = "slot" then (w.put st (setsL f to l (w.tgt st))).2 else (w.put st (setsL f to l (w.tgt st))).1).length
    cases w with
    | copy =>
      rw [if_neg (by decide +kernel)]
      show to + k < (setsL f to l st.1).length
      rw [setsL_len]
      have : to + n ≤ st.1.length := ht
      omega
    | keep =>
      rw [if_pos (by decide +kernel)]
      show to + k < (setsL f to l st.2).length
      rw [setsL_len]
      have : to + n ≤ st.2.length := ht
      omega
    | lay =>
      rw [if_neg (by decide +kernel)]
      show to + k < (setsL f to l st.1).length
      rw [setsL_len]
      have : to + n ≤ st.1.length := ht
      omega
theorem range_split {n : Nat} {l rest : List Nat} {k : Nat} (h : l ++ k :: rest = List.range n) : k < n ∧ ∀ z ∈ l, z < k := by
  have hp : (List.range n).Pairwise (· < ·) := List.pairwise_lt_range
  rw [← h] at hp
  have h1 := List.pairwise_append.mp hp
  refine ⟨List.mem_range.mp (by rw [← h]; exact List.mem_append_right _ (List.mem_cons_self ..)), fun z hz => h1.2.2 z hz k (List.mem_cons_self ..)⟩
theorem rev_split {n : Nat} {l rest : List Nat} {k : Nat} (h : l ++ k :: rest = (List.range n).reverse) : k < n ∧ ∀ z ∈ l, k < z := by
  have hp : (List.range n).reverse.Pairwise (fun x y => y < x) := List.pairwise_reverse.mpr List.pairwise_lt_range
  rw [← h] at hp
  have h1 := List.pairwise_append.mp hp
  refine ⟨List.mem_range.mp (List.mem_reverse.mp (by rw [← h]; exact List.mem_append_right _ (List.mem_cons_self ..))), fun z hz => h1.2.2 z hz k (List.mem_cons_self ..)⟩
/-- a row, sign by sign, does what the row does -/
theorem row_run {st : RSt} {r : PRow} (h : Fit st r) : RunOk st r.acts ∧ doneAll st r.acts = goneRow st r := by
  cases r with
  | put to s =>
    obtain ⟨h0, h1⟩ := h
    obtain ⟨tn, rfl⟩ : ∃ tn : Nat, to = (tn : Int) := ⟨to.toNat, by omega⟩
    rw [Int.toNat_natCast] at h1
    obtain ⟨i1, i2⟩ := put_run s tn st (List.range s.length) [] fun k hk => by
      have := List.mem_range.mp hk
      omega
    refine ⟨i1, i2.trans ?_⟩
    rw [List.nil_append, setsL_putN (sgn s) tn s.length _ _ fun k => List.mem_range]
    show _ = (putN (sgn s) st.1 (tn : Int).toNat s.length, st.2)
    rw [Int.toNat_natCast]
  | mv w to a n =>
    obtain ⟨h0, h1, h2, h3, h4⟩ := h
    obtain ⟨tn, rfl⟩ : ∃ tn : Nat, to = (tn : Int) := ⟨to.toNat, by omega⟩
    obtain ⟨an, rfl⟩ : ∃ an : Nat, a = (an : Int) := ⟨a.toNat, by omega⟩
    rw [Int.toNat_natCast] at h3 h4
    have hf : ∀ k, k < n.toNat → (w.from_ st)[an + k]? = some ((w.from_ st).getD (an + k) .non) ∧ (w.from_ st).getD (an + k) .non ≠ V.non := fun k hk => by
      obtain ⟨v, e, nv⟩ := h4 k hk
      rw [getD_some e]
      exact ⟨e, nv⟩
    have hord : ∀ (l rest : List Nat) (k : Nat), l ++ k :: rest = PRow.steps w tn an n → k < n.toNat ∧ (w = .copy → tn ≤ an + k → an + k - tn ∉ l) := by
      intro l rest k e
      unfold PRow.steps at e
      by_cases c : w = .copy ∧ (an : Int) < tn
      · rw [if_pos c] at e
        obtain ⟨r1, r2⟩ := rev_split e
        refine ⟨r1, fun _ hle hm => ?_⟩
        have := r2 _ hm
        omega
      · rw [if_neg c] at e
        obtain ⟨r1, r2⟩ := range_split e
        refine ⟨r1, fun hw hle hm => ?_⟩
        have := r2 _ hm
        have hc : ¬ ((an : Int) < tn) := fun z => c ⟨hw, z⟩
        omega
    obtain ⟨i1, i2⟩ := mv_run w tn an n.toNat st _ hf h3 (PRow.steps w tn an n) hord (PRow.steps w tn an n) [] rfl
    have e0 : w.put st (setsL (fun k => (w.from_ st).getD (an + k) .non) tn [] (w.tgt st)) = st := wd_put_tgt w st
    rw [e0] at i1 i2
    refine ⟨i1, i2.trans ?_⟩
    rw [setsL_putN _ tn n.toNat _ _ fun k => by
      unfold PRow.steps
      split
      · rw [List.mem_reverse, List.mem_range]
      · rw [List.mem_range]]
    show _ = w.put st (putN (fun k => (w.from_ st).getD ((an : Int).toNat + k) .non) (w.tgt st) (tn : Int).toNat n.toNat)
    rw [Int.toNat_natCast, Int.toNat_natCast]
theorem rows_run : ∀ {rs : List PRow} {b : List Bool × List Bool} {st : RSt}, Match b st → CanAll b rs → RunOk st (rs.flatMap PRow.acts) ∧ doneAll st (rs.flatMap PRow.acts) = goneAll st rs
  | [], _, _, _, _ => ⟨trivial, rfl⟩
  | r :: rs, b, st, m, ⟨h1, h2⟩ => by
    obtain ⟨i1, i2⟩ := row_run (m.fit h1)
    obtain ⟨j1, j2⟩ := rows_run (m.step h1) h2
    rw [List.flatMap_cons]
    refine ⟨run_app i1 (by rw [i2]; exact j1), ?_⟩
    rw [done_app, i2]
    exact j2
theorem can_at : ∀ {rs : List PRow} {b : List Bool × List Bool} {st : RSt} {i : Nat} {r : PRow}, Match b st → CanAll b rs → rs[i]? = some r → Fit (goneAll st (rs.take i)) r
  | [], _, _, _, _, _, _, e => by simp at e
  | q :: rs, b, st, 0, r, m, ⟨h1, _⟩, e => by
    have e' := Option.some.inj e
    subst e'
    exact m.fit h1
  | q :: rs, b, st, i + 1, r, m, ⟨h1, h2⟩, e => can_at (i := i) (m.step h1) h2 e
theorem cut_mid {S : List V} {a n : Int} (ha : 0 ≤ a) (hn : 0 ≤ n) (h : ∀ k, k < n.toNat → ∃ v, S[a.toNat + k]? = some v) : cutV S (some a) (some (a + n)) = (List.range n.toNat).map fun k => S.getD (a.toNat + k) V.non := by
  obtain ⟨an, rfl⟩ : ∃ an : Nat, a = (an : Int) := ⟨a.toNat, by omega⟩
  obtain ⟨nn, rfl⟩ : ∃ nn : Nat, n = (nn : Int) := ⟨n.toNat, by omega⟩
  simp only [Int.toNat_natCast] at h ⊢
  unfold cutV
  rw [show ((an : Int) + nn) = ((an + nn : Nat) : Int) by omega, HT.sIx_nat, HT.sIx_nat]
  cases nn with
  | zero =>
    rw [Nat.add_zero, Nat.sub_self, List.take_zero]
    rfl
  | succ m =>
    obtain ⟨v, hv⟩ := h m (Nat.lt_succ_self m)
    have hl := (List.getElem?_eq_some_iff.mp hv).1
    rw [Nat.min_eq_left (by omega), Nat.min_eq_left (by omega), show an + (m + 1) - an = m + 1 by omega]
    refine List.ext_getElem? fun i => ?_
    by_cases c : i < m + 1
    · rw [List.getElem?_take_of_lt c, List.getElem?_drop, List.getElem?_map, List.getElem?_range c]
      obtain ⟨u, hu⟩ := h i c
      rw [hu]
      show some u = some (S.getD (an + i) V.non)
      rw [getD_some hu]
    · rw [List.getElem?_eq_none (by rw [List.length_take, List.length_drop]; omega), List.getElem?_eq_none (by rw [List.length_map, List.length_range]; omega)]
theorem map_range_get {f : Nat → V} {n k : Nat} (h : k < n) : ((List.range n).map f)[k]? = some (f k) := by
  rw [List.getElem?_map, List.getElem?_range h]
  rfl
theorem putN_succ {f : Nat → V} {l : List V} {to : Int} {i : Nat} (h0 : 0 ≤ to) : putN f l to.toNat (i + 1) = (putN f l to.toNat i).set (to + (i : Int)).toNat (f i) := by
  rw [putN, show (to + (i : Int)).toNat = to.toNat + i by omega]
theorem actV_sign {st : RSt} {t : WAct} (h : t.s = "sign") : actV st t = kV t.x := by unfold actV; rw [if_pos h]
theorem actV_read {st : RSt} {t : WAct} {j : Nat} {v : V} (h : t.s ≠ "sign") (ex : t.x = .inl (j : Int)) (hv : (if t.s = "slot" then st.2 else st.1)[j]? = some v) : actV st t = v := by
  unfold actV
  rw [if_neg h, ex]
  show List.getD _ (j : Int).toNat .non = v
  rw [Int.toNat_natCast]
  exact getD_some hv
theorem done_slot {st : RSt} {t : WAct} (h : t.w = "slot") : doneAct st t = (st.1, st.2.set t.n.toNat (actV st t)) := by unfold doneAct; rw [if_pos h]
theorem done_cell {st : RSt} {t : WAct} (h : ¬ t.w = "slot") : doneAct st t = (st.1.set t.n.toNat (actV st t), st.2) := by unfold doneAct; rw [if_neg h]
/-! ### flat lists as data -/
def FlatSt (st : RSt) : Prop := (∀ v ∈ st.1, FlatV v) ∧ ∀ v ∈ st.2, FlatV v
theorem getD_flat {l : List V} (h : ∀ v ∈ l, FlatV v) (i : Nat) : FlatV (l.getD i .non) := by
  rw [List.getD_eq_getElem?_getD]
  cases e : l[i]? with
  | none => exact .inl rfl
  | some v => exact h v (List.mem_of_getElem? e)
theorem gone_len (st : RSt) (r : PRow) : (goneRow st r).1.length = st.1.length ∧ (goneRow st r).2.length = st.2.length := by
  cases r with
  | put to s => exact ⟨putN_len _ _ _ _, rfl⟩
  | mv w to a n =>
    cases w with
    | copy => exact ⟨putN_len _ _ _ _, rfl⟩
    | keep => exact ⟨rfl, putN_len _ _ _ _⟩
    | lay => exact ⟨putN_len _ _ _ _, rfl⟩
theorem gone_all_len : ∀ (rs : List PRow) (st : RSt), (goneAll st rs).1.length = st.1.length ∧ (goneAll st rs).2.length = st.2.length
  | [], _ => ⟨rfl, rfl⟩
  | r :: rs, st => by
    obtain ⟨h1, h2⟩ := gone_all_len rs (goneRow st r)
    obtain ⟨h3, h4⟩ := gone_len st r
    exact ⟨h1.trans h3, h2.trans h4⟩
theorem done_len (st : RSt) (t : WAct) : (doneAct st t).1.length = st.1.length ∧ (doneAct st t).2.length = st.2.length := by
  unfold doneAct
  split
  · exact ⟨rfl, List.length_set ..⟩
  · exact ⟨List.length_set .., rfl⟩
/-! ### promises -/
def φgone (K : PySem.W.Frag) : V → V → V → Hp → VK → Prop := fun x y z H Q => ∃ (F : Hp) (ra sa : Addr) (st : RSt) (r : PRow), x = .ref ra ∧ y = .ref sa ∧ ra ≠ sa ∧ Same F H ∧ Mu F H ra (.lst st.1) ∧ Mu F H sa (.lst st.2) ∧ Dp K F z r.d ∧ r.ok ∧ Fit st r ∧ st.1.length ≤ 100000 ∧ st.2.length ≤ 100000 ∧
  ∀ (F2 H2 : Hp), Gr [ra, sa] F H F2 H2 → Mu F2 H2 ra (.lst (goneRow st r).1) → Mu F2 H2 sa (.lst (goneRow st r).2) → Q .non H2
def φdone (K : PySem.W.Frag) : V → V → V → Hp → VK → Prop := fun x y z H Q => ∃ (F : Hp) (ra sa : Addr) (st : RSt) (t : WAct), x = .ref ra ∧ y = .ref sa ∧ ra ≠ sa ∧ Same F H ∧ Mu F H ra (.lst st.1) ∧ Mu F H sa (.lst st.2) ∧ Dp K F z t.d ∧ okAct st t ∧
  ∀ (F2 H2 : Hp), Gr [ra, sa] F H F2 H2 → Mu F2 H2 ra (.lst (doneAct st t).1) → Mu F2 H2 sa (.lst (doneAct st t).2) → Q .non H2
end R
namespace R
open PySem PySem.Spec PyProof.Rows L2
/-! ### a runner: steps, marks, cuts -/
structure RnS where
  st : RSt
  kept : Nat
  gone : Nat
def rstep (acts : List WAct) (bars : List Nat) (s : RnS) : Bool × RnS :=
  if s.kept < s.gone ∧ s.gone ∈ bars then (true, ⟨s.st, s.gone, s.gone⟩) else
    match acts[s.gone]? with
    | none => (false, s)
    | some t => (true, ⟨doneAct s.st t, s.kept, s.gone + 1⟩)
def rcut (s : RnS) : RnS := ⟨s.st, s.kept, s.kept⟩
theorem rstep_mark {acts : List WAct} {bars : List Nat} {s : RnS} (h : s.kept < s.gone ∧ s.gone ∈ bars) : rstep acts bars s = (true, ⟨s.st, s.gone, s.gone⟩) := if_pos h
theorem rstep_end {acts : List WAct} {bars : List Nat} {s : RnS} (h : ¬ (s.kept < s.gone ∧ s.gone ∈ bars)) (e : acts[s.gone]? = none) : rstep acts bars s = (false, s) := by
  unfold rstep
  rw [if_neg h, e]
theorem rstep_act {acts : List WAct} {bars : List Nat} {s : RnS} {t : WAct} (h : ¬ (s.kept < s.gone ∧ s.gone ∈ bars)) (e : acts[s.gone]? = some t) : rstep acts bars s = (true, ⟨doneAct s.st t, s.kept, s.gone + 1⟩) := by
  unfold rstep
  rw [if_neg h, e]
/-! ### places: cells and slots -/
def getL (st : RSt) (l : Bool × Nat) : Option V := (if l.1 then st.2 else st.1)[l.2]?
def wLoc (t : WAct) : Bool × Nat := (decide (t.w = "slot"), t.n.toNat)
def rLoc (t : WAct) : Bool × Nat := (decide (t.s = "slot"), match t.x with
  | .inl j => j.toNat
  | .inr _ => 0)
/-- words as they are -/
def WfA (t : WAct) : Prop := (t.w = "cell" ∨ t.w = "slot") ∧ (t.s = "sign" ∨ t.s = "cell" ∨ t.s = "slot") ∧ 0 ≤ t.n ∧ (t.s ≠ "sign" → ∃ j : Nat, t.x = .inl (j : Int))
theorem done_get {st : RSt} {t : WAct} (ho : okAct st t) (l : Bool × Nat) : getL (doneAct st t) l = if l = wLoc t then some (actV st t) else getL st l := by
  obtain ⟨_, i, hi, hl⟩ := ho
  obtain ⟨b, k⟩ := l
  have hi2 : t.n.toNat = i := by rw [hi]; rfl
  unfold getL doneAct wLoc
  by_cases hw : t.w = "slot"
  · rw [if_pos hw, decide_eq_true hw]
    rw [if_pos hw] at hl
    cases b with
    | true =>
      show (st.2.set t.n.toNat _)[k]? = _
      rw [hi2, List.getElem?_set]
      by_cases e : i = k
      · subst e
        rw [if_pos rfl, if_pos hl, if_pos rfl]
      · rw [if_neg e, if_neg (fun z => e (Prod.mk.inj z).2.symm)]
        rfl
    | false =>
      show st.1[k]? = if ((false, k) : Bool × Nat) = (true, t.n.toNat) then _ else st.1[k]?
      rw [if_neg (fun z => by cases z)]
  · rw [if_neg hw, decide_eq_false hw]
    rw [if_neg hw] at hl
    cases b with
    | true =>
      show st.2[k]? = if ((true, k) : Bool × Nat) = (false, t.n.toNat) then _ else st.2[k]?
      rw [if_neg (fun z => by cases z)]
    | false =>
      show (st.1.set t.n.toNat _)[k]? = _
      rw [hi2, List.getElem?_set]
      by_cases e : i = k
      · subst e
        rw [if_pos rfl, if_pos hl, if_pos rfl]
      · rw [if_neg e, if_neg (fun z => e (Prod.mk.inj z).2.symm)]
        rfl
theorem done_out {st : RSt} {t : WAct} {l : Bool × Nat} (h : l ≠ wLoc t) (hn : 0 ≤ t.n) : getL (doneAct st t) l = getL st l := by
  obtain ⟨b, k⟩ := l
  unfold getL doneAct
  unfold wLoc at h
  by_cases hw : t.w = "slot"
  · rw [if_pos hw]
    rw [decide_eq_true hw] at h
    cases b with
    | true =>
      show (st.2.set t.n.toNat _)[k]? = _
      rw [List.getElem?_set_ne (fun e => h (by rw [e]))]
      rfl
    | false => rfl
  · rw [if_neg hw]
    rw [decide_eq_false hw] at h
    cases b with
    | true => rfl
    | false =>
      show (st.1.set t.n.toNat _)[k]? = _
      rw [List.getElem?_set_ne (fun e => h (by rw [e]))]
      rfl
section
variable {acts : List WAct} {bars : List Nat} {st0 : RSt}
abbrev DD (acts : List WAct) (st0 : RSt) (k : Nat) : RSt := doneAll st0 (acts.take k)
theorem dd_len (k : Nat) : (DD acts st0 k).1.length = st0.1.length ∧ (DD acts st0 k).2.length = st0.2.length := by
  have key : ∀ (ts : List WAct) (st : RSt), (doneAll st ts).1.length = st.1.length ∧ (doneAll st ts).2.length = st.2.length := by
    intro ts
    induction ts with
    | nil => intro st; exact ⟨rfl, rfl⟩
    | cons t ts ih =>
      intro st
      obtain ⟨h1, h2⟩ := ih (doneAct st t)
      obtain ⟨h3, h4⟩ := done_len st t
      exact ⟨h1.trans h3, h2.trans h4⟩
  exact key _ _
theorem dd_succ {k : Nat} {t : WAct} (e : acts[k]? = some t) : DD acts st0 (k + 1) = doneAct (DD acts st0 k) t := done_take st0 e
def Wrt (acts : List WAct) (a b : Nat) (l : Bool × Nat) : Prop := ∃ i t, a ≤ i ∧ i < b ∧ acts[i]? = some t ∧ wLoc t = l
theorem dd_same (wf : ∀ t ∈ acts, WfA t) {a : Nat} {l : Bool × Nat} : ∀ (b : Nat), a ≤ b → ¬ Wrt acts a b l → getL (DD acts st0 b) l = getL (DD acts st0 a) l
  | 0, h, _ => by rw [Nat.le_zero.mp h]
  | b + 1, h, hn => by
    by_cases e : a = b + 1
    · rw [e]
    · have ih := dd_same wf b (by omega) fun ⟨i, t, h1, h2, h3⟩ => hn ⟨i, t, h1, by omega, h3⟩
      rw [← ih]
      cases et : acts[b]? with
      | none =>
        have := List.getElem?_eq_none_iff.mp et
        unfold DD
        rw [List.take_of_length_le (by omega), List.take_of_length_le this]
      | some t =>
        rw [dd_succ et]
        exact done_out (fun z => hn ⟨b, t, by omega, by omega, et, z.symm⟩) (wf t (List.mem_of_getElem? et)).2.2.1
/-- what a runner holds on its way -/
structure RI (acts : List WAct) (bars : List Nat) (st0 : RSt) (s : RnS) : Prop where
  ex : ∃ h, s.kept ≤ s.gone ∧ s.gone ≤ h ∧ h ≤ acts.length ∧ (∀ m ∈ bars, m ≤ s.kept ∨ h ≤ m) ∧ (∀ l, ∃ e, s.kept ≤ e ∧ e ≤ h ∧ getL s.st l = getL (DD acts st0 e) l) ∧ ∀ l, Wrt acts s.kept s.gone l → getL s.st l = getL (DD acts st0 s.gone) l
  kb : s.kept = 0 ∨ s.kept ∈ bars
  ln : s.st.1.length = st0.1.length ∧ s.st.2.length = st0.2.length
theorem ri_start : RI acts bars st0 ⟨st0, 0, 0⟩ := ⟨⟨0, Nat.le_refl _, Nat.le_refl _, Nat.zero_le _, fun m _ => .inr (Nat.zero_le _), fun l => ⟨0, Nat.le_refl _, Nat.le_refl _, rfl⟩, fun l ⟨i, t, h1, h2, _⟩ => absurd h2 (Nat.not_lt_zero _)⟩, .inl rfl, rfl, rfl⟩
theorem RI.cut {s : RnS} (h : RI acts bars st0 s) : RI acts bars st0 (rcut s) := by
  obtain ⟨x, h1, h2, h3, h4, h5, h6⟩ := h.ex
  exact ⟨⟨x, Nat.le_refl _, Nat.le_trans h1 h2, h3, h4, h5, fun l ⟨i, t, g1, g2, _⟩ => absurd g2 (Nat.not_lt.mpr g1)⟩, h.kb, h.ln⟩
theorem RI.le {s : RnS} (h : RI acts bars st0 s) : s.kept ≤ s.gone ∧ s.gone ≤ acts.length := by
  obtain ⟨x, h1, h2, h3, _⟩ := h.ex
  exact ⟨h1, Nat.le_trans h2 h3⟩
/-- the keys of places -/
theorem loc_key {t u : WAct} (ht : WfA t) (hu : WfA u) (hs : t.s ≠ "sign") (h : rLoc t = wLoc u) : t.rk = u.wk := by
  obtain ⟨_, h2, _, h4⟩ := ht
  obtain ⟨g1, _, g3, _⟩ := hu
  obtain ⟨j, hj⟩ := h4 hs
  unfold rLoc wLoc at h
  rw [hj] at h
  obtain ⟨e1, e2⟩ := Prod.mk.inj h
  have e2 : ((j : Nat) : Int).toNat = u.n.toNat := e2
  have ew : t.s = u.w := by
    rcases h2 with h2 | h2 | h2
    · exact absurd h2 hs
    · rcases g1 with g1 | g1
      · rw [h2, g1]
      · rw [h2, g1] at e1
        exact absurd e1 (by decide +kernel)
    · rcases g1 with g1 | g1
      · rw [h2, g1] at e1
        exact absurd e1 (by decide +kernel)
      · rw [h2, g1]
  show [Sum.inr t.s, t.x] = [Sum.inr u.w, Sum.inl u.n]
  rw [ew, hj, show ((j : Nat) : Int) = u.n by omega]
/-- what a write reads, also when it is done again -/
theorem RI.read (wf : ∀ t ∈ acts, WfA t) (nt : ∀ i j, ¬ TT acts bars i j) (run : RunOk st0 acts) {s : RnS} (h : RI acts bars st0 s) {t : WAct} (et : acts[s.gone]? = some t) (hs : t.s ≠ "sign") : getL s.st (rLoc t) = getL (DD acts st0 s.gone) (rLoc t) := by
  obtain ⟨x, h1, h2, h3, h4, h5, h6⟩ := h.ex
  by_cases hw : Wrt acts s.kept s.gone (rLoc t)
  · exact h6 _ hw
  · obtain ⟨e, e1, e2, e3⟩ := h5 (rLoc t)
    rw [e3]
    have htm := List.mem_of_getElem? et
    by_cases c : e ≤ s.gone
    · refine (dd_same wf s.gone c fun ⟨i, u, g1, g2, g3⟩ => hw ⟨i, u, Nat.le_trans e1 g1, g2, g3⟩).symm
    · have k1 : getL (DD acts st0 e) (rLoc t) = getL (DD acts st0 (s.gone + 1)) (rLoc t) := dd_same wf e (by omega) fun ⟨i, u, g1, g2, g3, g4⟩ => by
        refine nt s.gone i ⟨by omega, fun m hm hc => ?_, u, g3, t, et, hs, ?_⟩
        · rcases h4 m hm with z | z <;> omega
        · exact loc_key (wf t htm) (wf u (List.mem_of_getElem? g3)) hs g4.symm
      rw [k1, dd_succ et]
      have ho := runAct_at run et
      rw [done_get ho]
      by_cases q : rLoc t = wLoc t
      · rw [if_pos q]
        obtain ⟨hr, _⟩ := ho
        rcases hr with hr | ⟨_, j, hj, v, hv, _⟩
        · exact absurd hr hs
        · rw [actV_read hs hj hv]
          unfold getL rLoc
          rw [hj]
          by_cases c2 : t.s = "slot"
          · rw [if_pos c2] at hv
            rw [decide_eq_true c2]
            exact hv.symm
          · rw [if_neg c2] at hv
            rw [decide_eq_false c2]
            exact hv.symm
      · rw [if_neg q]
theorem getL_r {st : RSt} {t : WAct} {j : Nat} (hj : t.x = .inl (j : Int)) : getL st (rLoc t) = (if t.s = "slot" then st.2 else st.1)[j]? := by
  unfold getL rLoc
  rw [hj]
  by_cases c : t.s = "slot"
  · rw [decide_eq_true c, if_pos c]
    rfl
  · rw [decide_eq_false c, if_neg c]
    rfl
/-- .. so it can be done -/
theorem RI.can (wf : ∀ t ∈ acts, WfA t) (nt : ∀ i j, ¬ TT acts bars i j) (run : RunOk st0 acts) {s : RnS} (h : RI acts bars st0 s) {t : WAct} (et : acts[s.gone]? = some t) : okAct s.st t ∧ actV s.st t = actV (DD acts st0 s.gone) t := by
  have ho := runAct_at run et
  obtain ⟨hr, i, hi, hl⟩ := id ho
  have hdl := dd_len (acts := acts) (st0 := st0) s.gone
  have hll : (if t.w = "slot" then s.st.2 else s.st.1).length = (if t.w = "slot" then (DD acts st0 s.gone).2 else (DD acts st0 s.gone).1).length := by
    split
    · rw [h.ln.2, hdl.2]
    · rw [h.ln.1, hdl.1]
  rcases hr with hr | ⟨hs, j, hj, v, hv, hvn⟩
  · exact ⟨⟨.inl hr, i, hi, by rw [hll]; exact hl⟩, by rw [actV_sign hr, actV_sign hr]⟩
  · have e := h.read wf nt run et hs
    rw [getL_r hj, getL_r hj] at e
    have hv2 := e.trans hv
    exact ⟨⟨.inr ⟨hs, j, hj, v, hv2, hvn⟩, i, hi, by rw [hll]; exact hl⟩, by rw [actV_read hs hj hv2, actV_read hs hj hv]⟩
theorem RI.step (wf : ∀ t ∈ acts, WfA t) (nt : ∀ i j, ¬ TT acts bars i j) (run : RunOk st0 acts) {s : RnS} (h : RI acts bars st0 s) : RI acts bars st0 (rstep acts bars s).2 := by
  obtain ⟨x, h1, h2, h3, h4, h5, h6⟩ := h.ex
  by_cases hm : s.kept < s.gone ∧ s.gone ∈ bars
  · rw [rstep_mark hm]
    have hx : x = s.gone := by
      rcases h4 _ hm.2 with z | z <;> omega
    subst hx
    refine ⟨⟨s.gone, Nat.le_refl _, Nat.le_refl _, h3, fun m _ => by show m ≤ s.gone ∨ s.gone ≤ m; omega, fun l => ⟨s.gone, Nat.le_refl _, Nat.le_refl _, ?_⟩, fun l ⟨i, t, g1, g2, _⟩ => absurd g2 (Nat.not_lt.mpr g1)⟩, .inr hm.2, h.ln⟩
    by_cases hw : Wrt acts s.kept s.gone l
    · exact h6 l hw
    · obtain ⟨e, e1, e2, e3⟩ := h5 l
      show getL s.st l = _
      rw [e3]
      exact (dd_same wf s.gone e2 fun ⟨i, u, g1, g2, g3⟩ => hw ⟨i, u, Nat.le_trans e1 g1, g2, g3⟩).symm
  · cases et : acts[s.gone]? with
    | none => rw [rstep_end hm et]; exact h
    | some t =>
      rw [rstep_act hm et]
      obtain ⟨ho, hv⟩ := h.can wf nt run et
      have ho2 := runAct_at run et
      have hg := (List.getElem?_eq_some_iff.mp et).1
      have hl := done_len s.st t
      refine ⟨⟨max x (s.gone + 1), by show s.kept ≤ s.gone + 1; omega, by show s.gone + 1 ≤ _; omega, by omega, fun m hmm => ?_, fun l => ?_, fun l hw => ?_⟩, h.kb, by rw [hl.1, hl.2]; exact h.ln⟩
      · show m ≤ s.kept ∨ _
        rcases h4 m hmm with z | z
        · exact .inl z
        · by_cases c : s.gone + 1 ≤ m
          · exact .inr (by omega)
          · have : m = s.gone := by omega
            subst this
            by_cases c2 : s.kept < s.gone
            · exact absurd ⟨c2, hmm⟩ hm
            · exact .inl (by omega)
      · show ∃ e, s.kept ≤ e ∧ _ ∧ getL (doneAct s.st t) l = _
        rw [done_get ho]
        by_cases c : l = wLoc t
        · refine ⟨s.gone + 1, by omega, by omega, ?_⟩
          rw [if_pos c, dd_succ et, done_get ho2, if_pos c, hv]
        · rw [if_neg c]
          obtain ⟨e, e1, e2, e3⟩ := h5 l
          exact ⟨e, e1, by omega, e3⟩
      · show getL (doneAct s.st t) l = getL (DD acts st0 (s.gone + 1)) l
        rw [done_get ho, dd_succ et, done_get ho2, hv]
        by_cases c : l = wLoc t
        · rw [if_pos c, if_pos c]
        · rw [if_neg c, if_neg c]
          obtain ⟨i, u, g1, g2, g3, g4⟩ := hw
          have g2 : i < s.gone + 1 := g2
          refine h6 l ⟨i, u, g1, ?_, g3, g4⟩
          refine Classical.byContradiction fun z => ?_
          have : i = s.gone := by omega
          subst this
          rw [et] at g3
          cases g3
          exact c g4.symm
theorem ext_getL {a b : RSt} (h : ∀ l, getL a l = getL b l) : a = b := by
  refine Prod.ext (List.ext_getElem? fun i => ?_) (List.ext_getElem? fun i => ?_)
  · exact h (false, i)
  · exact h (true, i)
theorem RI.end_ (wf : ∀ t ∈ acts, WfA t) {s : RnS} (h : RI acts bars st0 s) (hg : s.gone = acts.length) : s.st = doneAll st0 acts := by
  obtain ⟨x, h1, h2, h3, h4, h5, h6⟩ := h.ex
  have e0 : DD acts st0 s.gone = doneAll st0 acts := by unfold DD; rw [hg, List.take_length]
  rw [← e0]
  refine ext_getL fun l => ?_
  by_cases hw : Wrt acts s.kept s.gone l
  · exact h6 l hw
  · obtain ⟨e, e1, e2, e3⟩ := h5 l
    rw [e3]
    exact (dd_same wf s.gone (by omega) fun ⟨i, u, g1, g2, g3⟩ => hw ⟨i, u, Nat.le_trans e1 g1, g2, g3⟩).symm
/-! ### how many steps are left -/
def rmu (acts : List WAct) (bars : List Nat) (s : RnS) : Nat := (acts.length - s.gone) + (bars.filter fun m => decide (s.kept < m)).length
theorem filt_one {l : List Nat} (hn : l.Nodup) {a g : Nat} (hg : g ∈ l) (ha : a < g) (h : ∀ m ∈ l, m ≤ a ∨ g ≤ m) : (l.filter fun m => decide (a < m)).length = (l.filter fun m => decide (g < m)).length + 1 := by
  have e : ((l.filter fun m => decide (a < m))).Perm (g :: l.filter fun m => decide (g < m)) := by
    refine (List.perm_ext_iff_of_nodup (hn.sublist List.filter_sublist) (List.nodup_cons.mpr ⟨fun z => ?_, hn.sublist List.filter_sublist⟩)).mpr fun m => ?_
    · have := of_decide_eq_true (List.mem_filter.mp z).2
      omega
    · rw [List.mem_filter, List.mem_cons, List.mem_filter, decide_eq_true_eq, decide_eq_true_eq]
      constructor
      · rintro ⟨h1, h2⟩
        rcases h m h1 with z | z
        · omega
        · by_cases c : m = g
          · exact .inl c
          · exact .inr ⟨h1, by omega⟩
      · rintro (rfl | ⟨h1, h2⟩)
        · exact ⟨hg, ha⟩
        · exact ⟨h1, by omega⟩
  rw [e.length_eq, List.length_cons]
theorem rmu_step (rs : Rise acts.length bars) {s : RnS} (h : RI acts bars st0 s) : ((rstep acts bars s).1 = true → rmu acts bars (rstep acts bars s).2 + 1 = rmu acts bars s) ∧ ((rstep acts bars s).1 = false → rmu acts bars s = 0 ∧ s.gone = acts.length ∧ (rstep acts bars s).2 = s) := by
  obtain ⟨x, h1, h2, h3, h4, _, _⟩ := h.ex
  by_cases hm : s.kept < s.gone ∧ s.gone ∈ bars
  · rw [rstep_mark hm]
    refine ⟨fun _ => ?_, fun z => nomatch z⟩
    have := filt_one (rs.up.imp (fun h => Nat.ne_of_lt h)) hm.2 hm.1 fun m hmm => by
      rcases h4 m hmm with z | z
      · exact .inl z
      · exact .inr (by omega)
    unfold rmu
    show acts.length - s.gone + (bars.filter fun m => decide (s.gone < m)).length + 1 = _
    rw [this]
    omega
  · cases et : acts[s.gone]? with
    | none =>
      have hl := List.getElem?_eq_none_iff.mp et
      rw [rstep_end hm et]
      refine ⟨(fun z => nomatch z), fun _ => ⟨?_, by omega, rfl⟩⟩
      unfold rmu
      have : bars.filter (fun m => decide (s.kept < m)) = [] := by
        rw [List.filter_eq_nil_iff]
        intro m hmm z
        have z := of_decide_eq_true z
        have := (rs.ok m hmm).2
        rcases h4 m hmm with c | c <;> omega
      rw [this]
      show acts.length - s.gone + 0 = 0
      omega
    | some t =>
      have hg := (List.getElem?_eq_some_iff.mp et).1
      rw [rstep_act hm et]
      refine ⟨fun _ => ?_, fun z => nomatch z⟩
      show acts.length - (s.gone + 1) + (bars.filter fun m => decide (s.kept < m)).length + 1 = acts.length - s.gone + (bars.filter fun m => decide (s.kept < m)).length
      omega
theorem rmu_le (s : RnS) : rmu acts bars s ≤ acts.length + bars.length := by
  have := List.length_filter_le (fun m => decide (s.kept < m)) bars
  unfold rmu
  omega
/-! ### a mark in each pair that clashes -/
theorem tt_more {ms ns : List Nat} {i j : Nat} (h : ∀ m ∈ ms, m ∈ ns) (t : TT acts ns i j) : TT acts ms i j := ⟨t.1, fun m hm => t.2.1 m (h m hm), t.2.2⟩
/-- the marks up to one, where each clash ahead of it is parted -/
def NtTo (acts : List WAct) (ms : List Nat) (m : Nat) : Prop := ∀ i j, TT acts ms i j → m ≤ i
theorem nt_start : NtTo acts [] 0 := fun _ _ _ => Nat.zero_le _
theorem NtTo.more {ms ns : List Nat} {m : Nat} (h : NtTo acts ms m) (e : ∀ x ∈ ms, x ∈ ns) : NtTo acts ns m := fun i j t => h i j (tt_more e t)
theorem NtTo.next {ms : List Nat} {a i j m : Nat} (h : NtTo acts ms a) (ha : a ≤ acts.length) (e : faultFrom acts a acts.length = some (i, j)) (h1 : i < m) (h2 : m ≤ j) {ns : List Nat} (hm : m ∈ ns) (hs : ∀ x ∈ ms, x ∈ ns) : NtTo acts ns m := by
  intro i' j' t
  have s := from_spec (acts := acts) (first := a) (Nat.le_refl _) ha
  rw [e] at s
  obtain ⟨q1, q2, q3, q4⟩ := s
  refine Classical.byContradiction fun c => ?_
  have hai := h i' j' (tt_more hs t)
  have hj : ¬ (i' < m ∧ m ≤ j') := t.2.1 m hm
  have hj2 : j' < j := by omega
  obtain ⟨u, hu, hr⟩ := t.2.2
  exact q4 j' (by have := t.1; omega) hj2 u hu i' hai t.1 hr
theorem NtTo.done {ms : List Nat} {a : Nat} (h : NtTo acts ms a) (ha : a ≤ acts.length) (e : faultFrom acts a acts.length = none) : ∀ i j, ¬ TT acts ms i j := by
  intro i j t
  have s := from_spec (acts := acts) (first := a) (Nat.le_refl _) ha
  rw [e] at s
  obtain ⟨u, hu, hr⟩ := t.2.2
  have hl := (List.getElem?_eq_some_iff.mp hu).1
  have hai := h i j t
  exact s j (by have := t.1; omega) hl u hu i hai t.1 hr
/-- the words of a plan's writes -/
theorem wf_acts {r : PRow} {b : List Bool × List Bool} (h : r.can b) : ∀ t ∈ r.acts, WfA t := by
  intro t ht
  cases r with
  | put to s =>
    obtain ⟨h0, _⟩ := h
    obtain ⟨k, _, rfl⟩ := List.mem_map.mp ht
    exact ⟨.inl rfl, .inl rfl, by show 0 ≤ to + (k : Int); omega, fun z => absurd rfl z⟩
  | mv w to a n =>
    obtain ⟨h0, h1, _⟩ := h
    obtain ⟨k, _, rfl⟩ := List.mem_map.mp ht
    refine ⟨?_, ?_, by show 0 ≤ to + (k : Int); omega, fun _ => ⟨(a + (k : Int)).toNat, by show Sum.inl (a + (k : Int)) = _; rw [Int.toNat_of_nonneg (by omega)]⟩⟩
    · cases w
      · exact .inl rfl
      · exact .inr rfl
      · exact .inl rfl
    · cases w
      · exact .inr (.inl rfl)
      · exact .inr (.inl rfl)
      · exact .inr (.inr rfl)
theorem wf_rows : ∀ {rs : List PRow} {b : List Bool × List Bool}, CanAll b rs → ∀ t ∈ rs.flatMap PRow.acts, WfA t
  | [], _, _, t, h => nomatch h
  | r :: rs, b, ⟨h1, h2⟩, t, h => by
    rw [List.flatMap_cons] at h
    rcases List.mem_append.mp h with h | h
    · exact wf_acts h1 t h
    · exact wf_rows h2 t h
end
end R
namespace R
open PySem PySem.Spec PyProof.Rows L2
/-! ### marks told: they rise, and part all that clash -/
theorem put_ints2 {kvs : List (Key × V)} {ks : List Int} (h : kvs.map (·.1) = ks.map Sum.inl) (hn : ks.Nodup) (i : Int) (v : V) :
    ∃ ks' : List Int, (putK kvs (.inl i) v).map (·.1) = ks'.map Sum.inl ∧ (∀ k ∈ ks', k ∈ ks ∨ k = i) ∧ ks'.Nodup ∧ (∀ k ∈ ks, k ∈ ks') ∧ i ∈ ks' := by
  have hm : ∀ k : Int, k ∈ ks ↔ (.inl k : Key) ∈ kvs.map (·.1) := fun k => by
    rw [h]
    constructor
    · intro z; exact List.mem_map.mpr ⟨k, z, rfl⟩
    · intro z
      obtain ⟨k2, h1, h2⟩ := List.mem_map.mp z
      rw [← Sum.inl.inj h2]
      exact h1
  cases e : valV kvs (.inl i) with
  | none =>
    rw [putK_new v e]
    have hni : i ∉ ks := fun z => by
      obtain ⟨kv, h1, h2⟩ := List.mem_map.mp ((hm i).mp z)
      have h3 : (kvs.any fun kv => decide (kv.1 = (.inl i : Key))) = true := List.any_eq_true.mpr ⟨kv, h1, decide_eq_true h2⟩
      rw [valV_any, e] at h3
      cases h3
    refine ⟨ks ++ [i], by rw [List.map_append, List.map_append, h]; rfl, fun k hk => ?_, ?_, fun k hk => List.mem_append_left _ hk, List.mem_append_right _ (List.mem_singleton.mpr rfl)⟩
    · rcases List.mem_append.mp hk with hk | hk
      · exact .inl hk
      · exact .inr (List.mem_singleton.mp hk)
    · rw [List.nodup_append]
      refine ⟨hn, List.nodup_cons.mpr ⟨(fun z => nomatch z), List.nodup_nil⟩, fun a ha b hb e => ?_⟩
      rw [List.mem_singleton.mp hb] at e
      exact hni (e ▸ ha)
  | some u =>
    refine ⟨ks, ?_, fun k hk => .inl hk, hn, fun k hk => hk, ?_⟩
    · rw [← h]
      unfold putK
      rw [valV_any, e]
      show (kvs.map fun kv => if kv.1 = (.inl i : Key) then (kv.1, v) else kv).map (·.1) = _
      rw [List.map_map]
      refine List.map_congr_left fun kv _ => ?_
      show (if kv.1 = (.inl i : Key) then (kv.1, v) else kv).1 = kv.1
      split <;> rfl
    · have h3 : (kvs.any fun kv => decide (kv.1 = (.inl i : Key))) = true := by rw [valV_any, e]; rfl
      obtain ⟨kv, h1, h2⟩ := List.any_eq_true.mp h3
      exact (hm i).mpr (List.mem_map.mpr ⟨kv, h1, of_decide_eq_true h2⟩)
theorem nat_map : ∀ {ys : List Int} {ms : List Nat}, ys.map V.int = nV ms → ys = ms.map fun (k : Nat) => (k : Int)
  | [], [], _ => rfl
  | [], m :: ms, h => by cases h
  | y :: ys, [], h => by cases h
  | y :: ys, m :: ms, h => by
    have h : V.int y :: ys.map V.int = V.int (m : Nat) :: nV ms := h
    obtain ⟨h1, h2⟩ := List.cons.inj h
    rw [V.int.inj h1, nat_map h2]
    rfl
theorem rise_of {n : Nat} {ys ks : List Int} {ms : List Nat} (e : ys.map V.int = nV ms) (hm : ∀ k ∈ ms, 1 ≤ k ∧ k < n) (perm : ys.Perm ks) (hn : ks.Nodup) (hs : ys.Pairwise (· ≤ ·)) : Rise n ms ∧ ∀ x, x ∈ ks.map Int.toNat → x ∈ ms := by
  have ey := nat_map e
  have hny := perm.nodup_iff.mpr hn
  refine ⟨⟨hm, ?_⟩, fun x hx => ?_⟩
  · have h2 : ys.Pairwise (· < ·) := (hs.and hny).imp fun {a b} h => by
      have := h.1
      have := h.2
      omega
    rw [ey, List.pairwise_map] at h2
    exact h2.imp fun {a b} h => by omega
  · obtain ⟨k, hk, rfl⟩ := List.mem_map.mp hx
    have := perm.mem_iff.mpr hk
    rw [ey] at this
    obtain ⟨m, hm1, rfl⟩ := List.mem_map.mp this
    rw [Int.toNat_natCast]
    exact hm1
def φgood_marks2 (K : PySem.W.Frag) : V → V → V → Hp → VK → Prop := fun x y z H Q => ∃ (b : Addr) (often : Int) (acts : List WAct) (F : Hp), x = .ref b ∧ z = .int often ∧ Same F H ∧ Bag K F H b ∧ Dp K F y (.list (acts.map WAct.d)) ∧ acts.length ≤ 6000 ∧ 0 < often ∧ often < 2 ^ 200 ∧
  ∀ (p : Addr) (ms : List Nat) (F2 H2 : Hp), Gr [b] F H F2 H2 → Bag K F2 H2 b → Mks F2 p acts.length ms → Rise acts.length ms → (∀ i j, ¬ TT acts ms i j) → Q (.ref p) H2
/-! ### a runner in the heap -/
structure RnA where
  c : Addr
  dx : Addr
  pc : Addr
  ps : Addr
  pw : Addr
  pb : Addr
  ws : List V
  kvs : List (Key × V)
def rnO (K : PySem.W.Frag) (a : RnA) (kept gone : Nat) : HO := .ins (He.ga K "Runner") a.dx [("cells_here", .ref a.pc), ("slots_here", .ref a.ps), ("some", .ref a.pw), ("bounds", .ref a.pb), ("kept", .int (kept : Nat)), ("gone", .int (gone : Nat))]
def KeysB (kvs : List (Key × V)) (bars : List Nat) : Prop := ∀ m : Nat, (valV kvs (.inl (m : Int))).isSome = decide (m ∈ bars)
/-- what of a runner stays -/
def RnF (K : PySem.W.Frag) (a : RnA) (acts : List WAct) (bars : List Nat) (F : Hp) : Prop := SqL K F a.pw a.ws ∧ DpAll K F a.ws (acts.map WAct.d) ∧ F a.pb = some (.dK a.kvs) ∧ KeysB a.kvs bars
theorem RnF.same {K : PySem.W.Frag} {a : RnA} {acts : List WAct} {bars : List Nat} {F F2 : Hp} (s : Same F F2) (h : RnF K a acts bars F) : RnF K a acts bars F2 := ⟨sqL_same s h.1, dpa_same s _ _ h.2.1, s _ _ h.2.2.1, h.2.2.2⟩
def rnr (K : PySem.W.Frag) (a : RnA) (acts : List WAct) (bars : List Nat) (s : RnS) : Own := ⟨[a.c, a.pc, a.ps], fun F H => Mu F H a.c (rnO K a s.kept s.gone) ∧ Mu F H a.pc (.lst s.st.1) ∧ Mu F H a.ps (.lst s.st.2) ∧ RnF K a acts bars F,
  fun {F H F2 H2} ss h n m => by
    have h1 : a.c ∈ [a.c, a.pc, a.ps] := List.mem_cons_self ..
    have h2 : a.pc ∈ [a.c, a.pc, a.ps] := List.mem_cons_of_mem _ (List.mem_cons_self ..)
    have h3 : a.ps ∈ [a.c, a.pc, a.ps] := List.mem_cons_of_mem _ (List.mem_cons_of_mem _ (List.mem_cons_self ..))
    exact ⟨⟨n _ h1 m.1.n, h _ h1 _ m.1.h⟩, ⟨n _ h2 m.2.1.n, h _ h2 _ m.2.1.h⟩, ⟨n _ h3 m.2.2.1.n, h _ h3 _ m.2.2.1.h⟩, m.2.2.2.same ss⟩,
  fun {F H} m x hx => by
    rcases List.mem_cons.mp hx with rfl | hx
    · exact ne_none m.1.h
    · rcases List.mem_cons.mp hx with rfl | hx
      · exact ne_none m.2.1.h
      · rw [List.mem_singleton.mp hx]
        exact ne_none m.2.2.1.h⟩
section
variable {K : PySem.W.Frag} {M : List Addr} {F0 H0 F H : Hp} {L : List Own} {a : RnA} {acts : List WAct} {bars : List Nat} {s : RnS}
theorem W.opnR (w : W M F0 H0 F H (rnr K a acts bars s :: L)) : W M F0 H0 F H (R.mu a.c (rnO K a s.kept s.gone) :: R.mu a.pc (.lst s.st.1) :: R.mu a.ps (.lst s.st.2) :: R.imL K a.pw a.ws :: R.dpa K a.ws (acts.map WAct.d) :: R.fx a.pb (.dK a.kvs) :: L) ∧ KeysB a.kvs bars := by
  have m := w.i (rnr K a acts bars s) (List.mem_cons_self ..)
  refine ⟨⟨w.g, fun o ho => ?_, w.d, w.o⟩, m.2.2.2.2.2.2⟩
  simp only [List.mem_cons] at ho
  rcases ho with rfl | rfl | rfl | rfl | rfl | rfl | ho
  · exact m.1
  · exact m.2.1
  · exact m.2.2.1
  · exact m.2.2.2.1
  · exact m.2.2.2.2.1
  · exact m.2.2.2.2.2.1
  · exact w.i o (List.mem_cons_of_mem _ ho)
theorem W.clsR (w : W M F0 H0 F H (R.mu a.c (rnO K a s.kept s.gone) :: R.mu a.pc (.lst s.st.1) :: R.mu a.ps (.lst s.st.2) :: R.imL K a.pw a.ws :: R.dpa K a.ws (acts.map WAct.d) :: R.fx a.pb (.dK a.kvs) :: L)) (hk : KeysB a.kvs bars) : W M F0 H0 F H (rnr K a acts bars s :: L) := by
  refine ⟨w.g, fun o ho => ?_, w.d, w.o⟩
  rcases List.mem_cons.mp ho with rfl | ho
  · exact ⟨w.i (R.mu a.c _) (by simp), w.i (R.mu a.pc _) (by simp), w.i (R.mu a.ps _) (by simp), w.i (R.imL K a.pw a.ws) (by simp), w.i (R.dpa K a.ws _) (by simp), w.i (R.fx a.pb _) (by simp), hk⟩
  · exact w.i o (by simp only [List.mem_cons]; simp [ho])
end
/-- the law's own runner: a list of six -/
structure LsA where
  p : Addr
  pr : Addr
  pq : Addr
  pw : Addr
  pd : Addr
  ws : List V
  kvs : List (Key × V)
def lsO (a : LsA) (kept gone : Nat) : HO := .lst [.ref a.pr, .ref a.pq, .ref a.pw, .ref a.pd, .int (kept : Nat), .int (gone : Nat)]
def LsF (K : PySem.W.Frag) (a : LsA) (acts : List WAct) (bars : List Nat) (F : Hp) : Prop := SqL K F a.pw a.ws ∧ DpAll K F a.ws (acts.map WAct.d) ∧ F a.pd = some (.dK a.kvs) ∧ KeysB a.kvs bars
theorem LsF.same {K : PySem.W.Frag} {a : LsA} {acts : List WAct} {bars : List Nat} {F F2 : Hp} (s : Same F F2) (h : LsF K a acts bars F) : LsF K a acts bars F2 := ⟨sqL_same s h.1, dpa_same s _ _ h.2.1, s _ _ h.2.2.1, h.2.2.2⟩
def lsr (K : PySem.W.Frag) (a : LsA) (acts : List WAct) (bars : List Nat) (s : RnS) : Own := ⟨[a.p, a.pr, a.pq], fun F H => Mu F H a.p (lsO a s.kept s.gone) ∧ Mu F H a.pr (.lst s.st.1) ∧ Mu F H a.pq (.lst s.st.2) ∧ LsF K a acts bars F,
  fun {F H F2 H2} ss h n m => by
    have h1 : a.p ∈ [a.p, a.pr, a.pq] := List.mem_cons_self ..
    have h2 : a.pr ∈ [a.p, a.pr, a.pq] := List.mem_cons_of_mem _ (List.mem_cons_self ..)
    have h3 : a.pq ∈ [a.p, a.pr, a.pq] := List.mem_cons_of_mem _ (List.mem_cons_of_mem _ (List.mem_cons_self ..))
    exact ⟨⟨n _ h1 m.1.n, h _ h1 _ m.1.h⟩, ⟨n _ h2 m.2.1.n, h _ h2 _ m.2.1.h⟩, ⟨n _ h3 m.2.2.1.n, h _ h3 _ m.2.2.1.h⟩, m.2.2.2.same ss⟩,
  fun {F H} m x hx => by
    rcases List.mem_cons.mp hx with rfl | hx
    · exact ne_none m.1.h
    · rcases List.mem_cons.mp hx with rfl | hx
      · exact ne_none m.2.1.h
      · rw [List.mem_singleton.mp hx]
        exact ne_none m.2.2.1.h⟩
section
variable {K : PySem.W.Frag} {M : List Addr} {F0 H0 F H : Hp} {L : List Own} {a : LsA} {acts : List WAct} {bars : List Nat} {s : RnS}
theorem W.opnL (w : W M F0 H0 F H (lsr K a acts bars s :: L)) : W M F0 H0 F H (R.mu a.p (lsO a s.kept s.gone) :: R.mu a.pr (.lst s.st.1) :: R.mu a.pq (.lst s.st.2) :: R.imL K a.pw a.ws :: R.dpa K a.ws (acts.map WAct.d) :: R.fx a.pd (.dK a.kvs) :: L) ∧ KeysB a.kvs bars := by
  have m := w.i (lsr K a acts bars s) (List.mem_cons_self ..)
  refine ⟨⟨w.g, fun o ho => ?_, w.d, w.o⟩, m.2.2.2.2.2.2⟩
  simp only [List.mem_cons] at ho
  rcases ho with rfl | rfl | rfl | rfl | rfl | rfl | ho
  · exact m.1
  · exact m.2.1
  · exact m.2.2.1
  · exact m.2.2.2.1
  · exact m.2.2.2.2.1
  · exact m.2.2.2.2.2.1
  · exact w.i o (List.mem_cons_of_mem _ ho)
theorem W.clsL (w : W M F0 H0 F H (R.mu a.p (lsO a s.kept s.gone) :: R.mu a.pr (.lst s.st.1) :: R.mu a.pq (.lst s.st.2) :: R.imL K a.pw a.ws :: R.dpa K a.ws (acts.map WAct.d) :: R.fx a.pd (.dK a.kvs) :: L)) (hk : KeysB a.kvs bars) : W M F0 H0 F H (lsr K a acts bars s :: L) := by
  refine ⟨w.g, fun o ho => ?_, w.d, w.o⟩
  rcases List.mem_cons.mp ho with rfl | ho
  · exact ⟨w.i (R.mu a.p _) (by simp), w.i (R.mu a.pr _) (by simp), w.i (R.mu a.pq _) (by simp), w.i (R.imL K a.pw a.ws) (by simp), w.i (R.dpa K a.ws _) (by simp), w.i (R.fx a.pd _) (by simp), hk⟩
  · exact w.i o (by simp only [List.mem_cons]; simp [ho])
end
/-- the room of a text with some cells more -/
def stR (o : Str) (big slots : Nat) : RSt := (chars o ++ List.replicate (big - o.length) .non, List.replicate slots .non)
/-! ### dicts of marks -/
theorem n_dinK {H : Hp} {Q : VK} {D : Addr} {kvs : List (Key × V)} {b : Nat} (h : H D = some (.dK kvs)) (q : Q (.bl (valV kvs (.inl (b : Int))).isSome) H) : gDIn (.ref D) (.int (b : Nat)) H Q := ⟨D, _, rfl, DGet.k (k := .inl (b : Int)) h, q⟩
def mkV (ms : List Nat) : List (Key × V) := ms.map fun (m : Nat) => ((.inl (m : Int) : Key), V.bl true)
theorem mkV_snoc (ms : List Nat) (m : Nat) : mkV (ms ++ [m]) = mkV ms ++ [((.inl (m : Int) : Key), V.bl true)] := by
  unfold mkV
  rw [List.map_append]
  rfl
theorem merge_keys : ∀ (ms : List Nat) (kvs : List (Key × V)) (k : Nat), (valV (mergeK kvs (mkV ms)) (.inl (k : Int))).isSome = ((valV kvs (.inl (k : Int))).isSome || decide (k ∈ ms))
  | [], kvs, k => by
    show (valV kvs _).isSome = _
    simp
  | m :: ms, kvs, k => by
    show (valV (mergeK (putK kvs (.inl (m : Int)) (.bl true)) (mkV ms)) (.inl (k : Int))).isSome = _
    rw [merge_keys ms, valV_put]
    by_cases e : k = m
    · subst e
      rw [if_pos rfl]
      simp
    · rw [if_neg (fun z => e (by have := Sum.inl.inj z; omega))]
      simp [e]
theorem keys_merge (ms : List Nat) : KeysB (mergeK [] (mkV ms)) ms := fun m => by
  rw [merge_keys]
  show (false || _) = _
  rw [Bool.false_or]
/-- tuples told by their addresses -/
def tps (ps : List Addr) (kvs : List (Key × V)) : Own := pur (fun F => Paired (fun p (kv : Key × V) => F p = some (.tup [kV kv.1, kv.2])) ps kvs) fun {F F2} s h => by
  have key : ∀ {ps : List Addr} {kvs : List (Key × V)}, Paired (fun p (kv : Key × V) => F p = some (.tup [kV kv.1, kv.2])) ps kvs → Paired (fun p (kv : Key × V) => F2 p = some (.tup [kV kv.1, kv.2])) ps kvs := by
    intro ps kvs h
    induction h with
    | nil => exact .nil
    | cons h _ ih => exact .cons (s _ _ h) ih
  exact key h
theorem paired_snoc {α β : Type} {R : α → β → Prop} {xs : List α} {ys : List β} {x : α} {y : β} (h : Paired R xs ys) (hx : R x y) : Paired R (xs ++ [x]) (ys ++ [y]) := by
  induction h with
  | nil => exact .cons hx .nil
  | cons h _ ih => exact .cons h ih
theorem paired_sqT {K : PySem.W.Frag} {F H : Hp} {ps : List Addr} {kvs : List (Key × V)} (s : Same F H) (h : Paired (fun p (kv : Key × V) => F p = some (.tup [kV kv.1, kv.2])) ps kvs) : Paired (fun p (kv : Key × V) => SqT K H p [kV kv.1, kv.2]) ps kvs := by
  induction h with
  | nil => exact .nil
  | cons h _ ih => exact .cons (sqT_of (s _ _ h)) ih
theorem n_dictP {K : PySem.W.Frag} {M : List Addr} {F0 H0 F H : Hp} {L : List Own} {Q : VK} {a : Addr} {ps : List Addr} {kvs : List (Key × V)} (w : W M F0 H0 F H L) (hs : SqL K H a (ps.map V.ref)) (hp : tps ps kvs ∈ L) (h : ∀ p F2 H2, W M F0 H0 F2 H2 (mu p (.dK (mergeK [] kvs)) :: L) → H0 p = none → Q (.ref p) H2) : rDictP K [.ref a] H Q :=
  ⟨a, ps, kvs, rfl, hs, paired_sqT w.fh (w.i _ hp), n_new w h⟩
theorem W.gr2 {M : List Addr} {F0 H0 F H F2 H2 : Hp} {L Rs : List Own} {p q : Addr} {o1 o2 u1 u2 : HO} (w : W M F0 H0 F H L) (k : Pick L [R.mu p o1, R.mu q o2] Rs) (g : Gr [p, q] F H F2 H2) (m1 : Mu F2 H2 p u1) (m2 : Mu F2 H2 q u2) : W M F0 H0 F2 H2 (R.mu p u1 :: R.mu q u2 :: Rs) := by
  have hd := (w.to k).d
  refine w.cal (L2 := [R.mu p u1, R.mu q u2]) k ⟨g, fun o ho => ?_, hd, fun a ha => .inl ha⟩ (.cons (.cons .nil)) rfl
  rcases List.mem_cons.mp ho with rfl | ho
  · exact m1
  · rw [List.mem_singleton.mp ho]; exact m2
theorem acts_sum : ∀ {rs : List PRow}, (rs.flatMap PRow.acts).length = (rs.map PRow.size).sum
  | [] => rfl
  | r :: rs => by
    rw [List.flatMap_cons, List.length_append, List.map_cons, List.sum_cons, acts_sum (rs := rs)]
    have h := congrArg List.length (acts_writes r)
    rw [List.length_map, PRow.writes_len] at h
    rw [h]
theorem n_fldInc {K : PySem.W.Frag} {M : List Addr} {F0 H0 F H : Hp} {L Rs : List Own} {C a dx : Addr} {f : Str} {fs : List (Str × V)} {i : Int} {ta : TE} {D : Ends} {σ : L2.St} (w : W M F0 H0 F H L) (k : Pick L [mu a (.ins C dx fs)] Rs) (c : Cls K C) (n : NoAttr K C f) (l : fs.lookup f = some (.int i)) (hl : fs.length < 1000)
    (ha : ∀ Q : VK, Q (.ref a) H → ta σ H Q) (q : ∀ H2, W M F0 H0 F H2 (mu a (.ins C dx (putF f (.int (i + 1)) fs)) :: Rs) → D.nx σ H2) : sFldAug K ta (tC (.int 1)) rAdd f D σ H := by
  have h := (w.to k).at_ (p := a) (List.mem_singleton.mpr rfl)
  exact ha _ ⟨a, C, dx, fs, .int i, rfl, h, c, n, l, ⟨i, 1, rfl, rfl, dx, fs, h, hl, q _ (w.wr k)⟩⟩
theorem nV_at {ms : List Nat} {i : Nat} {x : V} (h : (nV ms)[i]? = some x) : ∃ m, ms[i]? = some m ∧ x = .int (m : Nat) := by
  unfold nV at h
  rw [List.getElem?_map] at h
  cases e : ms[i]? with
  | none => rw [e] at h; cases h
  | some m => rw [e] at h; exact ⟨m, rfl, (Option.some.inj h).symm⟩
theorem ixNatR {n j : Nat} (h : j < n) : ixN n ((j : Nat) : Int) = some j := by
  unfold ixN
  rw [if_pos (by omega), if_pos (by omega)]
  rfl
theorem cell_nsl : ¬ (("cell" : Str) = "slot") := by decide +kernel
theorem done_cellW {st : RSt} {n : Int} {s : Str} {x : Key} : doneAct st ⟨"cell", n, s, x⟩ = (st.1.set n.toNat (actV st ⟨"cell", n, s, x⟩), st.2) := done_cell cell_nsl
theorem done_slotW {st : RSt} {n : Int} {s : Str} {x : Key} : doneAct st ⟨"slot", n, s, x⟩ = (st.1, st.2.set n.toNat (actV st ⟨"slot", n, s, x⟩)) := done_slot rfl
theorem cell_ns : ("cell" : Str) ≠ "sign" := by decide +kernel
theorem slot_ns : ("slot" : Str) ≠ "sign" := by decide +kernel
theorem n_isB {H : Hp} {Q : VK} {a b : Bool} (q : Q (.bl (decide (a = b))) H) : rIsB (.bl a) (.bl b) H Q := ⟨a, b, rfl, rfl, q⟩
theorem n_notB {H : Hp} {Q : VK} {a b : Bool} (q : Q (.bl (!decide (a = b))) H) : rNotB (.bl a) (.bl b) H Q := ⟨a, b, rfl, rfl, q⟩
/-! ### promises: the runner's methods -/
/-- what a step needs -/
def StepOk (acts : List WAct) (bars : List Nat) (s : RnS) : Prop := s.gone ≤ acts.length ∧ ∀ t, acts[s.gone]? = some t → okAct s.st t ∧ WfA t
theorem RI.stepOk {acts : List WAct} {bars : List Nat} {st0 : RSt} {s : RnS} (wf : ∀ t ∈ acts, WfA t) (nt : ∀ i j, ¬ TT acts bars i j) (run : RunOk st0 acts) (h : RI acts bars st0 s) : StepOk acts bars s := ⟨h.le.2, fun t et => ⟨(h.can wf nt run et).1, wf t (List.mem_of_getElem? et)⟩⟩
def φrstep (K : PySem.W.Frag) : V → Hp → VK → Prop := fun x H Q => ∃ (F : Hp) (a : RnA) (acts : List WAct) (bars : List Nat) (s : RnS), x = .ref a.c ∧ St F H [rnr K a acts bars s] ∧ StepOk acts bars s ∧ acts.length ≤ 100000 ∧
  ∀ F2 H2, W [a.c, a.pc, a.ps] F H F2 H2 [rnr K a acts bars (rstep acts bars s).2] → Q (.bl (rstep acts bars s).1) H2
def φrcut (K : PySem.W.Frag) : V → Hp → VK → Prop := fun x H Q => ∃ (F : Hp) (a : RnA) (acts : List WAct) (bars : List Nat) (s : RnS), x = .ref a.c ∧ St F H [rnr K a acts bars s] ∧
  ∀ F2 H2, W [a.c, a.pc, a.ps] F H F2 H2 [rnr K a acts bars (rcut s)] → Q .non H2
def φrmark (K : PySem.W.Frag) : V → Hp → VK → Prop := fun x H Q => ∃ (F : Hp) (a : RnA) (acts : List WAct) (bars : List Nat) (s : RnS), x = .ref a.c ∧ St F H [rnr K a acts bars s] ∧
  ∀ F2 H2, W [a.c, a.pc, a.ps] F H F2 H2 [rnr K a acts bars s] → Q (.int (s.kept : Nat)) H2
def φrroom (K : PySem.W.Frag) : V → Hp → VK → Prop := fun x H Q => ∃ (F : Hp) (a : RnA) (acts : List WAct) (bars : List Nat) (s : RnS), x = .ref a.c ∧ St F H [rnr K a acts bars s] ∧
  ∀ p F2 H2, H p = none → W [a.c, a.pc, a.ps] F H F2 H2 [mu p (.lst s.st.1), rnr K a acts bars s] → Q (.ref p) H2
def φrinit (K : PySem.W.Frag) : V → V → V → V → V → V → Hp → VK → Prop := fun x1 x2 x3 x4 x5 x6 H Q => ∃ (F : Hp) (c dx pp pm : Addr) (o : Str) (vs : List V) (rs : List PRow) (ms : List Nat) (slots : Nat) (size : Int), x1 = .ref c ∧ x2 = .str o ∧ x3 = .ref pp ∧ x4 = .ref pm ∧ x5 = .int (slots : Nat) ∧ x6 = .int size ∧
  St F H [mu c (.ins (He.ga K "Runner") dx [])] ∧ SqL K F pp vs ∧ DpAll K F vs (rs.map PRow.d) ∧ SqL K F pm (nV ms) ∧ (∀ r ∈ rs, r.ok) ∧ (rs.map PRow.size).sum ≤ 50000 ∧ ms.length ≤ 20000 ∧ okS o ∧ o.length ≤ 1000 ∧ slots ≤ 1000 ∧ size ≤ 1000 ∧ -1000 ≤ size ∧
  ∀ (a : RnA) F2 H2, a.c = c → W [c] F H F2 H2 [rnr K a (rs.flatMap PRow.acts) ms ⟨stR o size.toNat slots, 0, 0⟩] → (∀ q ∈ [a.pc, a.ps, a.pw], H q = none) → Q .non H2
/-! ### promises: the law's own runner -/
def φlstepped (K : PySem.W.Frag) : V → Hp → VK → Prop := fun x H Q => ∃ (F : Hp) (a : LsA) (acts : List WAct) (bars : List Nat) (s : RnS), x = .ref a.p ∧ St F H [lsr K a acts bars s] ∧ StepOk acts bars s ∧ acts.length ≤ 100000 ∧
  ∀ F2 H2, W [a.p, a.pr, a.pq] F H F2 H2 [lsr K a acts bars (rstep acts bars s).2] → Q (.bl (rstep acts bars s).1) H2
end R
namespace R
open PySem PySem.Spec PyProof.Rows L2
/-! ### more room than asked -/
def extS (st : RSt) (xs : List V) : RSt := (st.1 ++ xs, st.2)
theorem ext_read {st : RSt} {xs : List V} {t : WAct} {j : Nat} {v : V} (h : (if t.s = "slot" then st.2 else st.1)[j]? = some v) : (if t.s = "slot" then (extS st xs).2 else (extS st xs).1)[j]? = some v := by
  by_cases c : t.s = "slot"
  · rw [if_pos c] at h ⊢
    exact h
  · rw [if_neg c] at h ⊢
    show (st.1 ++ xs)[j]? = _
    rw [List.getElem?_append_left (List.getElem?_eq_some_iff.mp h).1]
    exact h
theorem ext_ok {st : RSt} {xs : List V} {t : WAct} (h : okAct st t) : okAct (extS st xs) t := by
  obtain ⟨hr, i, hi, hl⟩ := h
  refine ⟨hr.imp id fun ⟨hs, j, hj, v, hv, hn⟩ => ⟨hs, j, hj, v, ext_read hv, hn⟩, i, hi, ?_⟩
  by_cases c : t.w = "slot"
  · rw [if_pos c] at hl ⊢
    exact hl
  · rw [if_neg c] at hl ⊢
    show i < (st.1 ++ xs).length
    rw [List.length_append]
    omega
theorem ext_done {st : RSt} {xs : List V} {t : WAct} (h : okAct st t) : doneAct (extS st xs) t = extS (doneAct st t) xs := by
  obtain ⟨hr, i, hi, hl⟩ := h
  have hv : actV (extS st xs) t = actV st t := by
    rcases hr with hs | ⟨hs, j, hj, v, hv, _⟩
    · rw [actV_sign hs, actV_sign hs]
    · rw [actV_read hs hj (ext_read hv), actV_read hs hj hv]
  by_cases c : t.w = "slot"
  · rw [done_slot c, done_slot c, hv]
    rfl
  · rw [done_cell c, done_cell c, hv]
    rw [if_neg c] at hl
    show ((st.1 ++ xs).set t.n.toNat _, st.2) = (st.1.set t.n.toNat _ ++ xs, st.2)
    rw [List.set_append_left _ _ (by omega)]
theorem ext_run {xs : List V} : ∀ {ts : List WAct} {st : RSt}, RunOk st ts → RunOk (extS st xs) ts ∧ doneAll (extS st xs) ts = extS (doneAll st ts) xs
  | [], st, _ => ⟨trivial, rfl⟩
  | t :: ts, st, ⟨h1, h2⟩ => by
    obtain ⟨i1, i2⟩ := ext_run (xs := xs) h2
    rw [← ext_done h1] at i1 i2
    exact ⟨⟨ext_ok h1, i1⟩, i2⟩
theorem stR_ext {o : Str} {big cells slots : Nat} (h : big ≤ cells) (hl : o.length ≤ big) : stR o cells slots = extS (stR o big slots) (List.replicate (cells - big) .non) := by
  unfold stR extS
  show (_, _) = ((chars o ++ List.replicate (big - o.length) V.non) ++ List.replicate (cells - big) V.non, _)
  rw [List.append_assoc, List.replicate_append_replicate, show big - o.length + (cells - big) = cells - o.length by omega]
theorem stR_same {o : Str} {a b slots : Nat} (h : a - o.length = b - o.length) : stR o a slots = stR o b slots := by
  unfold stR
  rw [h]
theorem matchS {o : Str} {n big slots : Nat} (hl : o.length = n) (h : n ≤ big) : Match (flags0 n big slots) (stR o big slots) := by
  subst hl
  refine ⟨?_, ?_, fun i hi => ?_, fun i hi => ?_⟩
  · show (List.replicate o.length true ++ List.replicate (big - o.length) false).length = (chars o ++ List.replicate (big - o.length) V.non).length
    rw [List.length_append, List.length_append, List.length_replicate, List.length_replicate, List.length_replicate, chars_len]
  · show (List.replicate slots false).length = (List.replicate slots V.non).length
    rw [List.length_replicate, List.length_replicate]
  · have hi' : (List.replicate o.length true ++ List.replicate (big - o.length) false)[i]? = some true := hi
    by_cases c : i < o.length
    · refine ⟨sgn o i, ?_, fun z => by cases z⟩
      show (chars o ++ List.replicate (big - o.length) V.non)[i]? = _
      rw [List.getElem?_append_left (by rw [chars_len]; exact c)]
      exact chars_get c
    · rw [List.getElem?_append_right (by rw [List.length_replicate]; omega), List.getElem?_replicate] at hi'
      split at hi' <;> cases hi'
  · have hi' : (List.replicate slots false)[i]? = some true := hi
    rw [List.getElem?_replicate] at hi'
    split at hi' <;> cases hi'
theorem stR_len (o : Str) (big slots : Nat) : (stR o big slots).1.length = o.length + (big - o.length) ∧ (stR o big slots).2.length = slots := by
  unfold stR
  show (chars o ++ List.replicate (big - o.length) V.non).length = _ ∧ (List.replicate slots V.non).length = _
  rw [List.length_append, chars_len, List.length_replicate, List.length_replicate]
  exact ⟨rfl, rfl⟩
theorem stR_flat {o : Str} {big slots : Nat} (h : okS o) : FlatSt (stR o big slots) := by
  constructor
  · intro v hv
    rcases List.mem_append.mp hv with hv | hv
    · exact chars_flat h v hv
    · exact .inl (List.eq_of_mem_replicate hv)
  · intro v hv
    exact .inl (List.eq_of_mem_replicate hv)
theorem actV_flat {st : RSt} {t : WAct} (h : FlatSt st) (ht : t.ok) : FlatV (actV st t) := by
  obtain ⟨tw, tn, ts, tx⟩ := t
  unfold actV
  split
  · cases tx with
    | inl i => exact .inr (.inl ⟨i, rfl⟩)
    | inr z => exact .inr (.inr ⟨z, rfl, ht.2.2⟩)
  · cases tx with
    | inl i =>
      show FlatV ((if ts = "slot" then st.2 else st.1).getD i.toNat .non)
      split
      · exact getD_flat h.2 _
      · exact getD_flat h.1 _
    | inr z => exact .inl rfl
theorem done_flat {st : RSt} {t : WAct} (h : FlatSt st) (ht : t.ok) : FlatSt (doneAct st t) := by
  have hv := actV_flat h ht
  unfold doneAct
  split
  · refine ⟨h.1, fun v hm => ?_⟩
    rcases List.mem_or_eq_of_mem_set hm with hm | rfl
    · exact h.2 v hm
    · exact hv
  · refine ⟨fun v hm => ?_, h.2⟩
    rcases List.mem_or_eq_of_mem_set hm with hm | rfl
    · exact h.1 v hm
    · exact hv
theorem step_flat {acts : List WAct} {bars : List Nat} {s : RnS} (h : FlatSt s.st) (ht : ∀ t ∈ acts, t.ok) : FlatSt (rstep acts bars s).2.st := by
  by_cases hm : s.kept < s.gone ∧ s.gone ∈ bars
  · rw [rstep_mark hm]
    exact h
  · cases et : acts[s.gone]? with
    | none => rw [rstep_end hm et]; exact h
    | some t =>
      rw [rstep_act hm et]
      exact done_flat h (ht t (List.mem_of_getElem? et))
/-! ### what a case is -/
structure CaseOk (o : Str) (rs : List PRow) (ms : List Nat) (slots big : Nat) : Prop where
  oo : okS o
  ol : o.length ≤ big
  bl : big ≤ 400
  sl : slots ≤ 400
  ro : ∀ r ∈ rs, r.ok
  rz : (rs.map PRow.size).sum ≤ 6000
  rl : rs.length ≤ 2000
  can : CanAll (flags0 o.length big slots) rs
  ml : ms.length ≤ 20000
  ri : Rise (rs.flatMap PRow.acts).length ms
  nt : ∀ i j, ¬ TT (rs.flatMap PRow.acts) ms i j
/-- .. in a room of so many cells -/
theorem CaseOk.run {o : Str} {rs : List PRow} {ms : List Nat} {slots big : Nat} (h : CaseOk o rs ms slots big) {cells : Nat} (hc : big ≤ cells) : RunOk (stR o cells slots) (rs.flatMap PRow.acts) ∧ doneAll (stR o cells slots) (rs.flatMap PRow.acts) = extS (goneAll (stR o big slots) rs) (List.replicate (cells - big) .non) := by
  obtain ⟨h1, h2⟩ := rows_run (matchS rfl h.ol) h.can
  rw [stR_ext hc h.ol, ← h2]
  exact ext_run h1
theorem CaseOk.wf {o : Str} {rs : List PRow} {ms : List Nat} {slots big : Nat} (h : CaseOk o rs ms slots big) : ∀ t ∈ rs.flatMap PRow.acts, WfA t := wf_rows h.can
theorem CaseOk.aok {o : Str} {rs : List PRow} {ms : List Nat} {slots big : Nat} (h : CaseOk o rs ms slots big) : ∀ t ∈ rs.flatMap PRow.acts, t.ok := acts_all_ok h.ro
theorem CaseOk.al {o : Str} {rs : List PRow} {ms : List Nat} {slots big : Nat} (h : CaseOk o rs ms slots big) : (rs.flatMap PRow.acts).length ≤ 6000 := by
  rw [acts_sum]
  exact h.rz
/-- a runner's state in a case -/
structure CaseS (o : Str) (rs : List PRow) (ms : List Nat) (slots cells : Nat) (s : RnS) : Prop where
  ri : RI (rs.flatMap PRow.acts) ms (stR o cells slots) s
  fl : FlatSt s.st
theorem CaseOk.start {o : Str} {rs : List PRow} {ms : List Nat} {slots big : Nat} (h : CaseOk o rs ms slots big) (cells : Nat) : CaseS o rs ms slots cells ⟨stR o cells slots, 0, 0⟩ := ⟨ri_start, stR_flat h.oo⟩
theorem CaseOk.step {o : Str} {rs : List PRow} {ms : List Nat} {slots big cells : Nat} (h : CaseOk o rs ms slots big) (hc : big ≤ cells) {s : RnS} (g : CaseS o rs ms slots cells s) : CaseS o rs ms slots cells (rstep (rs.flatMap PRow.acts) ms s).2 :=
  ⟨g.ri.step h.wf h.nt (h.run hc).1, step_flat g.fl h.aok⟩
theorem CaseS.cut {o : Str} {rs : List PRow} {ms : List Nat} {slots cells : Nat} {s : RnS} (g : CaseS o rs ms slots cells s) : CaseS o rs ms slots cells (rcut s) := ⟨g.ri.cut, g.fl⟩
theorem CaseOk.stepOk {o : Str} {rs : List PRow} {ms : List Nat} {slots big cells : Nat} (h : CaseOk o rs ms slots big) (hc : big ≤ cells) {s : RnS} (g : CaseS o rs ms slots cells s) : StepOk (rs.flatMap PRow.acts) ms s := g.ri.stepOk h.wf h.nt (h.run hc).1
theorem CaseS.len {o : Str} {rs : List PRow} {ms : List Nat} {slots cells : Nat} {s : RnS} (g : CaseS o rs ms slots cells s) (hc : o.length ≤ cells) : s.st.1.length = cells := by
  rw [g.ri.ln.1, (stR_len o cells slots).1]
  omega
/-- at the end -/
theorem CaseOk.end_ {o : Str} {rs : List PRow} {ms : List Nat} {slots big cells : Nat} (h : CaseOk o rs ms slots big) (hc : big ≤ cells) {s : RnS} (g : CaseS o rs ms slots cells s) (hz : rmu (rs.flatMap PRow.acts) ms s = 0) :
    s.st.1 = (goneAll (stR o big slots) rs).1 ++ List.replicate (cells - big) .non ∧ (rstep (rs.flatMap PRow.acts) ms s) = (false, s) ∧ ∀ m ∈ ms, m ≤ s.kept := by
  have hf : (rstep (rs.flatMap PRow.acts) ms s).1 = false := by
    cases e : (rstep (rs.flatMap PRow.acts) ms s).1 with
    | false => rfl
    | true =>
      have := (rmu_step h.ri g.ri).1 e
      omega
  obtain ⟨_, hg, hs⟩ := (rmu_step h.ri g.ri).2 hf
  refine ⟨?_, Prod.ext hf hs, fun m hm => ?_⟩
  · rw [g.ri.end_ h.wf hg, (h.run hc).2]
    rfl
  · unfold rmu at hz
    refine Classical.byContradiction fun c => ?_
    have : m ∈ ms.filter (fun m => decide (s.kept < m)) := List.mem_filter.mpr ⟨hm, decide_eq_true (by omega)⟩
    have := List.length_pos_of_mem this
    omega
theorem CaseOk.more {o : Str} {rs : List PRow} {ms : List Nat} {slots big cells : Nat} (h : CaseOk o rs ms slots big) {s : RnS} (g : CaseS o rs ms slots cells s) (hz : 0 < rmu (rs.flatMap PRow.acts) ms s) :
    (rstep (rs.flatMap PRow.acts) ms s).1 = true ∧ rmu (rs.flatMap PRow.acts) ms (rstep (rs.flatMap PRow.acts) ms s).2 + 1 = rmu (rs.flatMap PRow.acts) ms s := by
  cases e : (rstep (rs.flatMap PRow.acts) ms s).1 with
  | false =>
    have := ((rmu_step h.ri g.ri).2 e).1
    omega
  | true => exact ⟨rfl, (rmu_step h.ri g.ri).1 e⟩
/-! ### rows spoilt -/
theorem n_eqR {K : PySem.W.Frag} {H : Hp} {Q : VK} {p r : Addr} {us : List V} {rs : List PRow} (h1 : SqL K H p us) (hd : DpAll K H us (rs.map PRow.d)) (h2 : SqL K H r []) (hr : ∀ q ∈ rs, q.ok) (hl : us.length ≤ 100000) (q : Q (.bl (decide (us.length = 0))) H) : rEqD K (.ref p) (.ref r) H Q := by
  have e : us.length = rs.length := by rw [dpa_len hd, List.length_map]
  have g := all_good hr (by omega)
  refine ⟨_, _, .lst h1 hd, .lst h2 .nil, good_shaped g.1 (Nat.le_trans g.2 (by decide)), good_shaped rfl (by decide), ?_⟩
  rw [e] at q
  cases rs <;> exact q
def xrow : PRow := .put 0 "x"
theorem xrow_ok : xrow.ok := ⟨by decide +kernel, by decide +kernel⟩
theorem xrow_dp {K : PySem.W.Frag} {F : Hp} {t : Addr} (h : F t = some (.tup [.str "put", .int 0, .str "x"])) : Dp K F (.ref t) xrow.d := .tup (sqT_of h) (.cons (.str _) (.cons (.int _) (.cons (.str _) .nil)))
theorem dpa_setR {K : PySem.W.Frag} {F : Hp} {v : V} {d : PyData} : ∀ {vs : List V} {ds : List PyData} (i : Nat), DpAll K F vs ds → Dp K F v d → DpAll K F (vs.set i v) (ds.set i d)
  | _, _, _, .nil, _ => .nil
  | _, _, 0, .cons _ t, h => .cons h t
  | _, _, i + 1, .cons g t, h => .cons g (dpa_setR i t h)
theorem dpa_revR {K : PySem.W.Frag} {F : Hp} : ∀ {vs : List V} {ds : List PyData}, DpAll K F vs ds → DpAll K F vs.reverse ds.reverse
  | _, _, .nil => .nil
  | _, _, .cons h t => by
    rw [List.reverse_cons, List.reverse_cons]
    exact dpa_snoc (dpa_revR t) h
/-! ### lists lent to a call that keeps nothing of them -/
def hrem (F : Hp) (p : Addr) : Hp := fun x => if x = p then none else F x
theorem hrem_ne {F : Hp} {p x : Addr} (h : x ≠ p) : hrem F p x = F x := if_neg h
theorem hrem_at {F : Hp} {p : Addr} : hrem F p p = none := if_pos rfl
theorem hrem_some {F : Hp} {p x : Addr} {o : HO} (h : hrem F p x = some o) : x ≠ p ∧ F x = some o := by
  by_cases e : x = p
  · rw [e, hrem_at] at h
    cases h
  · rw [hrem_ne e] at h
    exact ⟨e, h⟩
theorem sqT_hrem {K : PySem.W.Frag} {F : Hp} {p t : Addr} {vs xs : List V} (hp : F p = some (.lst vs)) (h : SqT K F t xs) : SqT K (hrem F p) t xs := by
  rcases h with h | h
  · have e : t ≠ p := fun e => by
      subst e
      rcases h with h | ⟨o, h⟩ <;> · rw [hp] at h; cases h
    refine .inl ?_
    unfold Rd
    rw [hrem_ne e]
    exact h
  · exact .inr h
theorem sqL_hrem {K : PySem.W.Frag} {F : Hp} {p a : Addr} {xs : List V} (e : a ≠ p) (h : SqL K F a xs) : SqL K (hrem F p) a xs := by
  rcases h with h | h
  · refine .inl ?_
    unfold Rd
    rw [hrem_ne e]
    exact h
  · exact .inr h
theorem dpa_hrem {K : PySem.W.Frag} {F : Hp} {p : Addr} {vs : List V} (hp : F p = some (.lst vs)) : ∀ {acts : List WAct} {ws : List V}, DpAll K F ws (acts.map WAct.d) → DpAll K (hrem F p) ws (acts.map WAct.d)
  | [], _, h => by rw [dpa_nil h]; exact .nil
  | t :: ts, _, h => by
    obtain ⟨v, us, rfl, h1, h2⟩ := dpa_cons h
    obtain ⟨q, rfl, hs⟩ := dp_act h1
    exact .cons (.tup (sqT_hrem hp hs) (.cons (.str _) (.cons (.int _) (.cons (.str _) (.cons (key_dp _) .nil))))) (dpa_hrem hp h2)
theorem rnF_hrem {K : PySem.W.Frag} {F : Hp} {p : Addr} {vs : List V} {a : RnA} {acts : List WAct} {bars : List Nat} (hp : F p = some (.lst vs)) (hw : a.pw ≠ p) (h : RnF K a acts bars F) : RnF K a acts bars (hrem F p) := by
  refine ⟨sqL_hrem hw h.1, dpa_hrem hp h.2.1, ?_, h.2.2.2⟩
  have e : a.pb ≠ p := fun e => by
    have := h.2.2.1
    rw [e, hp] at this
    cases this
  rw [hrem_ne e]
  exact h.2.2.1
/-- a runner made of two lists that are handed on -/
theorem n_rinit {K : PySem.W.Frag} {M : List Addr} {F0 H0 F H : Hp} {L Rs : List Own} {Q : VK} {c dx p0 p1 : Addr} {o : Str} {vs : List V} {rs : List PRow} {ms : List Nat} {slots : Nat} {size : Int} (w : W M F0 H0 F H L)
    (k : Pick L [mu c (.ins (He.ga K "Runner") dx []), mu p0 (.lst vs), mu p1 (.lst (nV ms))] Rs) (hD : DpAll K F vs (rs.map PRow.d)) (h1 : ∀ r ∈ rs, r.ok) (h2 : (rs.map PRow.size).sum ≤ 50000) (h3 : ms.length ≤ 20000) (h4 : okS o) (h5 : o.length ≤ 1000) (h6 : slots ≤ 1000) (h7 : size ≤ 1000) (h8 : -1000 ≤ size)
    (q : ∀ (r : RnA) F2 H2, r.c = c → W M F0 H0 F2 H2 (rnr K r (rs.flatMap PRow.acts) ms ⟨stR o size.toNat slots, 0, 0⟩ :: mu p0 (.lst vs) :: mu p1 (.lst (nV ms)) :: Rs) → Q .non H2) : φrinit K (.ref c) (.str o) (.ref p0) (.ref p1) (.int (slots : Nat)) (.int size) H Q := by
  have w' : W M F0 H0 F H (mu c (.ins (He.ga K "Runner") dx []) :: mu p0 (.lst vs) :: mu p1 (.lst (nV ms)) :: Rs) := w.perm k.perm
  have mc := w'.mu (p := c) (List.mem_cons_self ..)
  have m0 := w'.mu (p := p0) (u := .lst vs) (by simp)
  have m1 := w'.mu (p := p1) (u := .lst (nV ms)) (by simp)
  have hnd : (c :: p0 :: p1 :: ads Rs).Nodup := w'.d
  obtain ⟨hc, hnd⟩ := List.nodup_cons.mp hnd
  obtain ⟨hp0, _⟩ := List.nodup_cons.mp hnd
  have c0 : c ≠ p0 := fun e => hc (by rw [e]; exact List.mem_cons_self ..)
  have c1 : c ≠ p1 := fun e => hc (by rw [e]; exact List.mem_cons_of_mem _ (List.mem_cons_self ..))
  have p01 : p0 ≠ p1 := fun e => hp0 (by rw [e]; exact List.mem_cons_self ..)
  have s1 : Same F (upd F p0 (.lst vs)) := Same.new m0.n
  have n1 : upd F p0 (.lst vs) p1 = none := by rw [upd_ne p01.symm]; exact m1.n
  have s2 : Same (upd F p0 (.lst vs)) (upd (upd F p0 (.lst vs)) p1 (.lst (nV ms))) := Same.new n1
  have a1 : upd (upd F p0 (.lst vs)) p1 (.lst (nV ms)) p1 = some (.lst (nV ms)) := upd_same
  have a0 : upd (upd F p0 (.lst vs)) p1 (.lst (nV ms)) p0 = some (.lst vs) := by rw [upd_ne p01]; exact upd_same
  have ao : ∀ x, x ≠ p0 → x ≠ p1 → upd (upd F p0 (.lst vs)) p1 (.lst (nV ms)) x = F x := fun x e0 e1 => by rw [upd_ne e1, upd_ne e0]
  generalize upd (upd F p0 (.lst vs)) p1 (.lst (nV ms)) = F' at s2 a1 a0 ao
  have sF : Same F F' := s1.trans s2
  have sH : Same F' H := fun x u e => by
    by_cases e0 : x = p0
    · rw [e0] at e ⊢
      rw [a0] at e
      rw [m0.h]
      exact e
    · by_cases e1 : x = p1
      · rw [e1] at e ⊢
        rw [a1] at e
        rw [m1.h]
        exact e
      · rw [ao x e0 e1] at e
        exact w'.fh x u e
  refine ⟨F', c, dx, p0, p1, o, vs, rs, ms, slots, size, rfl, rfl, rfl, rfl, rfl, rfl, ⟨sH, fun u hu => ?_, ?_⟩, sqL_of a0, dpa_same sF _ _ hD, sqL_of a1, h1, h2, h3, h4, h5, h6, h7, h8, fun r F2 H2 hrc w2 hnew => ?_⟩
  · rw [List.mem_singleton.mp hu]
    exact ⟨by rw [ao c c0 c1]; exact mc.n, mc.h⟩
  · exact List.nodup_cons.mpr ⟨(fun z => nomatch z), .nil⟩
  · have b0 : F2 p0 = some (.lst vs) := w2.ff _ _ a0
    have b1 : F2 p1 = some (.lst (nV ms)) := w2.ff _ _ a1
    have m := w2.i (rnr K r (rs.flatMap PRow.acts) ms ⟨stR o size.toNat slots, 0, 0⟩) (List.mem_singleton.mpr rfl)
    obtain ⟨x1, x2, x3, x4⟩ := m
    have hw0 : r.pw ≠ p0 := fun e => by
      have := hnew r.pw (by simp)
      rw [e, m0.h] at this
      cases this
    have hw1 : r.pw ≠ p1 := fun e => by
      have := hnew r.pw (by simp)
      rw [e, m1.h] at this
      cases this
    have b1' : hrem F2 p0 p1 = some (.lst (nV ms)) := by rw [hrem_ne p01.symm]; exact b1
    have y4 := rnF_hrem b1' hw1 (rnF_hrem b0 hw0 x4)
    have hn : ∀ {x : Addr}, F2 x = none → hrem (hrem F2 p0) p1 x = none := fun {x} e => by
      by_cases e1 : x = p1
      · rw [e1]; exact hrem_at
      · rw [hrem_ne e1]
        by_cases e0 : x = p0
        · rw [e0]; exact hrem_at
        · rw [hrem_ne e0]; exact e
    have g : Gr [c] F H (hrem (hrem F2 p0) p1) H2 := by
      refine ⟨fun x u e => ?_, fun x u e => ?_, w2.g.hh, w2.g.al, fun x e n => ?_⟩
      · have e0 : x ≠ p0 := fun z => by rw [z, m0.n] at e; cases e
        have e1 : x ≠ p1 := fun z => by rw [z, m1.n] at e; cases e
        rw [hrem_ne e1, hrem_ne e0]
        exact w2.ff x u (sF x u e)
      · obtain ⟨_, e⟩ := hrem_some e
        obtain ⟨_, e⟩ := hrem_some e
        exact w2.fh x u e
      · by_cases e0 : x = p0
        · by_cases e1 : x = p1
          · rw [e1]; exact hrem_at
          · rw [hrem_ne e1, e0]; exact hrem_at
        · by_cases e1 : x = p1
          · rw [e1]; exact hrem_at
          · exact hn (w2.g.nw x e (by rw [ao x e0 e1]; exact n))
    have w3 : W [c] F H (hrem (hrem F2 p0) p1) H2 [rnr K r (rs.flatMap PRow.acts) ms ⟨stR o size.toNat slots, 0, 0⟩] := by
      refine ⟨g, fun u hu => ?_, w2.d, w2.o⟩
      rw [List.mem_singleton.mp hu]
      exact ⟨⟨hn x1.n, x1.h⟩, ⟨hn x2.n, x2.h⟩, ⟨hn x3.n, x3.h⟩, y4⟩
    exact q r _ H2 hrc (w'.cal (.cons .here .nil) w3 (.cons .nil))
theorem n_slT5 {K : PySem.W.Frag} {M : List Addr} {F0 H0 F H : Hp} {L : List Own} {Q : VK} {p : Addr} {xs : List V} {lo hi : Option Int} (w : W M F0 H0 F H L) (hs : SqT K H p xs) (e : ¬ (HT.sIx xs.length 0 lo = 0 ∧ HT.sIx xs.length xs.length hi = xs.length)) (h : ∀ t F2 H2, W M F0 H0 F2 H2 (fx t (.tup (cutV xs lo hi)) :: L) → Q (.ref t) H2) : rSlT K (.ref p) lo hi H Q :=
  ⟨p, xs, rfl, hs, e, fun l hl => h l _ _ ((w.im (u := .tup (cutV xs lo hi)) hl).push (fx l (.tup (cutV xs lo hi))) upd_same)⟩
/-- an instance made by keywords, behind some by place -/
def makKR (C : Addr) (sp : Sp) (gV : List V → List V → List V) (vs zs : List V) (E : XK) (H : Hp) (Q : VK) : Prop := ∀ x dx, H x = none → H dx = none → dx ≠ x → sp (gV (.ref x :: vs) zs) (upd (upd H dx (.own x)) x (.ins C dx [])) (aftG Q x) E
theorem x_makeKR {C : Addr} {n m : Nat} {sp : Sp} {gV : List V → List V → List V} {E : XK} {t tk : TA} {σ : L2.St} {H : Hp} {Q : VK} (q : t σ H fun vs H1 => tk σ H1 fun zs H2 => vs.length = n ∧ zs.length = m ∧ makKR C sp gV vs zs E H2 Q) : tMakeK C n m sp gV E t tk σ H Q := q
theorem n_makeKR {M : List Addr} {F0 H0 F H : Hp} {L : List Own} {Q : VK} {C : Addr} {sp : Sp} {gV : List V → List V → List V} {vs zs : List V} {E : XK} (w : W M F0 H0 F H L) (q : ∀ x dx H2, W M F0 H0 F H2 (mu x (.ins C dx []) :: mu dx (.own x) :: L) → H0 x = none → sp (gV (.ref x :: vs) zs) H2 (aftG Q x) E) : makKR C sp gV vs zs E H Q := by
  intro x dx nx ndx hne
  have w1 := w.nw (u := .own x) ndx
  have nx1 : upd H dx (.own x) x = none := by rw [upd_ne hne.symm]; exact nx
  exact q x dx _ (w1.nw (u := .ins C dx []) nx1) (w.g.fresh nx)
/-- how many cells a runner is given -/
def GivenOk (o : Str) (big : Nat) (given : Int) : Prop := (big : Int) ≤ given ∧ given ≤ 900 ∨ o.length = big ∧ 0 ≤ given ∧ given ≤ big
def cellsOf (o : Str) (given : Int) : Nat := if given > ((o.length : Nat) : Int) then given.toNat else o.length
theorem cells_ok {o : Str} {big : Nat} {given : Int} (h : GivenOk o big given) (hl : o.length ≤ big) (hb : big ≤ 400) : big ≤ cellsOf o given ∧ cellsOf o given ≤ 1000 ∧ 0 ≤ given ∧ given ≤ 900 := by
  unfold cellsOf
  rcases h with h | h
  · split <;> omega
  · split <;> omega
theorem cells_stR {o : Str} {given : Int} {slots : Nat} {g : Int} (h : g.toNat - o.length = given.toNat - o.length) : stR o g.toNat slots = stR o (cellsOf o given) slots := by
  refine stR_same ?_
  unfold cellsOf
  split <;> omega
/-- rooms shown, with what they were -/
def ShV (F : Hp) (v : V) : Prop := ∃ (t p c : Addr) (xs : List V), v = .ref t ∧ F t = some (.tup [.ref p, .ref c]) ∧ F p = some (.lst xs) ∧ F c = some (.lst xs) ∧ (∀ x ∈ xs, FlatV x) ∧ xs.length ≤ 10000
def shO (zs : List V) : Own := pur (fun F => ∀ v ∈ zs, ShV F v) fun s h v hv => by
  obtain ⟨t, p, c, xs, e, h1, h2, h3, h4, h5⟩ := h v hv
  exact ⟨t, p, c, xs, e, s _ _ h1, s _ _ h2, s _ _ h3, h4, h5⟩
theorem sh_snoc {F : Hp} {zs : List V} {v : V} (h : ∀ u ∈ zs, ShV F u) (hv : ShV F v) : ∀ u ∈ zs ++ [v], ShV F u := fun u hu => by
  rcases List.mem_append.mp hu with hu | hu
  · exact h u hu
  · rw [List.mem_singleton.mp hu]; exact hv
/-! ### promises -/
structure CaseA where
  t : Addr
  pd : Addr
  pm : Addr
  pr : Addr
  vs : List V
/-- a case in the heap -/
def caseP (K : PySem.W.Frag) (a : CaseA) (o : Str) (rs : List PRow) (ms : List Nat) (slots big : Nat) : Own := pur (fun F => F a.t = some (.tup [.str o, .ref a.pd, .ref a.pm, .int (slots : Nat), .int (big : Nat), .ref a.pr]) ∧ F a.pd = some (.lst a.vs) ∧ DpAll K F a.vs (rs.map PRow.d) ∧ F a.pm = some (.lst (nV ms)) ∧ F a.pr = some (.lst (goneAll (stR o big slots) rs).1))
  fun {F F2} s h => ⟨s _ _ h.1, s _ _ h.2.1, dpa_same s _ _ h.2.2.1, s _ _ h.2.2.2.1, s _ _ h.2.2.2.2⟩
section
variable {K : PySem.W.Frag} {M : List Addr} {F0 H0 F H : Hp} {L : List Own} {a : CaseA} {o : Str} {rs : List PRow} {ms : List Nat} {slots big : Nat}
theorem W.opnC (w : W M F0 H0 F H L) (h : caseP K a o rs ms slots big ∈ L) : W M F0 H0 F H (R.fx a.t (.tup [.str o, .ref a.pd, .ref a.pm, .int (slots : Nat), .int (big : Nat), .ref a.pr]) :: R.fx a.pd (.lst a.vs) :: R.dpa K a.vs (rs.map PRow.d) :: R.fx a.pm (.lst (nV ms)) :: R.fx a.pr (.lst (goneAll (stR o big slots) rs).1) :: L) := by
  have m := w.i _ h
  exact ((((w.push (R.fx a.pr _) m.2.2.2.2).push (R.fx a.pm _) m.2.2.2.1).push (R.dpa K a.vs _) m.2.2.1).push (R.fx a.pd _) m.2.1).push (R.fx a.t _) m.1
end
def φcase (K : PySem.W.Frag) : V → V → V → Hp → VK → Prop := fun x y z H Q => ∃ (F : Hp) (b : Addr) (f : Bool) (often : Int), x = .ref b ∧ y = .bl f ∧ z = .int often ∧ St F H [bag K b] ∧ 0 < often ∧ often < 2 ^ 200 ∧
  ∀ (a : CaseA) (o : Str) (rs : List PRow) (ms : List Nat) (slots big : Nat) F2 H2, W [b] F H F2 H2 [caseP K a o rs ms slots big, bag K b] → CaseOk o rs ms slots big → Q (.ref a.t) H2
def φlspoil (K : PySem.W.Frag) : V → V → Hp → VK → Prop := fun x y H Q => ∃ (F : Hp) (b p : Addr) (vs : List V) (rs : List PRow), x = .ref b ∧ y = .ref p ∧ St F H [bag K b, mu p (.lst vs)] ∧ DpAll K F vs (rs.map PRow.d) ∧ (∀ r ∈ rs, r.ok) ∧ vs.length ≤ 5000 ∧
  ∀ (us : List V) (rs2 : List PRow) F2 H2, W [b, p] F H F2 H2 [dpa K us (rs2.map PRow.d), mu p (.lst us), bag K b] → (∀ r ∈ rs2, r.ok) → us.length ≤ vs.length + 1 → Q .non H2
def φlrunner (K : PySem.W.Frag) : V → V → Hp → VK → Prop := fun x y H Q => ∃ (F : Hp) (b : Addr) (a : CaseA) (o : Str) (rs : List PRow) (ms : List Nat) (slots big : Nat), x = .ref b ∧ y = .ref a.t ∧ St F H [caseP K a o rs ms slots big, bag K b] ∧ CaseOk o rs ms slots big ∧
  ∀ (t : Addr) (r : RnA) (ph p0 p1 : Addr) (cells : Nat) F2 H2, big ≤ cells → cells ≤ 1000 → W [b] F H F2 H2 [fx t (.tup [.ref r.c, .ref ph, .int (cells : Nat)]), fx ph (.lst [.ref p0, .ref p1]), mu p0 (.lst a.vs), mu p1 (.lst (nV ms)), rnr K r (rs.flatMap PRow.acts) ms ⟨stR o cells slots, 0, 0⟩, bag K b] → Q (.ref t) H2
end R
namespace R
open PySem PySem.Spec PyProof.Rows L2
/-! ### two runners -/
/-- a dict that knows all marks has at least as many keys -/
theorem keys_len {kvs : List (Key × V)} {ms : List Nat} (hk : KeysB kvs ms) (hn : ms.Nodup) : ms.length ≤ kvs.length := by
  have sub : ms.map (fun (m : Nat) => (.inl (m : Int) : Key)) ⊆ kvs.map (·.1) := by
    intro k hm
    obtain ⟨m, hm2, rfl⟩ := List.mem_map.mp hm
    have h1 : (valV kvs (.inl (m : Int))).isSome = true := by rw [hk m, decide_eq_true hm2]
    unfold valV at h1
    rw [Option.isSome_map, List.find?_isSome] at h1
    obtain ⟨kv, h2, h3⟩ := h1
    exact List.mem_map.mpr ⟨kv, h2, of_decide_eq_true h3⟩
  have nd : (ms.map fun (m : Nat) => (.inl (m : Int) : Key)).Nodup := by
    refine List.Pairwise.map _ (fun a b h e => h ?_) hn
    have := Sum.inl.inj e
    omega
  have := nd.length_le_of_subset sub
  rwa [List.length_map, List.length_map] at this
/-- so many steps, or less at the end -/
theorem CaseOk.down {o : Str} {rs : List PRow} {ms : List Nat} {slots big cells : Nat} (h : CaseOk o rs ms slots big) {s : RnS} (g : CaseS o rs ms slots cells s) {k : Nat} (hk : rmu (rs.flatMap PRow.acts) ms s ≤ k + 1) : rmu (rs.flatMap PRow.acts) ms (rstep (rs.flatMap PRow.acts) ms s).2 ≤ k := by
  by_cases hz : 0 < rmu (rs.flatMap PRow.acts) ms s
  · have := (h.more g hz).2
    omega
  · have hf : (rstep (rs.flatMap PRow.acts) ms s).1 = false := by
      cases e : (rstep (rs.flatMap PRow.acts) ms s).1 with
      | false => rfl
      | true =>
        have := (rmu_step h.ri g.ri).1 e
        omega
    rw [((rmu_step h.ri g.ri).2 hf).2.2]
    omega
theorem atI_negR {α : Type} {xs : List α} {v : α} (h : xs[xs.length - 1]? = some v) : atI xs (-1) = some v := by
  have hl := (List.getElem?_eq_some_iff.mp h).1
  unfold atI ixN
  rw [if_neg (by decide)]
  first
    | (rw [if_pos (by omega)]; show xs[(((xs.length : Nat) : Int) + -1).toNat]? = some v; rw [show (((xs.length : Nat) : Int) + -1).toNat = xs.length - 1 by omega]; exact h)
    | (rw [if_pos (by omega)]; show xs[((-1 : Int) + ((xs.length : Nat) : Int)).toNat]? = some v; rw [show ((-1 : Int) + ((xs.length : Nat) : Int)).toNat = xs.length - 1 by omega]; exact h)
theorem atI_lastR {α : Type} {l : List α} {x : α} : atI (l ++ [x]) (-1) = some x := atI_negR (by rw [List.length_append, show l.length + [x].length - 1 = l.length by simp, List.getElem?_append_right (Nat.le_refl _), Nat.sub_self]; rfl)
theorem mergeK_len : ∀ (xs kvs : List (Key × V)), (mergeK kvs xs).length ≤ kvs.length + xs.length
  | [], kvs => Nat.le_refl _
  | (k, v) :: xs, kvs => by
    have h := mergeK_len xs (putK kvs k v)
    have g : (putK kvs k v).length ≤ kvs.length + 1 := by
      unfold putK
      split
      · rw [List.length_map]; omega
      · rw [List.length_append]; exact Nat.le_refl _
    rw [List.length_cons]
    have h : (mergeK kvs ((k, v) :: xs)).length ≤ (putK kvs k v).length + xs.length := h
    omega
/-- all data of a runner and the law's own beside it -/
structure PD where
  t : Addr
  r : RnA
  l : LsA
  o : Str
  rs : List PRow
  ms : List Nat
  slots : Nat
  big : Nat
  cells : Nat
  pz : Addr
  ph : Addr
  p0 : Addr
  p1 : Addr
  vs : List V
structure PD.Ok (d : PD) : Prop where
  c : CaseOk d.o d.rs d.ms d.slots d.big
  h : d.big ≤ d.cells
  m : d.cells ≤ 1000
  k : d.l.kvs.length ≤ 100000
  v : d.vs.length ≤ 2000
abbrev PD.A (d : PD) : List WAct := d.rs.flatMap PRow.acts
abbrev PD.s0 (d : PD) : RnS := ⟨stR d.o d.cells d.slots, 0, 0⟩
abbrev PD.S (d : PD) (s : RnS) : Prop := CaseS d.o d.rs d.ms d.slots d.cells s
abbrev PD.due (d : PD) : List V := (goneAll (stR d.o d.big d.slots) d.rs).1 ++ List.replicate (d.cells - d.big) V.non
/-! ### promises -/
def φstepright (K : PySem.W.Frag) : V → V → Hp → VK → Prop := fun x y H Q => ∃ (F : Hp) (r : RnA) (l : LsA) (acts : List WAct) (bars : List Nat) (s : RnS), x = .ref r.c ∧ y = .ref l.p ∧ St F H [rnr K r acts bars s, lsr K l acts bars s] ∧ StepOk acts bars s ∧ acts.length ≤ 100000 ∧
  ∀ F2 H2, W [r.c, r.pc, r.ps, l.p, l.pr, l.pq] F H F2 H2 [rnr K r acts bars (rstep acts bars s).2, lsr K l acts bars (rstep acts bars s).2] → Q (.bl true) H2
def φended (K : PySem.W.Frag) : V → V → V → Hp → VK → Prop := fun x y z H Q => ∃ (F : Hp) (r : RnA) (l : LsA) (o : Str) (rs : List PRow) (ms : List Nat) (slots big cells : Nat) (s : RnS) (pz : Addr), x = .ref r.c ∧ y = .ref l.p ∧ z = .ref pz ∧ St F H [rnr K r (rs.flatMap PRow.acts) ms s, lsr K l (rs.flatMap PRow.acts) ms s] ∧ CaseOk o rs ms slots big ∧ big ≤ cells ∧ cells ≤ 1000 ∧ CaseS o rs ms slots cells s ∧
  F pz = some (.lst ((goneAll (stR o big slots) rs).1 ++ List.replicate (cells - big) .non)) ∧ l.kvs.length ≤ 100000 ∧
  ∀ (s2 : RnS) F2 H2, CaseS o rs ms slots cells s2 → W [r.c, r.pc, r.ps, l.p, l.pr, l.pq] F H F2 H2 [rnr K r (rs.flatMap PRow.acts) ms s2, lsr K l (rs.flatMap PRow.acts) ms s2] → Q (.bl true) H2
def φdeed56 (K : PySem.W.Frag) : V → V → V → Hp → VK → Prop := fun x y z H Q => ∃ (F : Hp) (b t : Addr) (r : RnA) (l : LsA) (o : Str) (rs : List PRow) (ms : List Nat) (slots big cells : Nat) (s : RnS) (pz ph p0 p1 psn : Addr) (us xs ys : List V) (rs2 : List PRow), x = .ref b ∧ y = .ref t ∧ z = .ref psn ∧
  St F H [bag K b, rnr K r (rs.flatMap PRow.acts) ms s, lsr K l (rs.flatMap PRow.acts) ms s, mu p0 (.lst us), mu p1 (.lst xs), mu psn (.lst ys), fx t (.tup [.ref r.c, .ref l.p, .ref pz, .ref ph]), fx ph (.lst [.ref p0, .ref p1]), dpa K us (rs2.map PRow.d)] ∧ (∀ q ∈ rs2, q.ok) ∧ us.length ≤ 4000 ∧ ys.length ≤ 4000 ∧
  CaseOk o rs ms slots big ∧ big ≤ cells ∧ cells ≤ 1000 ∧ CaseS o rs ms slots cells s ∧
  ∀ (s2 : RnS) (us2 xs2 zs : List V) (rs3 : List PRow) F2 H2, CaseS o rs ms slots cells s2 → (∀ q ∈ rs3, q.ok) → us2.length ≤ us.length + 1 → zs.length ≤ 1 →
    W [b, r.c, r.pc, r.ps, l.p, l.pr, l.pq, p0, p1, psn] F H F2 H2 [dpa K us2 (rs3.map PRow.d), shO zs, bag K b, rnr K r (rs.flatMap PRow.acts) ms s2, lsr K l (rs.flatMap PRow.acts) ms s2, mu p0 (.lst us2), mu p1 (.lst xs2), mu psn (.lst (ys ++ zs))] → Q (.bl true) H2
def φlstateN (K : PySem.W.Frag) : V → V → V → V → V → Hp → VK → Prop := fun x1 x2 x3 x4 x5 H Q => ∃ (F : Hp) (pp pm : Addr) (o : Str) (vs : List V) (rs : List PRow) (ms : List Nat) (slots big : Nat), x1 = .str o ∧ x2 = .ref pp ∧ x3 = .ref pm ∧ x4 = .int (slots : Nat) ∧ x5 = .int (big : Nat) ∧ Same F H ∧
  SqL K F pp vs ∧ DpAll K F vs (rs.map PRow.d) ∧ SqL K F pm (nV ms) ∧ (∀ r ∈ rs, r.ok) ∧ (rs.map PRow.size).sum ≤ 50000 ∧ ms.length ≤ 20000 ∧ okS o ∧ o.length ≤ 1000 ∧ slots ≤ 1000 ∧ big ≤ 1000 ∧
  ∀ (a : LsA) F2 H2, W [] F H F2 H2 [lsr K a (rs.flatMap PRow.acts) ms ⟨stR o big slots, 0, 0⟩] → (∀ q ∈ [a.p, a.pr, a.pq], H q = none) → a.kvs.length ≤ 20000 → Q (.ref a.p) H2
end R
namespace Z
open PySem PySem.Spec PyProof.Rows L2 R
def topS (i : Nat) : Stmt := PySem.Challenge.pw_remadehere_k56_whole_two_runners_cut.main.body.getD i (.Pass ⟨0, 0, 0, 0⟩)
abbrev s_row_writes : Stmt := topS 1
theorem sc_row_writes : FnScope ["row", "steps", "where", "source", "k"] ["row"] (defScope s_row_writes) := ⟨rfl, rfl, rfl, by decide +kernel, rfl, by decide +kernel, by decide +kernel⟩
abbrev s_writes : Stmt := topS 2
theorem sc_writes : FnScope ["plan", "found", "row"] ["plan"] (defScope s_writes) := ⟨rfl, rfl, rfl, by decide +kernel, rfl, by decide +kernel, by decide +kernel⟩
abbrev s_RunnerX_initX : Stmt := inClass (topS 3) 0
theorem sc_RunnerX_initX : FnScope ["self", "old", "plan", "marks", "spare", "size", "mark"] ["self", "old", "plan", "marks", "spare", "size"] (defScope s_RunnerX_initX) := ⟨rfl, rfl, rfl, by decide +kernel, rfl, by decide +kernel, by decide +kernel⟩
abbrev s_Runner_step : Stmt := inClass (topS 3) 1
theorem sc_Runner_step : FnScope ["self", "where", "number", "source", "what", "sign"] ["self"] (defScope s_Runner_step) := ⟨rfl, rfl, rfl, by decide +kernel, rfl, by decide +kernel, by decide +kernel⟩
abbrev s_Runner_cut : Stmt := inClass (topS 3) 2
theorem sc_Runner_cut : FnScope ["self"] ["self"] (defScope s_Runner_cut) := ⟨rfl, rfl, rfl, by decide +kernel, rfl, by decide +kernel, by decide +kernel⟩
abbrev s_Runner_mark : Stmt := inClass (topS 3) 3
theorem sc_Runner_mark : FnScope ["self"] ["self"] (defScope s_Runner_mark) := ⟨rfl, rfl, rfl, by decide +kernel, rfl, by decide +kernel, by decide +kernel⟩
abbrev s_Runner_room : Stmt := inClass (topS 3) 4
theorem sc_Runner_room : FnScope ["self"] ["self"] (defScope s_Runner_room) := ⟨rfl, rfl, rfl, by decide +kernel, rfl, by decide +kernel, by decide +kernel⟩
abbrev s_law_bag : Stmt := topS 5
theorem sc_law_bag : FnScope ["script", "stir", "cell"] ["script"] (defScope s_law_bag) := ⟨rfl, rfl, rfl, by decide +kernel, rfl, by decide +kernel, by decide +kernel⟩
abbrev s_law_stirred : Stmt := topS 6
theorem sc_law_stirred : FnScope ["bag", "many", "got", "k"] ["bag", "many"] (defScope s_law_stirred) := ⟨rfl, rfl, rfl, by decide +kernel, rfl, by decide +kernel, by decide +kernel⟩
abbrev s_law_draw : Stmt := topS 7
theorem sc_law_draw : FnScope ["bag", "many", "got"] ["bag", "many"] (defScope s_law_draw) := ⟨rfl, rfl, rfl, by decide +kernel, rfl, by decide +kernel, by decide +kernel⟩
abbrev s_law_whole : Stmt := topS 8
theorem sc_law_whole : FnScope ["got"] ["got"] (defScope s_law_whole) := ⟨rfl, rfl, rfl, by decide +kernel, rfl, by decide +kernel, by decide +kernel⟩
abbrev s_law_sign : Stmt := topS 9
theorem sc_law_sign : FnScope ["bag", "few", "acts"] ["bag", "few"] (defScope s_law_sign) := ⟨rfl, rfl, rfl, by decide +kernel, rfl, by decide +kernel, by decide +kernel⟩
abbrev s_law_text : Stmt := topS 10
theorem sc_law_text : FnScope ["bag", "few", "many", "k"] ["bag", "few", "many"] (defScope s_law_text) := ⟨rfl, rfl, rfl, by decide +kernel, rfl, by decide +kernel, by decide +kernel⟩
abbrev s_law_any_row : Stmt := topS 11
theorem sc_law_any_row : FnScope ["bag", "has", "few", "wide", "kind", "target", "source", "to", "at", "many", "run", "k"] ["bag", "has", "few", "wide"] (defScope s_law_any_row) := ⟨rfl, rfl, rfl, by decide +kernel, rfl, by decide +kernel, by decide +kernel⟩
abbrev s_law_any_plan : Stmt := topS 12
theorem sc_law_any_plan : FnScope ["bag", "n", "big", "slots", "rows", "few", "most", "wide", "has", "deeds", "left", "k", "row", "place"] ["bag", "n", "big", "slots", "rows", "few", "most"] (defScope s_law_any_plan) := ⟨rfl, rfl, rfl, by decide +kernel, rfl, by decide +kernel, by decide +kernel⟩
abbrev s_law_shape : Stmt := topS 13
theorem sc_law_shape : FnScope ["bag", "way", "big", "rows", "pick", "part", "slots"] ["bag"] (defScope s_law_shape) := ⟨rfl, rfl, rfl, by decide +kernel, rfl, by decide +kernel, by decide +kernel⟩
abbrev s_law_row_writes : Stmt := topS 14
theorem sc_law_row_writes : FnScope ["row", "got", "k", "step", "where"] ["row"] (defScope s_law_row_writes) := ⟨rfl, rfl, rfl, by decide +kernel, rfl, by decide +kernel, by decide +kernel⟩
abbrev s_law_writes : Stmt := topS 15
theorem sc_law_writes : FnScope ["deeds", "got", "row"] ["deeds"] (defScope s_law_writes) := ⟨rfl, rfl, rfl, by decide +kernel, rfl, by decide +kernel, by decide +kernel⟩
abbrev s_law_row_gone : Stmt := topS 16
theorem sc_law_row_gone : FnScope ["room", "slots", "row", "bars", "source", "target", "k"] ["room", "slots", "row"] (defScope s_law_row_gone) := ⟨rfl, rfl, rfl, by decide +kernel, rfl, by decide +kernel, by decide +kernel⟩
abbrev s_law_write_done : Stmt := topS 17
theorem sc_law_write_done : FnScope ["room", "slots", "one", "where", "number", "source", "what", "mark"] ["room", "slots", "one"] (defScope s_law_write_done) := ⟨rfl, rfl, rfl, by decide +kernel, rfl, by decide +kernel, by decide +kernel⟩
abbrev s_law_fault_from : Stmt := topS 18
theorem sc_law_fault_from : FnScope ["acts", "first", "last", "seen", "j", "where", "number", "source", "what"] ["acts", "first", "last"] (defScope s_law_fault_from) := ⟨rfl, rfl, rfl, by decide +kernel, rfl, by decide +kernel, by decide +kernel⟩
abbrev s_law_good_marks : Stmt := topS 19
theorem sc_law_good_marks : FnScope ["bag", "acts", "often", "bars", "fault", "i", "j", "m"] ["bag", "acts", "often"] (defScope s_law_good_marks) := ⟨rfl, rfl, rfl, by decide +kernel, rfl, by decide +kernel, by decide +kernel⟩
abbrev s_law_state : Stmt := topS 23
theorem sc_law_state : FnScope ["before", "deeds", "bars", "slots", "big", "room", "m"] ["before", "deeds", "bars", "slots", "big"] (defScope s_law_state) := ⟨rfl, rfl, rfl, by decide +kernel, rfl, by decide +kernel, by decide +kernel⟩
abbrev s_law_stepped : Stmt := topS 24
theorem sc_law_stepped : FnScope ["state"] ["state"] (defScope s_law_stepped) := ⟨rfl, rfl, rfl, by decide +kernel, rfl, by decide +kernel, by decide +kernel⟩
abbrev s_law_case : Stmt := topS 20
theorem sc_law_case : FnScope ["bag", "few", "often", "n", "big", "slots", "rows", "deeds", "before", "bars", "room", "aside", "row"] ["bag", "few", "often"] (defScope s_law_case) := ⟨rfl, rfl, rfl, by decide +kernel, rfl, by decide +kernel, by decide +kernel⟩
abbrev s_law_spoil : Stmt := topS 21
theorem sc_law_spoil : FnScope ["bag", "rows", "way"] ["bag", "rows"] (defScope s_law_spoil) := ⟨rfl, rfl, rfl, by decide +kernel, rfl, by decide +kernel, by decide +kernel⟩
abbrev s_law_runner : Stmt := topS 22
theorem sc_law_runner : FnScope ["bag", "case", "before", "deeds", "bars", "slots", "big", "how", "more", "given", "handed", "runner"] ["bag", "case"] (defScope s_law_runner) := ⟨rfl, rfl, rfl, by decide +kernel, rfl, by decide +kernel, by decide +kernel⟩
abbrev s_law_step_right : Stmt := topS 25
theorem sc_law_step_right : FnScope ["runner", "state", "told"] ["runner", "state"] (defScope s_law_step_right) := ⟨rfl, rfl, rfl, by decide +kernel, rfl, by decide +kernel, by decide +kernel⟩
abbrev s_law_deed_right : Stmt := topS 26
theorem sc_law_deed_right : FnScope ["bag", "one", "shown", "runner", "state", "due", "handed", "kind", "k"] ["bag", "one", "shown"] (defScope s_law_deed_right) := ⟨rfl, rfl, rfl, by decide +kernel, rfl, by decide +kernel, by decide +kernel⟩
abbrev s_law_ended : Stmt := topS 27
theorem sc_law_ended : FnScope ["runner", "state", "due", "k"] ["runner", "state", "due"] (defScope s_law_ended) := ⟨rfl, rfl, rfl, by decide +kernel, rfl, by decide +kernel, by decide +kernel⟩
abbrev s_law : Stmt := topS 28
theorem sc_law : FnScope ["script", "bag", "few", "often", "pairs", "shown", "k", "case", "runner", "handed", "cells", "state", "due", "one", "other"] ["script"] (defScope s_law) := ⟨rfl, rfl, rfl, by decide +kernel, rfl, by decide +kernel, by decide +kernel⟩
structure Txt (K : PySem.W.Frag) (mg : Str → Option Value) : Prop where
  b_abs : mg "abs" = none
  b_all : mg "all" = none
  b_bool : mg "bool" = none
  b_dict : mg "dict" = none
  b_int : mg "int" = none
  b_isinstance : mg "isinstance" = none
  b_len : mg "len" = none
  b_list : mg "list" = none
  b_max : mg "max" = none
  b_min : mg "min" = none
  b_range : mg "range" = none
  b_sorted : mg "sorted" = none
  k_Runner : Cls K (He.ga K "Runner")
  na_Runner_cells_here : NoAttr K (He.ga K "Runner") "cells_here"
  na_Runner_slots_here : NoAttr K (He.ga K "Runner") "slots_here"
  na_Runner_some : NoAttr K (He.ga K "Runner") "some"
  na_Runner_bounds : NoAttr K (He.ga K "Runner") "bounds"
  na_Runner_kept : NoAttr K (He.ga K "Runner") "kept"
  na_Runner_gone : NoAttr K (He.ga K "Runner") "gone"
def d_row_writes : He.DefD := ⟨("row_writes", none), "row_writes", "row_writes", defArgs s_row_writes, defBody s_row_writes, defScope s_row_writes, [], []⟩
def d_writes : He.DefD := ⟨("writes", none), "writes", "writes", defArgs s_writes, defBody s_writes, defScope s_writes, [], []⟩
def d_RunnerX_initX : He.DefD := ⟨("Runner", some "__init__"), "__init__", "Runner.__init__", defArgs s_RunnerX_initX, defBody s_RunnerX_initX, defScope s_RunnerX_initX, [.int 0, .int 0], []⟩
def d_Runner_step : He.DefD := ⟨("Runner", some "step"), "step", "Runner.step", defArgs s_Runner_step, defBody s_Runner_step, defScope s_Runner_step, [], []⟩
def d_Runner_cut : He.DefD := ⟨("Runner", some "cut"), "cut", "Runner.cut", defArgs s_Runner_cut, defBody s_Runner_cut, defScope s_Runner_cut, [], []⟩
def d_Runner_mark : He.DefD := ⟨("Runner", some "mark"), "mark", "Runner.mark", defArgs s_Runner_mark, defBody s_Runner_mark, defScope s_Runner_mark, [], []⟩
def d_Runner_room : He.DefD := ⟨("Runner", some "room"), "room", "Runner.room", defArgs s_Runner_room, defBody s_Runner_room, defScope s_Runner_room, [], []⟩
def d_law_bag : He.DefD := ⟨("_law_bag", none), "_law_bag", "_law_bag", defArgs s_law_bag, defBody s_law_bag, defScope s_law_bag, [], []⟩
def d_law_stirred : He.DefD := ⟨("_law_stirred", none), "_law_stirred", "_law_stirred", defArgs s_law_stirred, defBody s_law_stirred, defScope s_law_stirred, [], []⟩
def d_law_draw : He.DefD := ⟨("_law_draw", none), "_law_draw", "_law_draw", defArgs s_law_draw, defBody s_law_draw, defScope s_law_draw, [], []⟩
def d_law_whole : He.DefD := ⟨("_law_whole", none), "_law_whole", "_law_whole", defArgs s_law_whole, defBody s_law_whole, defScope s_law_whole, [], []⟩
def d_law_sign : He.DefD := ⟨("_law_sign", none), "_law_sign", "_law_sign", defArgs s_law_sign, defBody s_law_sign, defScope s_law_sign, [], []⟩
def d_law_text : He.DefD := ⟨("_law_text", none), "_law_text", "_law_text", defArgs s_law_text, defBody s_law_text, defScope s_law_text, [], []⟩
def d_law_any_row : He.DefD := ⟨("_law_any_row", none), "_law_any_row", "_law_any_row", defArgs s_law_any_row, defBody s_law_any_row, defScope s_law_any_row, [], []⟩
def d_law_any_plan : He.DefD := ⟨("_law_any_plan", none), "_law_any_plan", "_law_any_plan", defArgs s_law_any_plan, defBody s_law_any_plan, defScope s_law_any_plan, [.int 1500], []⟩
def d_law_shape : He.DefD := ⟨("_law_shape", none), "_law_shape", "_law_shape", defArgs s_law_shape, defBody s_law_shape, defScope s_law_shape, [], []⟩
def d_law_row_writes : He.DefD := ⟨("_law_row_writes", none), "_law_row_writes", "_law_row_writes", defArgs s_law_row_writes, defBody s_law_row_writes, defScope s_law_row_writes, [], []⟩
def d_law_writes : He.DefD := ⟨("_law_writes", none), "_law_writes", "_law_writes", defArgs s_law_writes, defBody s_law_writes, defScope s_law_writes, [], []⟩
def d_law_row_gone : He.DefD := ⟨("_law_row_gone", none), "_law_row_gone", "_law_row_gone", defArgs s_law_row_gone, defBody s_law_row_gone, defScope s_law_row_gone, [], []⟩
def d_law_write_done : He.DefD := ⟨("_law_write_done", none), "_law_write_done", "_law_write_done", defArgs s_law_write_done, defBody s_law_write_done, defScope s_law_write_done, [], []⟩
def d_law_fault_from : He.DefD := ⟨("_law_fault_from", none), "_law_fault_from", "_law_fault_from", defArgs s_law_fault_from, defBody s_law_fault_from, defScope s_law_fault_from, [], []⟩
def d_law_good_marks : He.DefD := ⟨("_law_good_marks", none), "_law_good_marks", "_law_good_marks", defArgs s_law_good_marks, defBody s_law_good_marks, defScope s_law_good_marks, [], []⟩
def d_law_state : He.DefD := ⟨("_law_state", none), "_law_state", "_law_state", defArgs s_law_state, defBody s_law_state, defScope s_law_state, [], []⟩
def d_law_stepped : He.DefD := ⟨("_law_stepped", none), "_law_stepped", "_law_stepped", defArgs s_law_stepped, defBody s_law_stepped, defScope s_law_stepped, [], []⟩
def d_law_case : He.DefD := ⟨("_law_case", none), "_law_case", "_law_case", defArgs s_law_case, defBody s_law_case, defScope s_law_case, [], []⟩
def d_law_spoil : He.DefD := ⟨("_law_spoil", none), "_law_spoil", "_law_spoil", defArgs s_law_spoil, defBody s_law_spoil, defScope s_law_spoil, [], []⟩
def d_law_runner : He.DefD := ⟨("_law_runner", none), "_law_runner", "_law_runner", defArgs s_law_runner, defBody s_law_runner, defScope s_law_runner, [], []⟩
def d_law_step_right : He.DefD := ⟨("_law_step_right", none), "_law_step_right", "_law_step_right", defArgs s_law_step_right, defBody s_law_step_right, defScope s_law_step_right, [], []⟩
def d_law_deed_right : He.DefD := ⟨("_law_deed_right", none), "_law_deed_right", "_law_deed_right", defArgs s_law_deed_right, defBody s_law_deed_right, defScope s_law_deed_right, [], []⟩
def d_law_ended : He.DefD := ⟨("_law_ended", none), "_law_ended", "_law_ended", defArgs s_law_ended, defBody s_law_ended, defScope s_law_ended, [], []⟩
def d_law : He.DefD := ⟨("law", none), "law", "law", defArgs s_law, defBody s_law, defScope s_law, [], []⟩
def fn : List He.DefD := [d_row_writes, d_writes, d_RunnerX_initX, d_Runner_step, d_Runner_cut, d_Runner_mark, d_Runner_room, d_law_bag, d_law_stirred, d_law_draw, d_law_whole, d_law_sign, d_law_text, d_law_any_row, d_law_any_plan, d_law_shape, d_law_row_writes, d_law_writes, d_law_row_gone, d_law_write_done, d_law_fault_from, d_law_good_marks, d_law_state, d_law_stepped, d_law_case, d_law_spoil, d_law_runner, d_law_step_right, d_law_deed_right, d_law_ended, d_law]
def fa : List He.Fa := [.free "abs", .free "all", .free "bool", .free "dict", .free "int", .free "isinstance", .free "len", .free "list", .free "max", .free "min", .free "range", .free "sorted", .glo "row_writes", .glo "writes", .glo "_law_bag", .glo "_law_stirred", .glo "_law_draw", .glo "_law_whole", .glo "_law_sign", .glo "_law_text", .glo "_law_any_row", .glo "_law_any_plan", .glo "_law_shape", .glo "_law_row_writes", .glo "_law_writes", .glo "_law_row_gone", .glo "_law_write_done", .glo "_law_fault_from", .glo "_law_good_marks", .glo "_law_state", .glo "_law_stepped", .glo "_law_case", .glo "_law_spoil", .glo "_law_runner", .glo "_law_step_right", .glo "_law_deed_right", .glo "_law_ended", .glo "law", .glo "Runner", .cls "Runner", .mkr "Runner", .noat "Runner" "cells_here", .noat "Runner" "slots_here", .noat "Runner" "some", .noat "Runner" "bounds", .noat "Runner" "kept", .noat "Runner" "gone", .meth "Runner" "step", .meth "Runner" "cut", .meth "Runner" "mark", .meth "Runner" "room"]
abbrev RR : PySem.W.OpenRow := PySem.W.OpenLaw.row PySem.Challenge.rw_remadehere_k56_whole_two_runners_cut
abbrev hk : PySem.W.Hook := He.hookD 4 fa fn
def ob (s : PySem.W.SharedT) : He.AlD := He.obsDG 4 fa fn (HandSHeadRun.getT s)
theorem ob_eq (s : PySem.W.SharedT) : ob s = hk.obs s.abs := He.obsDG_eq (HandSHeadRun.getT_eq s)
theorem run (w : World) : HandSHeadRun.RunEq RR (PySem.W.view RR.prog [28]) hk ob 3000 ["row_writes", "writes", "Runner", "_law_bag", "_law_stirred", "_law_draw", "_law_whole", "_law_sign", "_law_text", "_law_any_row", "_law_any_plan", "_law_shape", "_law_row_writes", "_law_writes", "_law_row_gone", "_law_write_done", "_law_fault_from", "_law_good_marks", "_law_case", "_law_spoil", "_law_runner", "_law_state", "_law_stepped", "_law_step_right", "_law_deed_right", "_law_ended"] w := by
  intro os
  kernel_rfl
def FactsP : Prop := ∀ (P : Program) (w : World) (K : PySem.W.Frag) (mg : Str → Option Value) (h : Heap) (f : Addr), K.In h → h.Ns mainGlobals mg → mg ("law" : Str) = some (.ref f) → He.SaysD fa fn K → ∃ fd : FuncData, (∀ (s : Shared) (v : Value), BindsTo s fd ⟨[v], []⟩ [("script", v)]) ∧ ∀ base : Heap, K.In base → base.Ns mainGlobals mg → FnOk P w K mg base CX0 12 f fd ["script"] (S1 (φlaw K))
end Z
section
open PySem PySem.W PySem.Calls PyProof.Rows
theorem Z.close (HF : Z.FactsP) : PySem.Challenge.rw_remadehere_k56_whole_two_runners_cut.Holds := by
  w_on; o_law
  refine HandSHeadRun.head_any (r := OpenLaw.row PySem.Challenge.rw_remadehere_k56_whole_two_runners_cut) (q := view (OpenLaw.row PySem.Challenge.rw_remadehere_k56_whole_two_runners_cut).prog [28]) (H := Z.hk) (ob := Z.ob) (M := 3000) (loose := ["row_writes", "writes", "Runner", "_law_bag", "_law_stirred", "_law_draw", "_law_whole", "_law_sign", "_law_text", "_law_any_row", "_law_any_plan", "_law_shape", "_law_row_writes", "_law_writes", "_law_row_gone", "_law_write_done", "_law_fault_from", "_law_good_marks", "_law_case", "_law_spoil", "_law_runner", "_law_state", "_law_stepped", "_law_step_right", "_law_deed_right", "_law_ended"]) (d := HandSHeadRun.topDef (OpenLaw.row PySem.Challenge.rw_remadehere_k56_whole_two_runners_cut).prog 28) (kwd := []) Z.ob_eq
    (by kernel_rfl) (fun s => by kernel_rfl) Z.run (by kernel_rfl) (by kernel_rfl) (by kernel_rfl) (by rfl) (by first | assumption | decide +kernel) (by decide +kernel) ⟨rfl, rfl, rfl, rfl, rfl, by decide +kernel⟩ ?hw ?hc
  case hw => w_witness2
  case hc =>
    refine L2.walk_ofE (l := PySem.Challenge.rw_remadehere_k56_whole_two_runners_cut) (n := 63) (k := 12) (x := "script") (CX := L2.CX0) rfl (by decide) (by kernel_rfl) ⟨rfl, by decide, by decide⟩ ?F (fun _ _ _ _ z => z)
    intro w mg fa h Y G hmg0
    obtain ⟨K, KX, c⟩ := Y
    have hmg : mg ("law" : PySem.Str) = some (.ref fa) := by
      have e : (HandSHeadRun.topDef (OpenLaw.row PySem.Challenge.rw_remadehere_k56_whole_two_runners_cut).prog 28).name = ("law" : PySem.Str) := by kernel_rfl
      rw [← e]
      exact hmg0
    obtain ⟨fd, hb, hF⟩ := HF _ w K mg _ fa KX G hmg c
    exact ⟨K, fd, (R.S1 (R.φlaw K)), KX, hb, fun H a ns hl hO hS => R.law_start a ns hl hO hS, hF⟩
end
namespace Z
open PySem PySem.Spec PyProof.Rows L2 R
local macro_rules | `(tactic| walk_at "osq") => `(tactic| first
  | assumption
  | exact sqL_of upd_same
  | exact sqL_of (by assumption)
  | exact sqL_same (by assumption) (by assumption)
  | exact Mu.sq (by assumption)
  | exact sqL_same (Gr.ws (by assumption)) (by assumption)
  | exact sqL_same (Gr.fh (by assumption)) (by assumption))
local macro_rules | `(tactic| walk_at "ost") => `(tactic| first
  | assumption
  | exact sqT_of upd_same
  | exact sqT_of (by assumption)
  | exact sqT_same (by assumption) (by assumption)
  | exact sqT_same (Gr.ws (by assumption)) (by assumption)
  | exact sqT_same (Gr.fh (by assumption)) (by assumption))
local macro_rules | `(tactic| walk_at "owp") => `(tactic| dsimp only [wipe, List.map, List.set_cons_succ, List.set_cons_zero])
local macro_rules | `(tactic| walk_at "og1") => `(tactic| first
  | with_reducible refine w_seq ?_
  | with_reducible refine w_asg ?_
  | with_reducible refine w_v0 ?_ | with_reducible refine w_v1 ?_ | with_reducible refine w_v2 ?_ | with_reducible refine w_v3 ?_
  | with_reducible refine w_v4 ?_ | with_reducible refine w_v5 ?_ | with_reducible refine w_v6 ?_ | with_reducible refine w_v7 ?_
  | with_reducible refine w_v8 ?_ | with_reducible refine w_v9 ?_ | with_reducible refine w_v10 ?_ | with_reducible refine w_v11 ?_
  | with_reducible refine w_v12 ?_ | with_reducible refine w_v13 ?_
  | with_reducible refine w_n0 ?_ | with_reducible refine w_n1 ?_ | with_reducible refine w_n2 ?_ | with_reducible refine w_n3 ?_
  | with_reducible refine w_n4 ?_ | with_reducible refine w_n5 ?_ | with_reducible refine w_n6 ?_ | with_reducible refine w_n7 ?_
  | with_reducible refine w_n8 ?_ | with_reducible refine w_n9 ?_ | with_reducible refine w_n10 ?_ | with_reducible refine w_n11 ?_
  | with_reducible refine w_n12 ?_ | with_reducible refine w_n13 ?_
  | with_reducible refine w_c ?_ | with_reducible refine w_op ?_ | with_reducible refine w_un ?_
  | with_reducible refine w_add ?_ | with_reducible refine w_subt ?_
  | with_reducible refine w_lt ?_ | with_reducible refine w_le ?_ | with_reducible refine w_gt ?_ | with_reducible refine w_ge ?_
  | ((with_reducible refine w_mul ?c ?_); (case c => first | exact .inl ⟨by omega, by omega⟩ | exact .inr ⟨by omega, by omega⟩))
  | ((with_reducible refine w_mod ?c ?_); (case c => first | omega | decide))
  | ((with_reducible refine w_fdiv ?c ?_); (case c => exact divw_ok (by omega) (by omega)))
  | ((with_reducible refine w_pow ?c ?_); (case c => exact ⟨by omega, by omega, by omega⟩))
  | with_reducible refine w_neg ?_ | with_reducible refine w_bits ?_
  | with_reducible refine w_eqI ?_ | with_reducible refine w_neI ?_ | with_reducible refine w_eqS ?_ | with_reducible refine w_neS ?_
  | with_reducible refine w_eqB ?_ | with_reducible refine w_neB ?_ | with_reducible refine w_isN ?_ | with_reducible refine w_notN ?_
  | with_reducible refine w_test ?_ | with_reducible refine w_tB ?_ | with_reducible refine w_asBl ?_
  | with_reducible refine w_and ?_ | with_reducible refine w_or ?_ | with_reducible refine w_not ?_ | with_reducible refine w_if ?_
  | with_reducible refine w_truth ?_ | with_reducible refine w_yes ?_
  | with_reducible refine w_andV ?_ | with_reducible refine w_orV ?_ | with_reducible refine w_notV ?_
  | with_reducible refine w_nil ?_ | with_reducible refine w_cons ?_ | with_reducible refine w_call ?_ | with_reducible refine w_callN ?_
  | with_reducible refine w_CB ?_ | with_reducible refine w_tup ?_ | with_reducible refine w_lst ?_ | with_reducible refine w_sl ?_
  | with_reducible refine w_nop ?_ | with_reducible refine w_part ?_ | with_reducible refine w_asInt ?_
  | with_reducible refine w_BM0 ?_ | with_reducible refine w_BM ?_ | with_reducible refine w_M0 ?_ | with_reducible refine w_M1 ?_
  | with_reducible refine w_asStr ?_ | with_reducible refine w_sub ?_
  | with_reducible refine w_ret ?_ | with_reducible refine w_retN ?_ | with_reducible refine w_drop ?_ | with_reducible refine w_ifS ?_
  | with_reducible refine w_nx ?_ | with_reducible refine w_cont ?_ | with_reducible refine w_brk ?_
  | with_reducible refine w_for ?_ | with_reducible refine w_rng1 ?_ | with_reducible refine w_rng2 ?_ | with_reducible refine w_ilist ?_ | with_reducible refine w_itup ?_ | with_reducible refine w_istr ?_
  | with_reducible refine w_lc ?_
  | with_reducible refine w_dnewT ?_ | with_reducible refine w_dnewK ?_ | with_reducible refine w_dget ?_ | with_reducible refine w_din ?_
  | with_reducible refine w_dnotin ?_ | with_reducible refine w_dput ?_ | with_reducible refine w_dsetT ?_ | with_reducible refine w_rg2 ?_
  | with_reducible refine w_chain3 ?_ | with_reducible refine w_chain ?_
  | ((with_reducible apply w_lenQT _ ?c); (case c => walk_at "ost"))
  | with_reducible refine w_tt ?_ | with_reducible refine w_ff ?_ | with_reducible refine w_ntt ?_ | with_reducible refine w_nff ?_
  | with_reducible refine w_int1 ?_ | with_reducible refine w_int1b ?_ | with_reducible refine w_abs ?_
  | with_reducible refine w_min2 ?_ | with_reducible refine w_max2 ?_ | with_reducible refine w_min3 ?_
  | ((with_reducible apply w_ixL _ _ ?c ?d); (case c => walk_at "osq"); (case d => rfl))
  | ((with_reducible apply w_b1 _ _ _ _ _ ?c); (case c => first | exact upd_same | assumption))
  | ((with_reducible apply w_b2 _ _ _ _ _ ?c); (case c => first | exact upd_same | assumption))
  | ((with_reducible apply w_b3 _ _ _ _ _ ?c); (case c => first | exact upd_same | assumption))
  | ((with_reducible apply w_b4 _ _ _ _ _ ?c); (case c => first | exact upd_same | assumption))
  | ((with_reducible apply w_setL _ _ ?c ?d); (case c => first | exact upd_same | assumption); (case d => rfl))
  | ((with_reducible apply w_lenQ _ ?c); (case c => walk_at "osq"))
  | ((with_reducible apply w_ixT _ _ ?c ?d); (case c => walk_at "ost"); (case d => rfl))
  | ((with_reducible apply w_lenS ?c); (case c => first | assumption | exact szle (by omega)))
  | ((with_reducible apply w_tgt _ ?c ?d); (case c => walk_at "ost"); (case d => rfl)) | with_reducible refine w_gc ?_ | with_reducible refine w_gn ?_
  | with_reducible refine w_self ?_ | with_reducible refine w_nself ?_
  | ((with_reducible refine w_iteF ?c ?_); (case c => decide +kernel))
  | ((with_reducible refine w_iteT ?c ?_); (case c => decide +kernel))
  | with_reducible refine w_lstRg ?_ | with_reducible refine w_rg1 ?_ | with_reducible refine w_revL ?_
  | ((with_reducible apply w_app _ ?c ?d); (case c => first | exact upd_same | assumption | exact Mu.h (by assumption)); (case d => first | exact small_lt (by omega) | assumption))
  | ((with_reducible apply w_tyL _ ?c); (case c => walk_at "osq"))
  | ((with_reducible apply w_slL _ ?c); (case c => walk_at "osq"))
  | ((with_reducible apply w_listOf _ ?c); (case c => walk_at "osq")))
local macro_rules | `(tactic| walk_at "og") => `(tactic| repeat walk_at "og1")
local macro_rules | `(tactic| walk_at "memr") => `(tactic| first | with_reducible exact List.mem_cons_self .. | ((with_reducible refine List.mem_cons_of_mem _ ?_); walk_at "memr"))
local macro_rules | `(tactic| walk_at "memd") => `(tactic| first | exact List.mem_cons_self .. | ((with_reducible refine List.mem_cons_of_mem _ ?_); walk_at "memd"))
local macro_rules | `(tactic| walk_at "mem") => `(tactic| first | walk_at "memr" | walk_at "memd")
local macro_rules | `(tactic| walk_at "rm") => `(tactic| first | with_reducible exact Rm.here | ((with_reducible apply Rm.there); walk_at "rm"))
local macro_rules | `(tactic| walk_at "rmd") => `(tactic| first | exact Rm.here | ((with_reducible apply Rm.there); walk_at "rmd"))
local macro_rules | `(tactic| walk_at "pick") => `(tactic| first | with_reducible exact Pick.nil | ((with_reducible apply Pick.cons); (first | walk_at "rm" | walk_at "rmd"); walk_at "pick"))
local macro_rules | `(tactic| walk_at "pk") => `(tactic| exact ⟨_, by walk_at "pick"⟩)
local macro_rules | `(tactic| walk_at "app") => `(tactic| first | with_reducible exact App.nil | ((with_reducible apply App.cons); walk_at "app"))
local macro_rules | `(tactic| walk_at "w") => `(tactic| first | assumption | exact W.to (by assumption) (by walk_at "pick"))
local macro_rules | `(tactic| walk_at "lb") => `(tactic| first | assumption | omega | exact szle (by simp) | exact szle (by omega) | exact szle (by simp; omega) | exact small_lt (by omega) | exact small_lt (by simp; omega))
local macro_rules | `(tactic| walk_at "sq") => `(tactic| first
  | assumption
  | exact W.sqM (by assumption) (by walk_at "mem")
  | exact W.sqF (by assumption) (by walk_at "mem")
  | exact W.sqI (by assumption) (by walk_at "mem")
  | exact W.sq0 (by assumption) (by assumption))
local macro_rules | `(tactic| walk_at "st") => `(tactic| first
  | assumption
  | exact W.stF (by assumption) (by walk_at "mem")
  | exact W.stI (by assumption) (by walk_at "mem")
  | exact W.st0 (by assumption) (by assumption))
local macro_rules | `(tactic| walk_at "at") => `(tactic| first
  | assumption
  | exact W.at_ (by assumption) (by walk_at "mem")
  | exact W.fx (by assumption) (by walk_at "mem"))
local macro_rules | `(tactic| walk_at "wp") => `(tactic| dsimp only [wipe, List.map, List.set_cons_succ, List.set_cons_zero])
local macro_rules | `(tactic| walk_at "go1") => `(tactic| first
  | with_reducible refine w_seq ?_
  | with_reducible refine w_asg ?_
  | with_reducible refine w_v0 ?_ | with_reducible refine w_v1 ?_ | with_reducible refine w_v2 ?_ | with_reducible refine w_v3 ?_
  | with_reducible refine w_v4 ?_ | with_reducible refine w_v5 ?_ | with_reducible refine w_v6 ?_ | with_reducible refine w_v7 ?_
  | with_reducible refine w_v8 ?_ | with_reducible refine w_v9 ?_ | with_reducible refine w_v10 ?_ | with_reducible refine w_v11 ?_
  | with_reducible refine w_v12 ?_ | with_reducible refine w_v13 ?_
  | with_reducible refine w_n0 ?_ | with_reducible refine w_n1 ?_ | with_reducible refine w_n2 ?_ | with_reducible refine w_n3 ?_
  | with_reducible refine w_n4 ?_ | with_reducible refine w_n5 ?_ | with_reducible refine w_n6 ?_ | with_reducible refine w_n7 ?_
  | with_reducible refine w_n8 ?_ | with_reducible refine w_n9 ?_ | with_reducible refine w_n10 ?_ | with_reducible refine w_n11 ?_
  | with_reducible refine w_n12 ?_ | with_reducible refine w_n13 ?_
  | with_reducible refine w_c ?_ | with_reducible refine w_op ?_ | with_reducible refine w_un ?_
  | with_reducible refine w_add ?_ | with_reducible refine w_subt ?_
  | with_reducible refine w_lt ?_ | with_reducible refine w_le ?_ | with_reducible refine w_gt ?_ | with_reducible refine w_ge ?_
  | ((with_reducible refine w_mul ?c ?_); (case c => first | exact .inl ⟨by omega, by omega⟩ | exact .inr ⟨by omega, by omega⟩))
  | ((with_reducible refine w_mod ?c ?_); (case c => first | omega | decide))
  | ((with_reducible refine w_fdiv ?c ?_); (case c => exact divw_ok (by omega) (by omega)))
  | ((with_reducible refine w_pow ?c ?_); (case c => exact ⟨by omega, by omega, by omega⟩))
  | with_reducible refine w_neg ?_ | with_reducible refine w_bits ?_
  | with_reducible refine w_eqI ?_ | with_reducible refine w_neI ?_ | with_reducible refine w_eqS ?_ | with_reducible refine w_neS ?_
  | with_reducible refine w_eqB ?_ | with_reducible refine w_neB ?_ | with_reducible refine w_isN ?_ | with_reducible refine w_notN ?_
  | with_reducible refine w_test ?_ | with_reducible refine w_tB ?_ | with_reducible refine w_asBl ?_
  | with_reducible refine w_and ?_ | with_reducible refine w_or ?_ | with_reducible refine w_not ?_ | with_reducible refine w_if ?_
  | with_reducible refine w_truth ?_ | with_reducible refine w_yes ?_
  | with_reducible refine w_andV ?_ | with_reducible refine w_orV ?_ | with_reducible refine w_notV ?_
  | with_reducible refine w_nil ?_ | with_reducible refine w_cons ?_ | with_reducible refine w_call ?_ | with_reducible refine w_callN ?_
  | with_reducible refine w_CB ?_ | with_reducible refine w_sl ?_
  | with_reducible refine w_nop ?_ | with_reducible refine w_part ?_ | with_reducible refine w_asInt ?_
  | with_reducible refine w_BM0 ?_ | with_reducible refine w_BM ?_ | with_reducible refine w_M0 ?_ | with_reducible refine w_M1 ?_
  | with_reducible refine w_asStr ?_ | with_reducible refine w_sub ?_
  | with_reducible refine w_ret ?_ | with_reducible refine w_retN ?_ | with_reducible refine w_drop ?_ | with_reducible refine w_ifS ?_
  | with_reducible refine w_nx ?_ | with_reducible refine w_cont ?_ | with_reducible refine w_brk ?_
 
 
  | ((with_reducible refine n_adds ?c ?_); (case c => first | exact szle (by decide +kernel) | exact szle (by omega)))
  | ((with_reducible apply x_aug ?c ?_); (case c => rfl))
  | ((with_reducible refine n_ipI ?_); (try dsimp only [List.set_cons_succ, List.set_cons_zero]))
  | with_reducible refine w_fldE ?_ | with_reducible refine w_sfldE ?_ | with_reducible refine x_meth ?_ | with_reducible refine x_make ?_
  | ((with_reducible apply n_fld ?c ?d ?a ?b); (case c => walk_at "at"); (case d => rfl); (case a => assumption); (case b => assumption))
  | ((with_reducible apply n_meth ?c ?d); (case c => walk_at "at"); (case d => rfl))
  | with_reducible refine x_tup ?_ | with_reducible refine x_lst ?_ | with_reducible refine x_for ?_ | with_reducible refine x_lc ?_ | with_reducible refine x_revL ?_ | with_reducible refine x_lstRg ?_
  | with_reducible refine w_dnewT ?_ | with_reducible refine w_dnewK ?_ | with_reducible refine w_dget ?_ | with_reducible refine w_din ?_
  | with_reducible refine w_dnotin ?_ | with_reducible refine w_dput ?_ | with_reducible refine w_dsetT ?_ | with_reducible refine w_rg2 ?_
  | with_reducible refine w_chain3 ?_ | with_reducible refine w_chain ?_
  | with_reducible refine x_rng1 ?_ | with_reducible refine x_rng2 ?_ | with_reducible refine x_il ?_ | with_reducible refine x_it ?_ | with_reducible refine x_is ?_
  | ((with_reducible refine n_rng1 ?c ?d ?_); (case c => omega); (case d => omega))
  | ((with_reducible refine n_rng2 ?c ?d ?e ?f ?_); (case c => omega); (case d => omega); (case e => omega); (case f => omega))
  | ((with_reducible apply n_il ?c ?_); (case c => walk_at "sq"))
  | ((with_reducible apply n_it ?c ?_); (case c => walk_at "st"))
  | with_reducible refine n_is ?_
  | ((with_reducible apply w_lenQT _ ?c); (case c => walk_at "st"))
  | ((with_reducible refine x_wp ?c ?_); (case c => rfl))
  | with_reducible refine w_tt ?_ | with_reducible refine w_ff ?_ | with_reducible refine w_ntt ?_ | with_reducible refine w_nff ?_
  | with_reducible refine w_int1 ?_ | with_reducible refine w_int1b ?_ | with_reducible refine w_abs ?_
  | with_reducible refine w_min2 ?_ | with_reducible refine w_max2 ?_ | with_reducible refine w_min3 ?_
  | ((with_reducible apply w_ixL _ _ ?c ?d); (case c => walk_at "sq"); (case d => rfl))
  | ((with_reducible apply w_lenQ _ ?c); (case c => walk_at "sq"))
  | ((with_reducible apply w_ixT _ _ ?c ?d); (case c => walk_at "st"); (case d => rfl))
  | ((with_reducible apply w_lenS ?c); (case c => first | assumption | exact szle (by omega)))
  | ((with_reducible apply w_tgt _ ?c ?d); (case c => walk_at "st"); (case d => rfl)) | with_reducible refine w_gc ?_ | with_reducible refine w_gn ?_
  | with_reducible refine w_self ?_ | with_reducible refine w_nself ?_
  | ((with_reducible refine w_iteF ?c ?_); (case c => decide +kernel))
  | ((with_reducible refine w_iteT ?c ?_); (case c => decide +kernel))
  | with_reducible refine w_rg1 ?_
  | ((with_reducible apply w_tyL _ ?c); (case c => walk_at "sq")))
local macro_rules | `(tactic| walk_at "go") => `(tactic| repeat walk_at "go1")
local macro_rules | `(tactic| walk_at "go1") => `(tactic| first | with_reducible refine n_isB ?_ | with_reducible refine n_notB ?_ | with_reducible refine x_makeKR ?_)
local macro_rules | `(tactic| walk_at "go1") => `(tactic| first
  | with_reducible refine w_v14 ?_ | with_reducible refine w_n14 ?_ | with_reducible refine w_v15 ?_ | with_reducible refine w_n15 ?_ | with_reducible refine w_v16 ?_ | with_reducible refine w_n16 ?_ | with_reducible refine w_v17 ?_ | with_reducible refine w_n17 ?_ | with_reducible refine w_v18 ?_ | with_reducible refine w_n18 ?_ | with_reducible refine w_v19 ?_ | with_reducible refine w_n19 ?_ | with_reducible refine w_v20 ?_ | with_reducible refine w_n20 ?_ | with_reducible refine w_v21 ?_ | with_reducible refine w_n21 ?_ | with_reducible refine w_v22 ?_ | with_reducible refine w_n22 ?_ | with_reducible refine w_v23 ?_ | with_reducible refine w_n23 ?_)
section
variable {P : Program} {w : World} {K : PySem.W.Frag} {mg : Str → Option Value} {base : Heap}
-- row_writes
theorem ok_row_writes {f : Addr} {fd : FuncData} (F : FunD K "row_writes" "row_writes" (defArgs s_row_writes) (defBody s_row_writes) (defScope s_row_writes) [] [] f fd) (T : Txt K mg)  : FnOk P w K mg base CX0 1 f fd ["row"] (S1 (φrow_writes K)) := by
  refine F.ok sc_row_writes (fun vs H Q E h => ?_) (fun cdv A outer s H vs Q E hr h => ?_)
  · exact S1.len h
  · match vs, h with
    | [v0], h =>
    have hu := hu_of hr
    refine ⟨_, PSs.nox (pss_cons (ps_if (pt_cmpR op_eq (pe_ix (ixT (K := K)) (pv 0) pe_int (fun _ _ => rfl)) pe_str (nomark _)) (pss_one (ps_ret (pe_lc (own := [("k", 4)]) (g := gName 4) rfl sc_row_writes.nd (pi_range1 rfl T.b_range (pa_cons (pe_callB clLenS (by rfl) T.b_len (by decide +kernel) (pa_cons (pe_ix (ixT (K := K)) (pv 0) pe_int (fun _ _ => rfl)) pa_nil)) pa_nil)) (blkOk_by (own := [("k", 4)]) (N := ["row", "steps", "where", "source", "k"]) (sc := defScope s_row_writes) (by decide +kernel)) (fun _ _ _ _ _ => pg_name (i := 4) sc_row_writes.nd rfl (Or.inl rfl)) (fun _ _ _ _ _ => pts_nil) (fun _ _ _ _ _ => (pe_tup (pa_cons pe_str (pa_cons (pe_op op_add (pe_ix (ixT (K := K)) (pv 0) pe_int (fun _ _ => rfl)) (pv 4)) (pa_cons pe_str (pa_cons (pe_ix ix_str (pe_ix (ixT (K := K)) (pv 0) pe_int (fun _ _ => rfl)) (pv 4) (fun _ _ => rfl)) pa_nil))))))))) pss_nil)
      (pss_cons (ps_set (i := 1) sc_row_writes.nd rfl (.inl rfl) (pe_listRg rfl (by rfl) T.b_list (prg_1 (by rfl) T.b_range (pe_ix (ixT (K := K)) (pv 0) pe_int (fun _ _ => rfl)))))
      (pss_cons (ps_if (PW.pt (pw_and (pt_cmpR op_eq (pe_ix (ixT (K := K)) (pv 0) pe_int (fun _ _ => rfl)) pe_str (nomark _)) (pw_and1 (pt_cmpR op_gt (pe_ix (ixT (K := K)) (pv 0) pe_int (fun _ _ => rfl)) (pe_ix (ixT (K := K)) (pv 0) pe_int (fun _ _ => rfl)) (nomark _))))) (pss_one (ps_set (i := 1) sc_row_writes.nd rfl (.inl rfl) (pe_revL (pv 1)))) pss_nil)
      (pss_cons (ps_set (i := 2) sc_row_writes.nd rfl (.inr rfl) (pe_ifExp (pt_cmpR op_eq (pe_ix (ixT (K := K)) (pv 0) pe_int (fun _ _ => rfl)) pe_str (nomark _)) pe_str pe_str))
      (pss_cons (ps_set (i := 3) sc_row_writes.nd rfl (.inr rfl) (pe_ifExp (pt_cmpR op_eq (pe_ix (ixT (K := K)) (pv 0) pe_int (fun _ _ => rfl)) pe_str (nomark _)) pe_str pe_str))
      (pss_one (ps_ret (pe_lc (own := [("k", 4)]) (g := gName 4) rfl sc_row_writes.nd (pi_list (pv 1)) (blkOk_by (own := [("k", 4)]) (N := ["row", "steps", "where", "source", "k"]) (sc := defScope s_row_writes) (by decide +kernel)) (fun _ _ _ _ _ => pg_name (i := 4) sc_row_writes.nd rfl (Or.inl rfl)) (fun _ _ _ _ _ => pts_nil) (fun _ _ _ _ _ => (pe_tup (pa_cons (pv 2) (pa_cons (pe_op op_add (pe_ix (ixT (K := K)) (pv 0) pe_int (fun _ _ => rfl)) (pv 4)) (pa_cons (pv 3) (pa_cons (pe_op op_add (pe_ix (ixT (K := K)) (pv 0) pe_int (fun _ _ => rfl)) (pv 4)) pa_nil)))))))))))))), ?_⟩
    rw [show start ["row", "steps", "where", "source", "k"] [v0] = [some v0, none, none, none, none] from rfl]
    obtain ⟨F, r, hw, hx, hok, q⟩ := h
    cases r with
    | put to s =>
      obtain ⟨a, rfl, hT⟩ := dp_put hx
      have hT' := sqT_same hw hT
      obtain ⟨oks, hsl⟩ := hok
      have hlen := szle (Nat.le_trans hsl (by decide))
      walk_at "og"
      refine ⟨_, rfl, by omega, by omega, fun D nD => ?_⟩
      have g1 : Gr [] F H F (upd H D (.lst [])) := .new hw nD
      refine lc_rng (fun i H' => ∃ F2 vs, Gr [] F H F2 H' ∧ Mu F2 H' D (.lst vs) ∧ DpAll K F2 vs ((List.range i).map fun (k : Nat) => wr "cell" (to + k) "sign" (.str ⟨#[s.cps.toList.getD k 0]⟩))) ⟨F, [], g1, Mu.new hw nD, .nil⟩ (fun i H' hi hp => ?_) (fun H' hp => ?_)
      · obtain ⟨F2, vs, g, mu, dv⟩ := hp
        have hi' : i < s.length := by omega
        have hv : vs.length = i := by rw [dpa_len dv, List.length_map, List.length_range]
        walk_at "owp"
        walk_at "og"
        refine ⟨rfl, ?_⟩
        walk_at "og"
        refine w_ixS hlen (sign_get hi') ?_
        walk_at "og"
        refine ⟨le1000 (by simp), fun p np => ?_⟩
        have mu2 := mu.add (u := .tup [.str "cell", .int (to + i), .str "sign", .str ⟨#[s.cps.toList.getD i 0]⟩]) np
        have g2 := g.add (o := .tup [.str "cell", .int (to + i), .str "sign", .str ⟨#[s.cps.toList.getD i 0]⟩]) np
        refine ⟨vs, mu2.h, small_lt (by omega), _, vs ++ [.ref p], g2.wrn mu2.n nD, mu2.wr, ?_⟩
        rw [List.range_succ, List.map_append]
        exact dpa_snoc (dpa_same (Same.new (g.fh.free np)) _ _ dv) (.tup (sqT_of upd_same) (.cons (.str _) (.cons (.int _) (.cons (.str _) (.cons (.str _) .nil)))))
      · obtain ⟨F2, vs, g, mu, dv⟩ := hp
        rw [Int.toNat_natCast] at dv
        exact q D F2 H' g ⟨nD, vs, mu, dv⟩
    | mv w to a n =>
      obtain ⟨p0, rfl, hT⟩ := dp_mv hx
      obtain ⟨n0, n1⟩ := hok
      have hT' := sqT_same hw hT
      cases w with
      | copy =>
        walk_at "og"
        refine ⟨RgOk.of_le (by omega) (by omega) (by omega) (by omega), fun st nst => ?_⟩
        rw [rgV0]
        have g0 := (Gr.refl (M := []) hw).add (o := .lst (nV (List.range n.toNat))) nst
        have hT1 := sqT_same g0.ws hT
        walk_at "og"
        refine w_ite (fun hc => ?_) (fun hc => ?_)
        · walk_at "og"
          refine ⟨st, _, rfl, sqL_of upd_same, fun s2 ns2 => ?_⟩
          rw [nV_rev]
          have g := g0.add (o := .lst (nV (List.range n.toNat).reverse)) ns2
          have est : (List.range n.toNat).reverse = PRow.steps .copy to a n := by
            unfold PRow.steps
            rw [if_pos ⟨rfl, hc⟩]
          rw [est] at g ⊢
          revert g
          generalize hF1 : upd (upd F st (.lst (nV (List.range n.toNat)))) s2 (.lst (nV (PRow.steps .copy to a n))) = F1
          intro g
          have hst : SqL K F1 s2 (nV (PRow.steps .copy to a n)) := by rw [← hF1]; exact sqL_of upd_same
          have hT2 := sqT_same g.ws hT
          walk_at "og"
          refine ⟨_, rfl, ⟨_, sqL_same g.fh hst⟩, fun D nD => ?_⟩
          have g1 := g.addm (o := .lst []) nD
          refine lc_list (xs := nV (PRow.steps .copy to a n)) (fun i H' => ∃ F2 vs, Gr [] F H F2 H' ∧ Same F1 F2 ∧ Mu F2 H' D (.lst vs) ∧ DpAll K F2 vs (((PRow.steps .copy to a n).take i).map fun (k : Nat) => wr "cell" (to + k) "cell" (.int (a + k)))) ⟨F1, [], g1, Same.refl F1, Mu.new g.fh nD, .nil⟩ (fun i H' _ hp => ?_) (fun i x H' hx hp => ?_) (fun H' hp => ?_)
          · obtain ⟨F2, vs, g2, s2, _⟩ := hp
            exact sqL_same (s2.trans g2.fh) hst
          · obtain ⟨F2, vs, g2, s2, mu, dv⟩ := hp
            obtain ⟨k, hk, rfl⟩ := nV_get hx
            have hlt := (List.getElem?_eq_some_iff.mp hk).1
            rw [PRow.steps_len] at hlt
            have hv : vs.length = i := by
              rw [dpa_len dv, List.length_map, List.length_take, PRow.steps_len]
              omega
            have hT2 := sqT_same g2.ws hT
            walk_at "owp"
            walk_at "og"
            refine ⟨rfl, ?_⟩
            walk_at "og"
            refine ⟨le1000 (by simp), fun p np => ?_⟩
            have mu2 := mu.add (u := .tup [.str "cell", .int (to + k), .str "cell", .int (a + k)]) np
            have g3 := g2.add (o := .tup [.str "cell", .int (to + k), .str "cell", .int (a + k)]) np
            refine ⟨vs, mu2.h, small_lt (by omega), _, vs ++ [.ref p], g3.wrn mu2.n (g.fresh nD), s2.trans (Same.new (g2.fh.free np)), mu2.wr, ?_⟩
            rw [List.take_add_one, hk, List.map_append]
            exact dpa_snoc (dpa_same (Same.new (g2.fh.free np)) _ _ dv) (.tup (sqT_of upd_same) (.cons (.str _) (.cons (.int _) (.cons (.str _) (.cons (.int _) .nil)))))
          · obtain ⟨F2, vs, g2, s2, mu, dv⟩ := hp
            rw [List.take_of_length_le (by unfold nV; rw [List.length_map]; exact Nat.le_refl _)] at dv
            exact q D F2 H' g2 ⟨g.fresh nD, vs, mu, dv⟩
        · have g := g0
          have est : List.range n.toNat = PRow.steps .copy to a n := by
            unfold PRow.steps
            rw [if_neg (fun z => hc z.2)]
          rw [est] at g ⊢
          revert g
          generalize hF1 : upd F st (.lst (nV (PRow.steps .copy to a n))) = F1
          intro g
          have hst : SqL K F1 st (nV (PRow.steps .copy to a n)) := by rw [← hF1]; exact sqL_of upd_same
          walk_at "og"
          refine ⟨_, rfl, ⟨_, sqL_same g.fh hst⟩, fun D nD => ?_⟩
          have g1 := g.addm (o := .lst []) nD
          refine lc_list (xs := nV (PRow.steps .copy to a n)) (fun i H' => ∃ F2 vs, Gr [] F H F2 H' ∧ Same F1 F2 ∧ Mu F2 H' D (.lst vs) ∧ DpAll K F2 vs (((PRow.steps .copy to a n).take i).map fun (k : Nat) => wr "cell" (to + k) "cell" (.int (a + k)))) ⟨F1, [], g1, Same.refl F1, Mu.new g.fh nD, .nil⟩ (fun i H' _ hp => ?_) (fun i x H' hx hp => ?_) (fun H' hp => ?_)
          · obtain ⟨F2, vs, g2, s2, _⟩ := hp
            exact sqL_same (s2.trans g2.fh) hst
          · obtain ⟨F2, vs, g2, s2, mu, dv⟩ := hp
            obtain ⟨k, hk, rfl⟩ := nV_get hx
            have hlt := (List.getElem?_eq_some_iff.mp hk).1
            rw [PRow.steps_len] at hlt
            have hv : vs.length = i := by
              rw [dpa_len dv, List.length_map, List.length_take, PRow.steps_len]
              omega
            have hT2 := sqT_same g2.ws hT
            walk_at "owp"
            walk_at "og"
            refine ⟨rfl, ?_⟩
            walk_at "og"
            refine ⟨le1000 (by simp), fun p np => ?_⟩
            have mu2 := mu.add (u := .tup [.str "cell", .int (to + k), .str "cell", .int (a + k)]) np
            have g3 := g2.add (o := .tup [.str "cell", .int (to + k), .str "cell", .int (a + k)]) np
            refine ⟨vs, mu2.h, small_lt (by omega), _, vs ++ [.ref p], g3.wrn mu2.n (g.fresh nD), s2.trans (Same.new (g2.fh.free np)), mu2.wr, ?_⟩
            rw [List.take_add_one, hk, List.map_append]
            exact dpa_snoc (dpa_same (Same.new (g2.fh.free np)) _ _ dv) (.tup (sqT_of upd_same) (.cons (.str _) (.cons (.int _) (.cons (.str _) (.cons (.int _) .nil)))))
          · obtain ⟨F2, vs, g2, s2, mu, dv⟩ := hp
            rw [List.take_of_length_le (by unfold nV; rw [List.length_map]; exact Nat.le_refl _)] at dv
            exact q D F2 H' g2 ⟨g.fresh nD, vs, mu, dv⟩
      | keep =>
        walk_at "og"
        refine ⟨RgOk.of_le (by omega) (by omega) (by omega) (by omega), fun st nst => ?_⟩
        rw [rgV0]
        have g := (Gr.refl (M := []) hw).add (o := .lst (nV (List.range n.toNat))) nst
        have est : List.range n.toNat = PRow.steps .keep to a n := by
          unfold PRow.steps
          rw [if_neg (fun z => by cases z.1)]
        rw [est] at g ⊢
        revert g
        generalize hF1 : upd F st (.lst (nV (PRow.steps .keep to a n))) = F1
        intro g
        have hst : SqL K F1 st (nV (PRow.steps .keep to a n)) := by rw [← hF1]; exact sqL_of upd_same
        have hT1 := sqT_same g.ws hT
        walk_at "og"
        refine ⟨_, rfl, ⟨_, sqL_same g.fh hst⟩, fun D nD => ?_⟩
        have g1 := g.addm (o := .lst []) nD
        refine lc_list (xs := nV (PRow.steps .keep to a n)) (fun i H' => ∃ F2 vs, Gr [] F H F2 H' ∧ Same F1 F2 ∧ Mu F2 H' D (.lst vs) ∧ DpAll K F2 vs (((PRow.steps .keep to a n).take i).map fun (k : Nat) => wr "slot" (to + k) "cell" (.int (a + k)))) ⟨F1, [], g1, Same.refl F1, Mu.new g.fh nD, .nil⟩ (fun i H' _ hp => ?_) (fun i x H' hx hp => ?_) (fun H' hp => ?_)
        · obtain ⟨F2, vs, g2, s2, _⟩ := hp
          exact sqL_same (s2.trans g2.fh) hst
        · obtain ⟨F2, vs, g2, s2, mu, dv⟩ := hp
          obtain ⟨k, hk, rfl⟩ := nV_get hx
          have hlt := (List.getElem?_eq_some_iff.mp hk).1
          rw [PRow.steps_len] at hlt
          have hv : vs.length = i := by
            rw [dpa_len dv, List.length_map, List.length_take, PRow.steps_len]
            omega
          have hT2 := sqT_same g2.ws hT
          walk_at "owp"
          walk_at "og"
          refine ⟨rfl, ?_⟩
          walk_at "og"
          refine ⟨le1000 (by simp), fun p np => ?_⟩
          have mu2 := mu.add (u := .tup [.str "slot", .int (to + k), .str "cell", .int (a + k)]) np
          have g3 := g2.add (o := .tup [.str "slot", .int (to + k), .str "cell", .int (a + k)]) np
          refine ⟨vs, mu2.h, small_lt (by omega), _, vs ++ [.ref p], g3.wrn mu2.n (g.fresh nD), s2.trans (Same.new (g2.fh.free np)), mu2.wr, ?_⟩
          rw [List.take_add_one, hk, List.map_append]
          exact dpa_snoc (dpa_same (Same.new (g2.fh.free np)) _ _ dv) (.tup (sqT_of upd_same) (.cons (.str _) (.cons (.int _) (.cons (.str _) (.cons (.int _) .nil)))))
        · obtain ⟨F2, vs, g2, s2, mu, dv⟩ := hp
          rw [List.take_of_length_le (by unfold nV; rw [List.length_map]; exact Nat.le_refl _)] at dv
          exact q D F2 H' g2 ⟨g.fresh nD, vs, mu, dv⟩
      | lay =>
        walk_at "og"
        refine ⟨RgOk.of_le (by omega) (by omega) (by omega) (by omega), fun st nst => ?_⟩
        rw [rgV0]
        have g := (Gr.refl (M := []) hw).add (o := .lst (nV (List.range n.toNat))) nst
        have est : List.range n.toNat = PRow.steps .lay to a n := by
          unfold PRow.steps
          rw [if_neg (fun z => by cases z.1)]
        rw [est] at g ⊢
        revert g
        generalize hF1 : upd F st (.lst (nV (PRow.steps .lay to a n))) = F1
        intro g
        have hst : SqL K F1 st (nV (PRow.steps .lay to a n)) := by rw [← hF1]; exact sqL_of upd_same
        have hT1 := sqT_same g.ws hT
        walk_at "og"
        refine ⟨_, rfl, ⟨_, sqL_same g.fh hst⟩, fun D nD => ?_⟩
        have g1 := g.addm (o := .lst []) nD
        refine lc_list (xs := nV (PRow.steps .lay to a n)) (fun i H' => ∃ F2 vs, Gr [] F H F2 H' ∧ Same F1 F2 ∧ Mu F2 H' D (.lst vs) ∧ DpAll K F2 vs (((PRow.steps .lay to a n).take i).map fun (k : Nat) => wr "cell" (to + k) "slot" (.int (a + k)))) ⟨F1, [], g1, Same.refl F1, Mu.new g.fh nD, .nil⟩ (fun i H' _ hp => ?_) (fun i x H' hx hp => ?_) (fun H' hp => ?_)
        · obtain ⟨F2, vs, g2, s2, _⟩ := hp
          exact sqL_same (s2.trans g2.fh) hst
        · obtain ⟨F2, vs, g2, s2, mu, dv⟩ := hp
          obtain ⟨k, hk, rfl⟩ := nV_get hx
          have hlt := (List.getElem?_eq_some_iff.mp hk).1
          rw [PRow.steps_len] at hlt
          have hv : vs.length = i := by
            rw [dpa_len dv, List.length_map, List.length_take, PRow.steps_len]
            omega
          have hT2 := sqT_same g2.ws hT
          walk_at "owp"
          walk_at "og"
          refine ⟨rfl, ?_⟩
          walk_at "og"
          refine ⟨le1000 (by simp), fun p np => ?_⟩
          have mu2 := mu.add (u := .tup [.str "cell", .int (to + k), .str "slot", .int (a + k)]) np
          have g3 := g2.add (o := .tup [.str "cell", .int (to + k), .str "slot", .int (a + k)]) np
          refine ⟨vs, mu2.h, small_lt (by omega), _, vs ++ [.ref p], g3.wrn mu2.n (g.fresh nD), s2.trans (Same.new (g2.fh.free np)), mu2.wr, ?_⟩
          rw [List.take_add_one, hk, List.map_append]
          exact dpa_snoc (dpa_same (Same.new (g2.fh.free np)) _ _ dv) (.tup (sqT_of upd_same) (.cons (.str _) (.cons (.int _) (.cons (.str _) (.cons (.int _) .nil)))))
        · obtain ⟨F2, vs, g2, s2, mu, dv⟩ := hp
          rw [List.take_of_length_le (by unfold nV; rw [List.length_map]; exact Nat.le_refl _)] at dv
          exact q D F2 H' g2 ⟨g.fresh nD, vs, mu, dv⟩
-- writes
theorem ok_writes {f : Addr} {fd : FuncData} (F : FunD K "writes" "writes" (defArgs s_writes) (defBody s_writes) (defScope s_writes) [] [] f fd) (T : Txt K mg) (D_row_writes : DO P w K mg base 1 "row_writes" ["row"] [] (S1 (φrow_writes K))) : FnOk P w K mg base CX0 2 f fd ["plan"] (S1 (φwrites K)) := by
  refine F.ok sc_writes (fun vs H Q E h => ?_) (fun cdv A outer s H vs Q E hr h => ?_)
  · exact S1.len h
  · match vs, h with
    | [v0], h =>
    have hu := hu_of hr
    refine ⟨_, PSs.nox (pss_cons (ps_set (i := 1) sc_writes.nd rfl (.inl rfl) (pe_lst pa_nil))
      (pss_cons (ps_for PassesOwn.never rfl (pi_list (pv 0)) (pg_name (i := 2) sc_writes.nd rfl (.inl rfl)) (pss_one (ps_expr (peBM (K := K) PySem.F.plainAttrs_list PySem.F.slot_list_extend PySem.F.type_list_extend mt_extend (pv 1) (pa_cons (pcall D_row_writes hr (pa_cons (pv 2) pa_nil)) pa_nil)))))
      (pss_one (ps_ret (pv 1))))), ?_⟩
    rw [show start ["plan", "found", "row"] [v0] = [some v0, none, none] from rfl]
    obtain ⟨F, rs, hw, hx, hok, hsum, q⟩ := h
    obtain ⟨a, us, rfl, hS, dus⟩ := dp_list hx
    walk_at "og"
    refine ⟨le1000 (by simp), fun D nD => ?_⟩
    have g1 : Gr [] F H F (upd H D (.lst [])) := .new hw nD
    walk_at "og"
    refine ⟨a, rfl, ⟨_, sqL_same g1.ws hS⟩, f_list (xs := us) (fun i σ H' => ∃ F2 vs y, σ = [some (.ref a), some (.ref D), y] ∧ Gr [] F H F2 H' ∧ Mu F2 H' D (.lst vs) ∧ DpAll K F2 vs ((rs.take i).flatMap PRow.writes)) ⟨F, [], none, rfl, g1, Mu.new hw nD, .nil⟩ (fun i σ H' _ hp => ?_) (fun i x σ H' hx' hp => ?_) (fun σ H' hp => ?_)⟩
    · obtain ⟨F2, vs, y, rfl, g, mu, dv⟩ := hp
      exact sqL_same g.ws hS
    · obtain ⟨F2, vs, y, rfl, g, mu, dv⟩ := hp
      obtain ⟨r, hr, dr⟩ := row_at dus hx'
      walk_at "og"
      refine ⟨F2, r, g.fh, dp_same g.ff _ _ dr, hok r (List.mem_of_getElem? hr), fun l F3 H3 g3 nl => ?_⟩
      obtain ⟨nl0, zs, muz, dz⟩ := nl
      walk_at "og"
      have mu3 := g3.mu0 mu
      have hl := flat_len rs (i + 1)
      rw [flat_take hr, List.length_append, ← dpa_len dv, ← dpa_len dz] at hl
      refine ⟨D, l, vs, zs, rfl, rfl, mu3.h, muz.h, szle (by omega), ?_⟩
      refine ⟨F3, vs ++ zs, _, rfl, (g.trans g3).wrn mu3.n nD, mu3.wr, ?_⟩
      rw [flat_take hr]
      exact dpa_app (dpa_same g3.ff _ _ dv) dz
    · obtain ⟨F2, vs, y, rfl, g, mu, dv⟩ := hp
      walk_at "og"
      rw [List.take_of_length_le (by rw [dpa_len dus, List.length_map]; exact Nat.le_refl _)] at dv
      exact q D F2 H' g ⟨nD, vs, mu, dv⟩
-- Runner.__init__
theorem ok_RunnerX_initX {f : Addr} {fd : FuncData} (F : FunD K "__init__" "Runner.__init__" (defArgs s_RunnerX_initX) (defBody s_RunnerX_initX) (defScope s_RunnerX_initX) [.int 0, .int 0] [] f fd) (T : Txt K mg) (D_writes : DO P w K mg base 2 "writes" ["plan"] [] (S1 (φwrites K))) : FnOk P w K mg base CX0 3 f fd ["self", "old", "plan", "marks", "spare", "size"] (S6 (φrinit K)) := by
  refine F.ok sc_RunnerX_initX (fun vs H Q E h => ?_) (fun cdv A outer s H vs Q E hr h => ?_)
  · exact S6.len h
  · match vs, h with
    | [v0, v1, v2, v3, v4, v5], h =>
    have hu := hu_of hr
    refine ⟨_, PSs.nox (pss_cons (psFld (K := K) (pv 0) (pe_op op_cat (pe_callTy clListS (by rfl) T.b_list (by decide +kernel) (pa_cons (pv 1) pa_nil)) (pe_op op_rep (pe_lst (pa_cons pe_non pa_nil)) (pe_op op_sub (pv 5) (pe_callB clLenS (by rfl) T.b_len (by decide +kernel) (pa_cons (pv 1) pa_nil))))) rfl)
      (pss_cons (psFld (K := K) (pv 0) (pe_op op_rep (pe_lst (pa_cons pe_non pa_nil)) (pv 4)) rfl)
      (pss_cons (psFld (K := K) (pv 0) (pcall D_writes hr (pa_cons (pv 2) pa_nil)) rfl)
      (pss_cons (psFld (K := K) (pv 0) (pe_callTy (clDictP (K := K)) (by rfl) T.b_dict (by decide +kernel) (pa_cons (pe_lc (own := [("mark", 6)]) (g := gName 6) rfl sc_RunnerX_initX.nd (pi_list (pv 3)) (blkOk_by (own := [("mark", 6)]) (N := ["self", "old", "plan", "marks", "spare", "size", "mark"]) (sc := defScope s_RunnerX_initX) (by decide +kernel)) (fun _ _ _ _ _ => pg_name (i := 6) sc_RunnerX_initX.nd rfl (Or.inl rfl)) (fun _ _ _ _ _ => pts_nil) (fun _ _ _ _ _ => (pe_tup (pa_cons (pv 6) (pa_cons pe_bl pa_nil))))) pa_nil)) rfl)
      (pss_cons (psFld (K := K) (pv 0) pe_int rfl)
      (pss_one (psFld (K := K) (pv 0) pe_int rfl))))))), ?_⟩
    rw [show start ["self", "old", "plan", "marks", "spare", "size", "mark"] [v0, v1, v2, v3, v4, v5] = [some v0, some v1, some v2, some v3, some v4, some v5, none] from rfl]
    have kC := T.k_Runner
    have k1 := T.na_Runner_cells_here
    have k2 := T.na_Runner_slots_here
    have k3 := T.na_Runner_some
    have k4 := T.na_Runner_bounds
    have k5 := T.na_Runner_kept
    have k6 := T.na_Runner_gone
    
    obtain ⟨F, c, dx, pp, pm, o, vs, rs, ms, slots, size, rfl, rfl, rfl, rfl, rfl, rfl, s0, hP, hD, hM, hrok, hrs, hml, oko, hol, hsl, hsz, hsz0, q⟩ := h
    have w := (((s0.w (M := [c])).push (imL K pp vs) hP).push (dpa K vs (rs.map PRow.d)) hD).push (imL K pm (nV ms)) hM
    walk_at "go"
    refine n_listS w (szle (by omega)) fun p1 F1 H1 w hp1 => ?_
    walk_at "go"
    refine n_lst w (szle (by simp)) fun p2 F1 H1 w hp2 => ?_
    walk_at "go"
    refine n_rep w (by walk_at "at") (by omega) (by omega) (szle (by show 1 * _ ≤ _; omega)) fun p3 F1 H1 w hp3 => ?_
    rw [show (List.replicate (size - ((o.length : Nat) : Int)).toNat [V.non]).flatten = List.replicate (size.toNat - o.length) V.non by rw [List.flatten_replicate_singleton, show (size - ((o.length : Nat) : Int)).toNat = size.toNat - o.length by omega]] at w
    walk_at "go"
    refine n_cat (p := p1) (q := p3) w (by walk_at "at") (by walk_at "at") (szle (by rw [chars_len, List.length_replicate]; omega)) fun pc F1 H1 w hpc => ?_
    walk_at "go"
    refine n_sfld w (by walk_at "pick") kC k1 (by show (0 : Nat) < 1000; decide) fun H2 w => ?_
    walk_at "go"
    refine n_lst w (szle (by simp)) fun p4 F1 H1 w hp4 => ?_
    walk_at "go"
    refine n_rep w (by walk_at "at") (by omega) (by omega) (szle (by show 1 * _ ≤ _; omega)) fun ps F1 H1 w hps => ?_
    rw [show (List.replicate (((slots : Nat) : Int)).toNat [V.non]).flatten = List.replicate slots V.non by rw [Int.toNat_natCast, List.flatten_replicate_singleton]] at w
    walk_at "go"
    refine n_sfld w (by walk_at "pick") kC k2 (by show (1 : Nat) < 1000; decide) fun H2 w => ?_
    walk_at "go"
    refine ⟨_, rs, w.fh, .lst (w.imL (p := pp) (by walk_at "mem")) (w.dpa (by walk_at "mem")), hrok, hrs, fun pw F3 H3 g3 l3 => ?_⟩
    obtain ⟨ws, hpw, hwd, w⟩ := w.grL0 g3 l3
    rw [← acts_all] at hwd
    replace w := w.push (dpa K ws ((rs.flatMap PRow.acts).map WAct.d)) hwd
    obtain ⟨F4, w⟩ := w.fzL (p := pw) (by walk_at "pick") hpw
    walk_at "go"
    refine n_sfld w (by walk_at "pick") kC k3 (by show (2 : Nat) < 1000; decide) fun H2 w => ?_
    walk_at "go"
    replace w := w.push (tps [] (mkV (ms.take 0))) Paired.nil
    refine n_lcL (nV ms) w (fun j ys L => ∃ ts : List Addr, ys = ts.map V.ref ∧ ts.length = j ∧ L = [tps ts (mkV (ms.take j)), mu c (.ins (He.ga K "Runner") dx [("cells_here", .ref pc), ("slots_here", .ref ps), ("some", .ref pw)]), mu pc (.lst (chars o ++ List.replicate (size.toNat - o.length) V.non)), mu ps (.lst (List.replicate slots V.non)), fx pw (.lst ws), dpa K ws ((rs.flatMap PRow.acts).map WAct.d), imL K pm (nV ms)]) ⟨[], rfl, rfl, rfl⟩ (fun j ys L F' H' D hp w => ?_) (fun j x ys L F' H' D hx hp w hD => ?_) (fun D ys L F' H' hp w hD => ?_)
    · obtain ⟨ts, rfl, htl, rfl⟩ := hp
      walk_at "sq"
    · obtain ⟨ts, rfl, htl, rfl⟩ := hp
      obtain ⟨m, hm, rfl⟩ := nV_at hx
      have hjl := (List.getElem?_eq_some_iff.mp hm).1
      walk_at "wp"
      walk_at "go"
      refine n_tup w (szle (by simp)) fun t F7 H7 w => ?_
      replace w := w.push (tps (ts ++ [t]) (mkV (ms.take (j + 1)))) (by
        rw [List.take_add_one, hm, show (some m).toList = [m] from rfl, mkV_snoc]
        exact paired_snoc (w.i (tps ts (mkV (ms.take j))) (by walk_at "mem")) (w.i (fx t (.tup [.int (m : Nat), .bl true])) (by walk_at "mem")))
      exact n_acc (ts.map V.ref) w ⟨ts ++ [t], by rw [List.map_append]; rfl, by rw [List.length_append, htl]; rfl, rfl⟩ (by walk_at "pk") (small_lt (by rw [List.length_map]; omega))
    obtain ⟨ts, rfl, htl, rfl⟩ := hp
    rw [nV_len, List.take_length] at w
    walk_at "go"
    refine n_dictP (kvs := mkV ms) w (by walk_at "sq") (by walk_at "mem") fun pb F8 H8 w hpb => ?_
    have hkb := keys_merge ms
    obtain ⟨F9, w⟩ : ∃ F9, W _ _ _ F9 _ _ := ⟨_, (w.fz (p := pb) (by walk_at "pick") hpb).push (fx pb (.dK (mergeK [] (mkV ms)))) upd_same⟩
    walk_at "go"
    refine n_sfld w (by walk_at "pick") kC k4 (by show (3 : Nat) < 1000; decide) fun H2 w => ?_
    walk_at "go"
    refine n_sfld w (by walk_at "pick") kC k5 (by show (4 : Nat) < 1000; decide) fun H2 w => ?_
    walk_at "go"
    refine n_sfld w (by walk_at "pick") kC k6 (by show (5 : Nat) < 1000; decide) fun H2 w => ?_
    replace w := w.push (imL K pw ws) (sqL_of (w.i (fx pw (.lst ws)) (by walk_at "mem")))
    refine q ⟨c, dx, pc, ps, pw, pb, ws, mergeK [] (mkV ms)⟩ _ _ rfl (W.clsR (s := ⟨stR o size.toNat slots, 0, 0⟩) (w.to (by walk_at "pick")) hkb) fun x hx => ?_
    rcases List.mem_cons.mp hx with rfl | hx
    · exact hpc
    · rcases List.mem_cons.mp hx with rfl | hx
      · exact hps
      · rw [List.mem_singleton.mp hx]; exact hpw
-- Runner.step
theorem ok_Runner_step {f : Addr} {fd : FuncData} (F : FunD K "step" "Runner.step" (defArgs s_Runner_step) (defBody s_Runner_step) (defScope s_Runner_step) [] [] f fd) (T : Txt K mg)  : FnOk P w K mg base CX0 1 f fd ["self"] (S1 (φrstep K)) := by
  refine F.ok sc_Runner_step (fun vs H Q E h => ?_) (fun cdv A outer s H vs Q E hr h => ?_)
  · exact S1.len h
  · match vs, h with
    | [v0], h =>
    have hu := hu_of hr
    refine ⟨_, PSs.nox (C8.pss_cut (ps_if (PW.pt (pw_and (pt_cmpR op_gt (peFld (K := K) (pv 0)) (peFld (K := K) (pv 0)) (nomark _)) (pw_and1 (pt_cmp (pc_din hu (peFld (K := K) (pv 0)) (peFld (K := K) (pv 0))))))) (pss_cons (psFld (K := K) (pv 0) (peFld (K := K) (pv 0)) rfl)
      (pss_one (ps_ret pe_bl))) pss_nil)
      (pss_cons (ps_if (pt_cmpR op_eq (peFld (K := K) (pv 0)) (pe_callB (clLenQ (K := K)) (by rfl) T.b_len (by decide +kernel) (pa_cons (peFld (K := K) (pv 0)) pa_nil)) (nomark _)) (pss_one (ps_ret pe_bl)) pss_nil)
      (pss_cons (ps_asg (pe_ix (ixL (K := K)) (peFld (K := K) (pv 0)) (peFld (K := K) (pv 0)) (fun _ _ => rfl)) (pg_tup (by rfl) (pgs_cons (pg_name (i := 1) sc_Runner_step.nd rfl (.inl rfl)) (pgs_cons (pg_name (i := 2) sc_Runner_step.nd rfl (.inl rfl)) (pgs_cons (pg_name (i := 3) sc_Runner_step.nd rfl (.inl rfl)) (pgs_cons (pg_name (i := 4) sc_Runner_step.nd rfl (.inl rfl)) pgs_nil))))))
      (pss_cons (ps_set (i := 5) sc_Runner_step.nd rfl (.inl rfl) (pv 4))
      (pss_cons (ps_if (pt_cmpR op_eq (pv 3) pe_str (nomark _)) (pss_one (ps_set (i := 5) sc_Runner_step.nd rfl (.inl rfl) (pe_ix (ixL (K := K)) (peFld (K := K) (pv 0)) (pv 4) (fun _ _ => rfl)))) pss_nil)
      (pss_cons (ps_if (pt_cmpR op_eq (pv 3) pe_str (nomark _)) (pss_one (ps_set (i := 5) sc_Runner_step.nd rfl (.inl rfl) (pe_ix (ixL (K := K)) (peFld (K := K) (pv 0)) (pv 4) (fun _ _ => rfl)))) pss_nil)
      (pss_cons (ps_if (pt_cmpR op_eq (pv 1) pe_str (nomark _)) (pss_one (ps_asg (pv 5) (pg_sub (peFld (K := K) (pv 0)) (pv 2) set_list))) (pss_one (ps_asg (pv 5) (pg_sub (peFld (K := K) (pv 0)) (pv 2) set_list))))
      (pss_cons (psFldAug (K := K) (pv 0) pe_int in_add)
      (pss_one (ps_ret pe_bl)))))))))), ?_⟩
    rw [show start ["self", "where", "number", "source", "what", "sign"] [v0] = [some v0, none, none, none, none, none] from rfl]
    have kC := T.k_Runner
    have k1 := T.na_Runner_cells_here
    have k2 := T.na_Runner_slots_here
    have k3 := T.na_Runner_some
    have k4 := T.na_Runner_bounds
    have k5 := T.na_Runner_kept
    have k6 := T.na_Runner_gone
    
    obtain ⟨F, a, acts, bars, s, rfl, s0, ⟨hle, hok⟩, hal, q⟩ := h
    have w := s0.w (M := [a.c, a.pc, a.ps])
    obtain ⟨w, hk⟩ := w.opnR
    have hwl : a.ws.length = acts.length := by rw [dpa_len (w.dpa (K := K) (xs := a.ws) (ds := acts.map WAct.d) (by walk_at "mem")), List.length_map]
    unfold rnO at w
    walk_at "go"
    refine n_cut w (fun σ L => ¬ (s.kept < s.gone ∧ s.gone ∈ bars) ∧ σ = [some (.ref a.c), none, none, none, none, none] ∧ L = [mu a.c (rnO K a s.kept s.gone), mu a.pc (.lst s.st.1), mu a.ps (.lst s.st.2), imL K a.pw a.ws, dpa K a.ws (acts.map WAct.d), fx a.pb (.dK a.kvs)]) ?_ (fun σ L F' H' hp w => ?_)
    · walk_at "go"
      by_cases h1 : s.kept < s.gone
      · rw [decide_eq_true (show ((s.kept : Nat) : Int) < ((s.gone : Nat) : Int) by omega)]
        walk_at "go"
        refine n_dinK (by walk_at "at") ?_
        rw [hk]
        by_cases h2 : s.gone ∈ bars
        · rw [decide_eq_true h2]
          walk_at "go"
          refine n_sfld w (by walk_at "pick") kC k5 (by show (6 : Nat) < 1000; decide) fun H2 w => ?_
          walk_at "go"
          rw [rstep_mark ⟨h1, h2⟩] at q
          exact q _ _ (W.clsR (s := ⟨s.st, s.gone, s.gone⟩) (w.to (by walk_at "pick")) hk)
        · rw [decide_eq_false h2]
          walk_at "go"
          exact nx_mk w ⟨fun z => h2 z.2, rfl, rfl⟩ (by walk_at "pk")
      · rw [decide_eq_false (show ¬ ((s.kept : Nat) : Int) < ((s.gone : Nat) : Int) by omega)]
        walk_at "go"
        exact nx_mk w ⟨fun z => h1 z.1, rfl, rfl⟩ (by walk_at "pk")
    · obtain ⟨hm, rfl, rfl⟩ := hp
      walk_at "go"
      cases et : acts[s.gone]? with
      | none =>
        have hgl := List.getElem?_eq_none_iff.mp et
        rw [decide_eq_true (show ((s.gone : Nat) : Int) = ((a.ws.length : Nat) : Int) by omega)]
        walk_at "go"
        rw [rstep_end hm et] at q
        exact q _ _ (W.clsR (w.to (by walk_at "pick")) hk)
      | some t =>
        have hgl := (List.getElem?_eq_some_iff.mp et).1
        rw [decide_eq_false (show ¬ ((s.gone : Nat) : Int) = ((a.ws.length : Nat) : Int) by omega)]
        walk_at "go"
        rw [rstep_act hm et] at q
        obtain ⟨hoa, hwf⟩ := hok t et
        obtain ⟨p, hp1, hp2⟩ := act_at (w.dpa (K := K) (xs := a.ws) (ds := acts.map WAct.d) (by walk_at "mem")) et
        replace w := w.push (imT K p _) hp2
        refine w_ixL _ _ (by walk_at "sq") (atI_nat hp1) ?_
        refine w_tgt _ (by walk_at "st") rfl ?_
        obtain ⟨hrd, i, hin, hil⟩ := id hoa
        obtain ⟨hww, hss, _, _⟩ := hwf
        obtain ⟨tw, tn, ts, tx⟩ := t
        dsimp only at hww hss hin hil hrd w
        subst hin
        rcases hss with rfl | rfl | rfl
        · dsimp only
          have hv : actV s.st ⟨tw, (i : Nat), "sign", tx⟩ = kV tx := actV_sign rfl
          walk_at "go"
          rcases hww with rfl | rfl
          · rw [if_neg (by decide +kernel)] at hil
            walk_at "go"
            refine n_setL (p := a.pc) w (by walk_at "pick") i (ixNatR hil) fun H3 w => ?_
            walk_at "go"
            refine n_fldInc w (by walk_at "pick") kC k6 rfl (by show (6 : Nat) < 1000; decide) (fun Q q => w_v0 q) fun H4 w => ?_
            dsimp only
            walk_at "go"
            rw [done_cellW, hv] at q
            exact q _ _ (W.clsR (s := ⟨(s.st.1.set i _, s.st.2), s.kept, s.gone + 1⟩) (w.to (by walk_at "pick")) hk)
          · rw [if_pos (by decide +kernel)] at hil
            walk_at "go"
            refine n_setL (p := a.ps) w (by walk_at "pick") i (ixNatR hil) fun H3 w => ?_
            walk_at "go"
            refine n_fldInc w (by walk_at "pick") kC k6 rfl (by show (6 : Nat) < 1000; decide) (fun Q q => w_v0 q) fun H4 w => ?_
            dsimp only
            walk_at "go"
            rw [done_slotW, hv] at q
            exact q _ _ (W.clsR (s := ⟨(s.st.1, s.st.2.set i _), s.kept, s.gone + 1⟩) (w.to (by walk_at "pick")) hk)
        · dsimp only
          obtain ⟨_, j, rfl, v, hjv, hvn⟩ := hrd.resolve_left (by decide +kernel)
          have hv : actV s.st ⟨tw, (i : Nat), "cell", .inl (j : Int)⟩ = v := actV_read (j := j) cell_ns rfl hjv
          rw [if_neg (by decide +kernel)] at hjv
          walk_at "go"
          refine w_ixL _ _ (show SqL K _ a.pc s.st.1 by walk_at "sq") (atI_nat hjv) ?_
          walk_at "go"
          rcases hww with rfl | rfl
          · rw [if_neg (by decide +kernel)] at hil
            walk_at "go"
            refine n_setL (p := a.pc) w (by walk_at "pick") i (ixNatR hil) fun H3 w => ?_
            walk_at "go"
            refine n_fldInc w (by walk_at "pick") kC k6 rfl (by show (6 : Nat) < 1000; decide) (fun Q q => w_v0 q) fun H4 w => ?_
            dsimp only
            walk_at "go"
            rw [done_cellW, hv] at q
            exact q _ _ (W.clsR (s := ⟨(s.st.1.set i _, s.st.2), s.kept, s.gone + 1⟩) (w.to (by walk_at "pick")) hk)
          · rw [if_pos (by decide +kernel)] at hil
            walk_at "go"
            refine n_setL (p := a.ps) w (by walk_at "pick") i (ixNatR hil) fun H3 w => ?_
            walk_at "go"
            refine n_fldInc w (by walk_at "pick") kC k6 rfl (by show (6 : Nat) < 1000; decide) (fun Q q => w_v0 q) fun H4 w => ?_
            dsimp only
            walk_at "go"
            rw [done_slotW, hv] at q
            exact q _ _ (W.clsR (s := ⟨(s.st.1, s.st.2.set i _), s.kept, s.gone + 1⟩) (w.to (by walk_at "pick")) hk)
        · dsimp only
          obtain ⟨_, j, rfl, v, hjv, hvn⟩ := hrd.resolve_left (by decide +kernel)
          have hv : actV s.st ⟨tw, (i : Nat), "slot", .inl (j : Int)⟩ = v := actV_read (j := j) slot_ns rfl hjv
          rw [if_pos (by decide +kernel)] at hjv
          walk_at "go"
          refine w_ixL _ _ (show SqL K _ a.ps s.st.2 by walk_at "sq") (atI_nat hjv) ?_
          walk_at "go"
          rcases hww with rfl | rfl
          · rw [if_neg (by decide +kernel)] at hil
            walk_at "go"
            refine n_setL (p := a.pc) w (by walk_at "pick") i (ixNatR hil) fun H3 w => ?_
            walk_at "go"
            refine n_fldInc w (by walk_at "pick") kC k6 rfl (by show (6 : Nat) < 1000; decide) (fun Q q => w_v0 q) fun H4 w => ?_
            dsimp only
            walk_at "go"
            rw [done_cellW, hv] at q
            exact q _ _ (W.clsR (s := ⟨(s.st.1.set i _, s.st.2), s.kept, s.gone + 1⟩) (w.to (by walk_at "pick")) hk)
          · rw [if_pos (by decide +kernel)] at hil
            walk_at "go"
            refine n_setL (p := a.ps) w (by walk_at "pick") i (ixNatR hil) fun H3 w => ?_
            walk_at "go"
            refine n_fldInc w (by walk_at "pick") kC k6 rfl (by show (6 : Nat) < 1000; decide) (fun Q q => w_v0 q) fun H4 w => ?_
            dsimp only
            walk_at "go"
            rw [done_slotW, hv] at q
            exact q _ _ (W.clsR (s := ⟨(s.st.1, s.st.2.set i _), s.kept, s.gone + 1⟩) (w.to (by walk_at "pick")) hk)
-- Runner.cut
theorem ok_Runner_cut {f : Addr} {fd : FuncData} (F : FunD K "cut" "Runner.cut" (defArgs s_Runner_cut) (defBody s_Runner_cut) (defScope s_Runner_cut) [] [] f fd) (T : Txt K mg)  : FnOk P w K mg base CX0 1 f fd ["self"] (S1 (φrcut K)) := by
  refine F.ok sc_Runner_cut (fun vs H Q E h => ?_) (fun cdv A outer s H vs Q E hr h => ?_)
  · exact S1.len h
  · match vs, h with
    | [v0], h =>
    have hu := hu_of hr
    refine ⟨_, PSs.nox (pss_one (psFld (K := K) (pv 0) (peFld (K := K) (pv 0)) rfl)), ?_⟩
    rw [show start ["self"] [v0] = [some v0] from rfl]
    have kC := T.k_Runner
    have k1 := T.na_Runner_cells_here
    have k2 := T.na_Runner_slots_here
    have k3 := T.na_Runner_some
    have k4 := T.na_Runner_bounds
    have k5 := T.na_Runner_kept
    have k6 := T.na_Runner_gone
    
    obtain ⟨F, a, acts, bars, s, rfl, s0, q⟩ := h
    have w := s0.w (M := [a.c, a.pc, a.ps])
    obtain ⟨w, hk⟩ := w.opnR
    unfold rnO at w
    walk_at "go"
    refine n_sfld w (by walk_at "pick") kC k6 (by show (6 : Nat) < 1000; decide) fun H4 w => ?_
    exact q _ _ (W.clsR (s := rcut s) (w.to (by walk_at "pick")) hk)
-- Runner.mark
theorem ok_Runner_mark {f : Addr} {fd : FuncData} (F : FunD K "mark" "Runner.mark" (defArgs s_Runner_mark) (defBody s_Runner_mark) (defScope s_Runner_mark) [] [] f fd) (T : Txt K mg)  : FnOk P w K mg base CX0 1 f fd ["self"] (S1 (φrmark K)) := by
  refine F.ok sc_Runner_mark (fun vs H Q E h => ?_) (fun cdv A outer s H vs Q E hr h => ?_)
  · exact S1.len h
  · match vs, h with
    | [v0], h =>
    have hu := hu_of hr
    refine ⟨_, PSs.nox (pss_one (ps_ret (peFld (K := K) (pv 0)))), ?_⟩
    rw [show start ["self"] [v0] = [some v0] from rfl]
    have kC := T.k_Runner
    have k1 := T.na_Runner_cells_here
    have k2 := T.na_Runner_slots_here
    have k3 := T.na_Runner_some
    have k4 := T.na_Runner_bounds
    have k5 := T.na_Runner_kept
    have k6 := T.na_Runner_gone
    
    obtain ⟨F, a, acts, bars, s, rfl, s0, q⟩ := h
    have w := s0.w (M := [a.c, a.pc, a.ps])
    obtain ⟨w, hk⟩ := w.opnR
    unfold rnO at w
    walk_at "go"
    exact q _ _ (W.clsR (w.to (by walk_at "pick")) hk)
-- Runner.room
theorem ok_Runner_room {f : Addr} {fd : FuncData} (F : FunD K "room" "Runner.room" (defArgs s_Runner_room) (defBody s_Runner_room) (defScope s_Runner_room) [] [] f fd) (T : Txt K mg)  : FnOk P w K mg base CX0 1 f fd ["self"] (S1 (φrroom K)) := by
  refine F.ok sc_Runner_room (fun vs H Q E h => ?_) (fun cdv A outer s H vs Q E hr h => ?_)
  · exact S1.len h
  · match vs, h with
    | [v0], h =>
    have hu := hu_of hr
    refine ⟨_, PSs.nox (pss_one (ps_ret (pe_callTy (clListOf (K := K)) (by rfl) T.b_list (by decide +kernel) (pa_cons (peFld (K := K) (pv 0)) pa_nil)))), ?_⟩
    rw [show start ["self"] [v0] = [some v0] from rfl]
    have kC := T.k_Runner
    have k1 := T.na_Runner_cells_here
    have k2 := T.na_Runner_slots_here
    have k3 := T.na_Runner_some
    have k4 := T.na_Runner_bounds
    have k5 := T.na_Runner_kept
    have k6 := T.na_Runner_gone
    
    obtain ⟨F, a, acts, bars, s, rfl, s0, q⟩ := h
    have w := s0.w (M := [a.c, a.pc, a.ps])
    obtain ⟨w, hk⟩ := w.opnR
    unfold rnO at w
    walk_at "go"
    refine n_listOf w (by walk_at "sq") fun p F1 H1 w hp => ?_
    have w2 := W.clsR (K := K) (a := a) (acts := acts) (bars := bars) (s := s) (L := [mu p (.lst s.st.1)]) (w.to (by walk_at "pick")) hk
    exact q p _ _ hp (w2.to (by walk_at "pick"))
-- _law_bag
theorem ok_law_bag {f : Addr} {fd : FuncData} (F : FunD K "_law_bag" "_law_bag" (defArgs s_law_bag) (defBody s_law_bag) (defScope s_law_bag) [] [] f fd) (T : Txt K mg)  : FnOk P w K mg base CX0 1 f fd ["script"] (S1 (φbag K)) := by
  refine F.ok sc_law_bag (fun vs H Q E h => ?_) (fun cdv A outer s H vs Q E hr h => ?_)
  · exact S1.len h
  · match vs, h with
    | [v0], h =>
    have hu := hu_of hr
    refine ⟨_, PSs.nox (pss_cons (ps_set (i := 1) sc_law_bag.nd rfl (.inl rfl) pe_int)
      (pss_cons (ps_for PassesOwn.never rfl (pi_list (pe_slice (slL (K := K)) (pv 0) po_none (po_some pe_int))) (pg_name (i := 2) sc_law_bag.nd rfl (.inl rfl)) (pss_one (ps_set (i := 1) sc_law_bag.nd rfl (.inl rfl) (pe_op op_mod (pe_op op_add (pe_op op_add (pe_op op_mul (pv 1) pe_int) (pe_op op_mod (pv 2) pe_int)) pe_int) pe_int))))
      (pss_one (ps_ret (pe_lst (pa_cons (pe_lc (own := [("cell", 2)]) (g := gName 2) rfl sc_law_bag.nd (pi_list (pe_slice (slL (K := K)) (pv 0) po_none (po_some pe_int))) (blkOk_by (own := [("cell", 2)]) (N := ["script", "stir", "cell"]) (sc := defScope s_law_bag) (by decide +kernel)) (fun _ _ _ _ _ => pg_name (i := 2) sc_law_bag.nd rfl (Or.inl rfl)) (fun _ _ _ _ _ => pts_nil) (fun _ _ _ _ _ => (pe_op op_mod (pe_callB clAbs (by rfl) T.b_abs (by decide +kernel) (pa_cons (pv 2) pa_nil)) (pe_op op_pow pe_int pe_int)))) (pa_cons pe_int (pa_cons pe_int (pa_cons (pv 1) (pa_cons pe_int pa_nil)))))))))), ?_⟩
    rw [show start ["script", "stir", "cell"] [v0] = [some v0, none, none] from rfl]
    obtain ⟨a, ns, rfl, hS, hl, q⟩ := h
    walk_at "og"
    intro l nl
    rw [cut63 hl]
    refine ⟨l, rfl, ⟨_, sqL_of upd_same⟩, f_list (xs := ns.map V.int) (fun i σ H' => ∃ (st : Int) (y : Option V), σ = [some (.ref a), some (.int st), y] ∧ 0 ≤ st ∧ st < 2147483647 ∧ H' = upd H l (.lst (ns.map V.int))) ⟨19, none, rfl, by decide, by decide, rfl⟩ (fun i σ H' _ hp => ?_) (fun i x σ H' hx hp => ?_) (fun σ H' hp => ?_)⟩
    · obtain ⟨st, y, _, _, _, rfl⟩ := hp
      exact sqL_of upd_same
    · obtain ⟨st, y, rfl, s0, s1, rfl⟩ := hp
      obtain ⟨z, rfl⟩ := map_get hx
      walk_at "og"
      exact ⟨_, _, rfl, mod_nn (by decide), mod_lt (by decide), rfl⟩
    · obtain ⟨st, y, rfl, s0, s1, rfl⟩ := hp
      have hS2 : SqL K (upd H l (.lst (ns.map V.int))) a (ns.map V.int) := sqL_same (Same.new nl) hS
      walk_at "og"
      intro l2 nl2
      rw [cut63 hl]
      have g0 : Gr [] H H H (upd H l (.lst (ns.map V.int))) := .new (Same.refl H) nl
      have g1 := g0.add (o := .lst (ns.map V.int)) nl2
      refine ⟨l2, rfl, ⟨_, sqL_of upd_same⟩, fun D nD => ?_⟩
      have g2 := g1.addm (o := .lst []) nD
      refine lc_list (xs := ns.map V.int) (fun i H' => ∃ vs : List Int, Gr [] H H (upd H l2 (.lst (ns.map V.int))) H' ∧ Mu (upd H l2 (.lst (ns.map V.int))) H' D (.lst (vs.map V.int)) ∧ (∀ x ∈ vs, 0 ≤ x ∧ x < 10 ^ 60) ∧ vs.length = i) ⟨[], g2, Mu.new g1.fh nD, by simp, rfl⟩ (fun i H' _ hp => ?_) (fun i x H' hx hp => ?_) (fun H' hp => ?_)
      · obtain ⟨vs, g, _⟩ := hp
        exact sqL_same g.fh (sqL_of upd_same)
      · obtain ⟨vs, g, mu, hv, hn⟩ := hp
        obtain ⟨z, rfl⟩ := map_get hx
        have hi : i < ns.length := by
          have := (List.getElem?_eq_some_iff.mp hx).1
          rwa [List.length_map] at this
        show gName 2 _ [some (.ref a), some (.int st), none] H' _
        walk_at "og"
        refine ⟨rfl, ?_⟩
        walk_at "og"
        refine ⟨_, mu.h, small1000 (by rw [List.length_map]; omega), vs ++ [_], g.wrn mu.n (g1.fresh nD), by rw [List.map_append]; exact mu.wr, ?_, by simp [hn]⟩
        intro x hx
        rcases List.mem_append.mp hx with hx | hx
        · exact hv x hx
        · rw [List.mem_singleton.mp hx]
          exact ⟨mod_nn (by decide), mod_lt (by decide)⟩
      · obtain ⟨vs, g, mu, hv, hn⟩ := hp
        walk_at "og"
        refine ⟨le1000 (by simp), fun p np => ?_⟩
        have g5 := (g.frz (g1.fresh nD) mu).addm (o := .lst [.ref D, .int 0, .int 0, .int st, .int 0]) np
        refine q p _ _ g5 ⟨D, vs, 0, 0, st, 0, ?_, upd_same, sqL_of upd_same, by rw [hn, List.length_map]; exact hl, hv, by decide, by decide, by decide, s0, s1⟩
        have nF := g.fh.free np
        rw [upd_ne (mu.ne_new np).symm]
        exact nF
-- _law_stirred
theorem ok_law_stirred {f : Addr} {fd : FuncData} (F : FunD K "_law_stirred" "_law_stirred" (defArgs s_law_stirred) (defBody s_law_stirred) (defScope s_law_stirred) [] [] f fd) (T : Txt K mg)  : FnOk P w K mg base CX0 1 f fd ["bag", "many"] (S2 (φdraw K)) := by
  refine F.ok sc_law_stirred (fun vs H Q E h => ?_) (fun cdv A outer s H vs Q E hr h => ?_)
  · exact S2.len h
  · match vs, h with
    | [v0, v1], h =>
    have hu := hu_of hr
    refine ⟨_, PSs.nox (pss_cons (ps_set (i := 2) sc_law_stirred.nd rfl (.inl rfl) pe_int)
      (pss_cons (ps_for PassesOwn.never rfl (pi_range1 rfl T.b_range (pa_cons (pe_op op_add pe_int (pe_op op_fdivW (pe_bits (pv 1)) pe_int)) pa_nil)) (pg_name (i := 3) sc_law_stirred.nd rfl (.inl rfl)) (pss_cons (ps_asg (pe_op op_add (pe_ix (ixL (K := K)) (pv 0) pe_int (fun _ _ => rfl)) pe_int) (pg_sub (pv 0) pe_int set_list))
      (pss_cons (ps_asg (pe_op op_mod (pe_op op_add (pe_op op_add (pe_op op_add (pe_op op_pow (pe_ix (ixL (K := K)) (pv 0) pe_int (fun _ _ => rfl)) pe_int) (pe_op op_mul pe_int (pe_ix (ixL (K := K)) (pv 0) pe_int (fun _ _ => rfl)))) (pe_op op_mul pe_int (pe_ix (ixL (K := K)) (pv 0) pe_int (fun _ _ => rfl)))) pe_int) pe_int) (pg_sub (pv 0) pe_int set_list))
      (pss_one (ps_set (i := 2) sc_law_stirred.nd rfl (.inl rfl) (pe_op op_add (pe_op op_mul (pv 2) pe_int) (pe_op op_fdivW (pe_ix (ixL (K := K)) (pv 0) pe_int (fun _ _ => rfl)) pe_int)))))))
      (pss_one (ps_ret (pe_op op_mod (pv 2) (pv 1)))))), ?_⟩
    rw [show start ["bag", "many", "got", "k"] [v0, v1] = [some v0, some v1, none, none] from rfl]
    obtain ⟨b, m, F, rfl, rfl, hw, hb, h0, h1, q⟩ := h
    have hbits := bits_le h0 h1
    have hb0 : (0 : Int) ≤ (Builtin.Int.intBits m : Nat) := Int.natCast_nonneg _
    have hd0 : (0 : Int) ≤ (Builtin.Int.intBits m : Nat) / 27 := div_nn hb0 (by decide)
    have hd1 : (Builtin.Int.intBits m : Int) / 27 ≤ (Builtin.Int.intBits m : Nat) := div_le' hb0 (by decide)
    walk_at "og"
    refine ⟨_, rfl, by omega, by omega, f_range0 (fun i σ H' => ∃ (f : Int) (y : Option V) (F2 : Hp), σ = [some (.ref b), some (.int m), some (.int f), y] ∧ Gr [b] F H F2 H' ∧ Bag K F2 H' b) ⟨0, none, F, rfl, .refl hw, hb⟩ (fun i σ H' hi hp => ?_) (fun σ H' hp => ?_)⟩
    · obtain ⟨f, y, F2, rfl, g, hB⟩ := hp
      obtain ⟨c, cells, i1, cur, st, n, e1, e2, e3, e4, e5, e6, e7, e8, e9, e10⟩ := hB.ex
      walk_at "og"
      exact ⟨_, _, F2, rfl, (g.put e1 (by simp)).put e1 (by simp), ⟨c, cells, i1, cur, _, _, e1, upd_same, e3, e4, e5, e6, e7, e8, mod_nn (by decide), mod_lt (by decide)⟩⟩
    · obtain ⟨f, y, F2, rfl, g, hB⟩ := hp
      walk_at "og"
      exact q _ F2 H' g hB (mod_nn h0) (mod_lt h0)
-- _law_draw
theorem ok_law_draw {f : Addr} {fd : FuncData} (F : FunD K "_law_draw" "_law_draw" (defArgs s_law_draw) (defBody s_law_draw) (defScope s_law_draw) [] [] f fd) (T : Txt K mg) (D_law_stirred : DO P w K mg base 1 "_law_stirred" ["bag", "many"] [] (S2 (φdraw K))) : FnOk P w K mg base CX0 2 f fd ["bag", "many"] (S2 (φdraw K)) := by
  refine F.ok sc_law_draw (fun vs H Q E h => ?_) (fun cdv A outer s H vs Q E hr h => ?_)
  · exact S2.len h
  · match vs, h with
    | [v0, v1], h =>
    have hu := hu_of hr
    refine ⟨_, PSs.nox (pss_cons (ps_if (PW.pt (pw_and (pt_cmpR op_eq (pe_ix (ixL (K := K)) (pv 0) pe_int (fun _ _ => rfl)) pe_int (nomark _)) (pw_and1 (pt_cmpR op_lt (pe_ix (ixL (K := K)) (pv 0) pe_int (fun _ _ => rfl)) (pe_callB (clLenQ (K := K)) (by rfl) T.b_len (by decide +kernel) (pa_cons (pe_ix (ixL (K := K)) (pv 0) pe_int (fun _ _ => rfl)) pa_nil)) (nomark _))))) (pss_cons (ps_asg (pe_ix (ixL (K := K)) (pe_ix (ixL (K := K)) (pv 0) pe_int (fun _ _ => rfl)) (pe_ix (ixL (K := K)) (pv 0) pe_int (fun _ _ => rfl)) (fun _ _ => rfl)) (pg_sub (pv 0) pe_int set_list))
      (pss_one (ps_asg (pe_op op_add (pe_ix (ixL (K := K)) (pv 0) pe_int (fun _ _ => rfl)) pe_int) (pg_sub (pv 0) pe_int set_list)))) (pss_one (ps_if (pt_cmpR op_eq (pe_ix (ixL (K := K)) (pv 0) pe_int (fun _ _ => rfl)) pe_int (nomark _)) (pss_one (ps_ret (pcall D_law_stirred hr (pa_cons (pv 0) (pa_cons (pv 1) pa_nil))))) pss_nil)))
      (pss_cons (ps_set (i := 2) sc_law_draw.nd rfl (.inl rfl) (pe_op op_mod (pe_ix (ixL (K := K)) (pv 0) pe_int (fun _ _ => rfl)) (pv 1)))
      (pss_cons (ps_asg (pe_op op_fdivW (pe_ix (ixL (K := K)) (pv 0) pe_int (fun _ _ => rfl)) (pv 1)) (pg_sub (pv 0) pe_int set_list))
      (pss_one (ps_ret (pv 2)))))), ?_⟩
    rw [show start ["bag", "many", "got"] [v0, v1] = [some v0, some v1, none] from rfl]
    obtain ⟨b, m, F, rfl, rfl, hw, hb, h0, h1, q⟩ := h
    obtain ⟨c, cells, i1, cur, st, n, e1, e2, e3, e4, e5, e6, e7, e8, e9, e10⟩ := hb.ex
    have e3' := sqL_same hw e3
    have gr := Gr.refl (M := [b]) hw
    walk_at "og"
    refine w_ite (fun hc => ?_) (fun hc => ?_)
    · walk_at "og"
      refine w_ite (fun hd => ?_) (fun hd => ?_)
      · obtain ⟨x, hx, ex⟩ := cell_at e6 hd
        have bx := e5 x hx
        walk_at "og"
        refine w_ixL _ _ e3' ex ?_
        walk_at "og"
        exact q _ F _ (((gr.put e1 (by simp)).put e1 (by simp)).put e1 (by simp)) ⟨c, cells, i1 + 1, x / m, st, n, e1, upd_same, e3, e4, e5, by omega, div_nn bx.1 h0, Int.lt_of_le_of_lt (div_le' bx.1 h0) bx.2, e9, e10⟩ (mod_nn h0) (mod_lt h0)
      · walk_at "og"
        refine w_iteT hc ?_
        walk_at "og"
        exact ⟨b, m, F, rfl, rfl, hw, hb, h0, h1, q⟩
    · walk_at "og"
      refine w_iteF hc ?_
      walk_at "og"
      exact q _ F _ (gr.put e1 (by simp)) ⟨c, cells, i1, cur / m, st, n, e1, upd_same, e3, e4, e5, e6, div_nn e7 h0, Int.lt_of_le_of_lt (div_le' e7 h0) e8, e9, e10⟩ (mod_nn h0) (mod_lt h0)
-- _law_whole
theorem ok_law_whole {f : Addr} {fd : FuncData} (F : FunD K "_law_whole" "_law_whole" (defArgs s_law_whole) (defBody s_law_whole) (defScope s_law_whole) [] [] f fd) (T : Txt K mg)  : FnOk P w K mg base CX0 1 f fd ["got"] (S1 φwholeF) := by
  refine F.ok sc_law_whole (fun vs H Q E h => ?_) (fun cdv A outer s H vs Q E hr h => ?_)
  · exact S1.len h
  · match vs, h with
    | [v0], h =>
    have hu := hu_of hr
    refine ⟨_, PSs.nox (pss_one (ps_ret (pe_and (pe_callB (clIsi (K := K)) (by rfl) T.b_isinstance (by decide +kernel) (pa_cons (pv 0) (pa_cons (pe_bltn (v := .ty "int") (by rfl) T.b_int (by decide +kernel) rfl) pa_nil))) (pe_one (pe_not (pe_callB (clIsi (K := K)) (by rfl) T.b_isinstance (by decide +kernel) (pa_cons (pv 0) (pa_cons (pe_bltn (v := .ty "bool") (by rfl) T.b_bool (by decide +kernel) rfl) pa_nil)))))))), ?_⟩
    rw [show start ["got"] [v0] = [some v0] from rfl]
    obtain ⟨i, rfl, q⟩ := h
    walk_at "og"
    refine u_isi (F := H) (.int i) (Same.refl H) (k_int (.int i)) ?_
    walk_at "og"
    refine w_is (c := true) rfl ?_
    walk_at "og"
    refine u_isi (F := H) (.int i) (Same.refl H) (k_bool (.int i)) ?_
    walk_at "og"
    exact q
-- _law_sign
theorem ok_law_sign {f : Addr} {fd : FuncData} (F : FunD K "_law_sign" "_law_sign" (defArgs s_law_sign) (defBody s_law_sign) (defScope s_law_sign) [] [] f fd) (T : Txt K mg) (D_law_draw : DO P w K mg base 2 "_law_draw" ["bag", "many"] [] (S2 (φdraw K))) : FnOk P w K mg base CX0 3 f fd ["bag", "few"] (S2 (φsign K)) := by
  refine F.ok sc_law_sign (fun vs H Q E h => ?_) (fun cdv A outer s H vs Q E hr h => ?_)
  · exact S2.len h
  · match vs, h with
    | [v0, v1], h =>
    have hu := hu_of hr
    refine ⟨_, PSs.nox (pss_cons (ps_set (i := 2) sc_law_sign.nd rfl (.inl rfl) pe_str)
      (pss_one (ps_ret (pe_ifExp (pt_val (pv 1)) (pe_ix ix_str pe_str (pcall D_law_draw hr (pa_cons (pv 0) (pa_cons pe_int pa_nil))) (fun _ _ => rfl)) (pe_ix ix_str (pv 2) (pcall D_law_draw hr (pa_cons (pv 0) (pa_cons pe_int pa_nil))) (fun _ _ => rfl)))))), ?_⟩
    rw [show start ["bag", "few", "acts"] [v0, v1] = [some v0, some v1, none] from rfl]
    obtain ⟨b, f, F, rfl, rfl, hw, hb, q⟩ := h
    walk_at "og"
    refine w_iteb (fun hf => ?_) (fun hf => ?_)
    · walk_at "og"
      refine d_draw (Gr.refl (M := [b]) hw) hb (by decide) (by decide) fun r F2 H2 g _ hb2 r0 r1 => ?_
      walk_at "og"
      exact w_ixL1 (n := 2) (by decide +kernel) (by decide +kernel) (by decide +kernel) r0 r1 fun s hs oks => q s F2 H2 g hb2 hs oks
    · walk_at "og"
      refine d_draw (Gr.refl (M := [b]) hw) hb (by decide) (by decide) fun r F2 H2 g _ hb2 r0 r1 => ?_
      walk_at "og"
      exact w_ixL1 (n := 93) (by decide +kernel) (by decide +kernel) (by decide +kernel) r0 r1 fun s hs oks => q s F2 H2 g hb2 hs oks
-- _law_text
theorem ok_law_text {f : Addr} {fd : FuncData} (F : FunD K "_law_text" "_law_text" (defArgs s_law_text) (defBody s_law_text) (defScope s_law_text) [] [] f fd) (T : Txt K mg) (D_law_sign : DO P w K mg base 3 "_law_sign" ["bag", "few"] [] (S2 (φsign K))) : FnOk P w K mg base CX0 4 f fd ["bag", "few", "many"] (S3 (φtext K)) := by
  refine F.ok sc_law_text (fun vs H Q E h => ?_) (fun cdv A outer s H vs Q E hr h => ?_)
  · exact S3.len h
  · match vs, h with
    | [v0, v1, v2], h =>
    have hu := hu_of hr
    refine ⟨_, PSs.nox (pss_one (ps_ret (peJoin (K := K) pe_str (pe_lc (own := [("k", 3)]) (g := gName 3) rfl sc_law_text.nd (pi_range1 rfl T.b_range (pa_cons (pv 2) pa_nil)) (blkOk_by (own := [("k", 3)]) (N := ["bag", "few", "many", "k"]) (sc := defScope s_law_text) (by decide +kernel)) (fun _ _ _ _ _ => pg_name (i := 3) sc_law_text.nd rfl (Or.inl rfl)) (fun _ _ _ _ _ => pts_nil) (fun _ _ _ _ _ => (pcall D_law_sign hr (pa_cons (pv 0) (pa_cons (pv 1) pa_nil)))))))), ?_⟩
    rw [show start ["bag", "few", "many", "k"] [v0, v1, v2] = [some v0, some v1, some v2, none] from rfl]
    obtain ⟨b, f, n, F, rfl, rfl, rfl, hw, hb, n0, n1, q⟩ := h
    walk_at "og"
    refine ⟨_, rfl, by omega, by omega, fun D nD => ?_⟩
    have g1 : Gr [b] F H F (upd H D (.lst [])) := .new hw nD
    refine lc_rng (fun i H' => ∃ (F2 : Hp) (ys : List Str), Gr [b] F H F2 H' ∧ Bag K F2 H' b ∧ Mu F2 H' D (.lst (ys.map V.str)) ∧ ys.length = i ∧ ∀ y ∈ ys, y.length = 1 ∧ okS y) ⟨F, [], g1, hb.addm nD, Mu.new hw nD, rfl, by simp⟩ (fun i H' hi hp => ?_) (fun H' hp => ?_)
    · obtain ⟨F2, ys, g, hb2, mu, hl, hy⟩ := hp
      walk_at "owp"
      walk_at "og"
      refine ⟨rfl, ?_⟩
      walk_at "og"
      refine ⟨b, f, F2, rfl, rfl, g.fh, hb2, fun s F3 H3 g3 hb3 hs oks => ?_⟩
      have mu3 := g3.mu mu (by simp; exact (hb.ne_new nD).symm)
      refine ⟨_, mu3.h, small_lt (by rw [List.length_map]; omega), F3, ys ++ [s], (g.trans g3).wrn mu3.n nD, hb3.put (hb.ne_new nD), by rw [List.map_append]; exact mu3.wr, by simp [hl], ?_⟩
      intro y hy'
      rcases List.mem_append.mp hy' with h | h
      · exact hy y h
      · rw [List.mem_singleton.mp h]
        exact ⟨hs, oks⟩
    · obtain ⟨F2, ys, g, hb2, mu, hl, hy⟩ := hp
      walk_at "og"
      refine ⟨_, D, ys, rfl, rfl, .inl mu.sq, ?_, ?_⟩
      · rw [sum_ones ys hy]
        show ys.length + ys.length * 0 ≤ 16777216
        omega
      · obtain ⟨j1, j2⟩ := joined ys hy
        exact q _ F2 H' g hb2 (by
          show (((Txt.join ⟨#[]⟩ ys).length : Nat) : Int) = n
          rw [j1, hl]
          omega) j2
-- _law_any_row
theorem ok_law_any_row {f : Addr} {fd : FuncData} (F : FunD K "_law_any_row" "_law_any_row" (defArgs s_law_any_row) (defBody s_law_any_row) (defScope s_law_any_row) [] [] f fd) (T : Txt K mg) (D_law_draw : DO P w K mg base 2 "_law_draw" ["bag", "many"] [] (S2 (φdraw K))) (D_law_text : DO P w K mg base 4 "_law_text" ["bag", "few", "many"] [] (S3 (φtext K))) : FnOk P w K mg base CX0 5 f fd ["bag", "has", "few", "wide"] (S4 (φany_rowS K)) := by
  refine F.ok sc_law_any_row (fun vs H Q E h => ?_) (fun cdv A outer s H vs Q E hr h => ?_)
  · exact S4.len h
  · match vs, h with
    | [v0, v1, v2, v3], h =>
    have hu := hu_of hr
    refine ⟨_, PSs.nox (pss_cons (ps_set (i := 4) sc_law_any_row.nd rfl (.inl rfl) (pcall D_law_draw hr (pa_cons (pv 0) (pa_cons pe_int pa_nil))))
      (pss_cons (ps_set (i := 5) sc_law_any_row.nd rfl (.inl rfl) (pe_ix (ixL (K := K)) (pv 1) (pe_callTy clInt1 (by rfl) T.b_int (by decide +kernel) (pa_cons (pe_cmpR op_eq (pv 4) pe_int (nomark _)) pa_nil)) (fun _ _ => rfl)))
      (pss_cons (ps_set (i := 6) sc_law_any_row.nd rfl (.inl rfl) (pe_ix (ixL (K := K)) (pv 1) (pe_callTy clInt1 (by rfl) T.b_int (by decide +kernel) (pa_cons (pe_cmpR op_eq (pv 4) pe_int (nomark _)) pa_nil)) (fun _ _ => rfl)))
      (pss_cons (ps_if (PW.pt (pw_or (pt_cmpR (opEqD (K := K) hr.units) (pv 5) (pe_lst pa_nil) (nomark _)) (pw_or1 (pt_cmpR (opEqD (K := K) hr.units) (pv 6) (pe_lst pa_nil) (nomark _))))) (pss_one (ps_ret pe_non)) pss_nil)
      (pss_cons (ps_set (i := 7) sc_law_any_row.nd rfl (.inl rfl) (pcall D_law_draw hr (pa_cons (pv 0) (pa_cons (pe_callB (clLenQ (K := K)) (by rfl) T.b_len (by decide +kernel) (pa_cons (pv 5) pa_nil)) pa_nil))))
      (pss_cons (ps_set (i := 8) sc_law_any_row.nd rfl (.inl rfl) (pcall D_law_draw hr (pa_cons (pv 0) (pa_cons (pe_callB (clLenQ (K := K)) (by rfl) T.b_len (by decide +kernel) (pa_cons (pv 6) pa_nil)) pa_nil))))
      (pss_cons (ps_set (i := 9) sc_law_any_row.nd rfl (.inl rfl) (pe_callB clMin2 (by rfl) T.b_min (by decide +kernel) (pa_cons (pv 3) (pa_cons (pe_op op_sub (pe_callB (clLenQ (K := K)) (by rfl) T.b_len (by decide +kernel) (pa_cons (pv 5) pa_nil)) (pv 7)) pa_nil))))
      (C8.pss_cut (ps_if (pt_cmpR op_gt (pv 4) pe_int (nomark _)) (pss_cons (ps_set (i := 10) sc_law_any_row.nd rfl (.inl rfl) pe_int)
      (pss_cons (ps_while PassesOwn.never (PW.pt (pw_and (pt_cmpR op_lt (pv 10) (pv 9) (nomark _)) (pw_and (pt_cmpR op_lt (pe_op op_add (pv 8) (pv 10)) (pe_callB (clLenQ (K := K)) (by rfl) T.b_len (by decide +kernel) (pa_cons (pv 6) pa_nil)) (nomark _)) (pw_and1 (pt_val (pe_ix (ixL (K := K)) (pv 6) (pe_op op_add (pv 8) (pv 10)) (fun _ _ => rfl))))))) (pss_one (ps_set (i := 10) sc_law_any_row.nd rfl (.inl rfl) (pe_op op_add (pv 10) pe_int))))
      (pss_one (ps_set (i := 9) sc_law_any_row.nd rfl (.inl rfl) (pv 10))))) pss_nil)
      (C8.pss_cut (ps_if (PW.pt (pw_or (pt_cmpR op_eq (pv 9) pe_int (nomark _)) (pw_or1 (PW.pt (pw_and (pt_cmpR op_eq (pv 4) pe_int (nomark _)) (pw_and1 (pt_cmpR op_eq (pv 8) (pv 7) (nomark _)))))))) (pss_one (ps_ret pe_non)) pss_nil)
      (pss_cons (ps_set (i := 9) sc_law_any_row.nd rfl (.inl rfl) (pe_op op_add pe_int (pcall D_law_draw hr (pa_cons (pv 0) (pa_cons (pv 9) pa_nil)))))
      (pss_cons (ps_for PassesOwn.never rfl (pi_range1 rfl T.b_range (pa_cons (pv 9) pa_nil)) (pg_name (i := 11) sc_law_any_row.nd rfl (.inl rfl)) (pss_one (ps_asg pe_bl (pg_sub (pv 5) (pe_op op_add (pv 7) (pv 11)) set_list))))
      (pss_cons (ps_if (pt_cmpR op_eq (pv 4) pe_int (nomark _)) (pss_one (ps_ret (pe_tup (pa_cons pe_str (pa_cons (pv 7) (pa_cons (pcall D_law_text hr (pa_cons (pv 0) (pa_cons (pv 2) (pa_cons (pv 9) pa_nil)))) pa_nil)))))) pss_nil)
      (pss_one (ps_ret (pe_tup (pa_cons (pe_ix (ixL (K := K)) (pe_lst (pa_cons pe_str (pa_cons pe_str (pa_cons pe_str pa_nil)))) (pe_op op_sub (pv 4) pe_int) (fun _ _ => rfl)) (pa_cons (pv 7) (pa_cons (pv 8) (pa_cons (pv 9) pa_nil))))))))))))))))))), ?_⟩
    rw [show start ["bag", "has", "few", "wide", "kind", "target", "source", "to", "at", "many", "run", "k"] [v0, v1, v2, v3] = [some v0, some v1, some v2, some v3, none, none, none, none, none, none, none, none] from rfl]
    obtain ⟨b, hd, t0, t1, b0, b1, f, wd, F, rfl, rfl, rfl, rfl, hw, hb, hh, h0, h1, ne01, nb0, nb1, l0, l1, wd0, wd1, q⟩ := h
    have M0 : t0 ∉ [b] := by simp; exact fun z => nb0 z.symm
    have M1 : t1 ∉ [b] := by simp; exact fun z => nb1 z.symm
    walk_at "og"
    refine d_draw (Gr.refl (M := [b, t0, t1]) hw) hb (by decide) (by decide) fun kind F1 H1 g g1 hb k0 k1 => ?_
    replace h0 := g1.mu h0 M0
    replace h1 := g1.mu h1 M1
    walk_at "og"
    obtain ⟨tt, bt, ht, et⟩ : ∃ tt bt, (kind ≠ 2 ∧ tt = t0 ∧ bt = b0 ∨ kind = 2 ∧ tt = t1 ∧ bt = b1) ∧ atI [V.ref t0, V.ref t1] (if decide (kind = 2) = true then 1 else 0) = some (.ref tt) := by
      by_cases hk : kind = 2
      · exact ⟨t1, b1, .inr ⟨hk, rfl, rfl⟩, by rw [if_pos (decide_eq_true hk)]; rfl⟩
      · exact ⟨t0, b0, .inl ⟨hk, rfl, rfl⟩, by rw [if_neg (by simpa using hk)]; rfl⟩
    refine w_ixL _ _ (sqL_same g.ws hh) et ?_
    walk_at "og"
    obtain ⟨ss, bs, hs, es⟩ : ∃ ss bs, (kind ≠ 3 ∧ ss = t0 ∧ bs = b0 ∨ kind = 3 ∧ ss = t1 ∧ bs = b1) ∧ atI [V.ref t0, V.ref t1] (if decide (kind = 3) = true then 1 else 0) = some (.ref ss) := by
      by_cases hk : kind = 3
      · exact ⟨t1, b1, .inr ⟨hk, rfl, rfl⟩, by rw [if_pos (decide_eq_true hk)]; rfl⟩
      · exact ⟨t0, b0, .inl ⟨hk, rfl, rfl⟩, by rw [if_neg (by simpa using hk)]; rfl⟩
    refine w_ixL _ _ (sqL_same g.ws hh) es ?_
    walk_at "og"
    refine ⟨le1000 (by simp), fun p np => ?_⟩
    replace g := g.addm (o := .lst []) np
    replace hb := hb.addm (u := .lst []) np
    replace h0 := h0.addm (u := .lst []) np
    replace h1 := h1.addm (u := .lst []) np
    have mt : Mu F1 (upd H1 p (.lst [])) tt (.lst (bt.map V.bl)) := by rcases ht with ⟨_, rfl, rfl⟩ | ⟨_, rfl, rfl⟩ <;> assumption
    have mss : Mu F1 (upd H1 p (.lst [])) ss (.lst (bs.map V.bl)) := by rcases hs with ⟨_, rfl, rfl⟩ | ⟨_, rfl, rfl⟩ <;> assumption
    have ln : bt.length ≤ 1000 := by rcases ht with ⟨_, _, rfl⟩ | ⟨_, _, rfl⟩ <;> assumption
    have lm : bs.length ≤ 1000 := by rcases hs with ⟨_, _, rfl⟩ | ⟨_, _, rfl⟩ <;> assumption
    refine u_emp mt.sq (sqL_of upd_same) (by omega) ?_
    walk_at "og"
    refine w_ite (fun hc => ?_) (fun hc => ?_)
    · walk_at "og"
      exact q _ _ _ (b0, b1) g hb h0 h1 (.inl ⟨rfl, rfl⟩)
    walk_at "og"
    refine ⟨le1000 (by simp), fun p2 np2 => ?_⟩
    replace g := g.addm (o := .lst []) np2
    replace hb := hb.addm (u := .lst []) np2
    replace h0 := h0.addm (u := .lst []) np2
    replace h1 := h1.addm (u := .lst []) np2
    replace mt := mt.addm (u := .lst []) np2
    replace mss := mss.addm (u := .lst []) np2
    refine u_emp mss.sq (sqL_of upd_same) (by omega) ?_
    walk_at "og"
    refine w_ite (fun hc2 => ?_) (fun hc2 => ?_)
    · walk_at "og"
      exact q _ _ _ (b0, b1) g hb h0 h1 (.inl ⟨rfl, rfl⟩)
    have MT : tt ∉ [b] := by rcases ht with ⟨_, rfl, _⟩ | ⟨_, rfl, _⟩ <;> assumption
    have MS : ss ∉ [b] := by rcases hs with ⟨_, rfl, _⟩ | ⟨_, rfl, _⟩ <;> assumption
    walk_at "og"
    rw [List.length_map]
    refine d_draw g hb (by omega) (by omega) fun to F2 H2 g g1 hb to0 to1 => ?_
    replace h0 := g1.mu h0 M0
    replace h1 := g1.mu h1 M1
    replace mt := g1.mu mt MT
    replace mss := g1.mu mss MS
    walk_at "og"
    rw [List.length_map]
    refine d_draw g hb (by omega) (by omega) fun at_ F3 H3 g g1 hb at0 at1 => ?_
    replace h0 := g1.mu h0 M0
    replace h1 := g1.mu h1 M1
    replace mt := g1.mu mt MT
    replace mss := g1.mu mss MS
    walk_at "og"
    rw [List.length_map]
    generalize hm0 : (if (bt.length : Int) - to < wd then (bt.length : Int) - to else wd) = many0
    have hm1 : 0 ≤ many0 ∧ many0 ≤ wd ∧ many0 ≤ (bt.length : Int) - to := by
      rw [← hm0]
      split <;> omega
    refine w_cut (fun σ H' => ∃ (many : Int) (y : Option V), σ = [some (.ref b), some (.ref hd), some (.bl f), some (.int wd), some (.int kind), some (.ref tt), some (.ref ss), some (.int to), some (.int at_), some (.int many), y, none] ∧ 0 ≤ many ∧ many ≤ many0 ∧ (0 < kind → ∀ k, k < many.toNat → bs[at_.toNat + k]? = some true) ∧ H' = H3) ?_ (fun σ H' hp => ?_)
    · walk_at "og"
      refine w_ite (fun hk => ?_) (fun hk => ?_)
      · walk_at "og"
        refine w_while (fun m σ H' => ∃ run : Int, σ = [some (.ref b), some (.ref hd), some (.bl f), some (.int wd), some (.int kind), some (.ref tt), some (.ref ss), some (.int to), some (.int at_), some (.int many0), some (.int run), none] ∧ 0 ≤ run ∧ run ≤ many0 ∧ m = (many0 - run).toNat ∧ (∀ k, k < run.toNat → bs[at_.toNat + k]? = some true) ∧ H' = H3) ⟨0, rfl, by omega, by omega, rfl, fun k hk => absurd hk (Nat.not_lt_zero k), rfl⟩ (fun m σ H' hp => ?_)
        obtain ⟨run, rfl, r0, r1, rfl, hrun, rfl⟩ := hp
        walk_at "og"
        refine w_ite (fun hr => ?_) (fun hr => ?_)
        · walk_at "og"
          rw [List.length_map]
          refine w_ite (fun hr2 => ?_) (fun hr2 => ?_)
          · walk_at "og"
            have hj : (at_ + run).toNat < bs.length := by omega
            refine w_ixL _ _ mss.sq (at_of (j := (at_ + run).toNat) (v := .bl bs[(at_ + run).toNat]) (by omega) (by rw [List.getElem?_map, List.getElem?_eq_getElem hj]; rfl)) ?_
            walk_at "og"
            refine w_iteb (fun hx => ?_) (fun hx => ?_)
            · refine w_turn ?_
              walk_at "og"
              refine ⟨_, by omega, run + 1, rfl, by omega, by omega, rfl, fun k hk => ?_, rfl⟩
              by_cases hkr : k < run.toNat
              · exact hrun k hkr
              · have ek : at_.toNat + k = (at_ + run).toNat := by omega
                rw [ek, List.getElem?_eq_getElem hj, hx]
            · walk_at "og"
              exact ⟨run, _, rfl, r0, r1, fun _ => hrun, rfl⟩
          · walk_at "og"
            exact ⟨run, _, rfl, r0, r1, fun _ => hrun, rfl⟩
        · walk_at "og"
          exact ⟨run, _, rfl, r0, r1, fun _ => hrun, rfl⟩
      · walk_at "og"
        exact ⟨many0, _, rfl, hm1.1, Int.le_refl _, fun z => absurd z hk, rfl⟩
    · obtain ⟨many, y, rfl, mm0, mm1, hseen, eH⟩ := hp
      subst eH
      refine w_cut (fun σ H5 => many ≠ 0 ∧ σ = [some (.ref b), some (.ref hd), some (.bl f), some (.int wd), some (.int kind), some (.ref tt), some (.ref ss), some (.int to), some (.int at_), some (.int many), y, none] ∧ H5 = H') ?_ (fun σ H5 hp => ?_)
      · walk_at "og"
        refine w_ite (fun hz => ?_) (fun hz => ?_)
        · walk_at "og"
          exact q _ _ _ (b0, b1) g hb h0 h1 (.inl ⟨rfl, rfl⟩)
        · walk_at "og"
          refine w_ite (fun hz2 => ?_) (fun hz2 => ?_)
          · walk_at "og"
            refine w_ite (fun _ => ?_) (fun _ => ?_)
            · walk_at "og"
              exact q _ _ _ (b0, b1) g hb h0 h1 (.inl ⟨rfl, rfl⟩)
            · walk_at "og"
              exact ⟨hz, rfl, rfl⟩
          · walk_at "og"
            exact ⟨hz, rfl, rfl⟩
      obtain ⟨hm, rfl, rfl⟩ := hp
      walk_at "og"
      refine d_draw g hb (by omega) (by omega) fun r F4 H4 g g1 hb r0 r1 => ?_
      replace h0 := g1.mu h0 M0
      replace h1 := g1.mu h1 M1
      have mem : tt ∈ [b, t0, t1] := by rcases ht with ⟨_, rfl, _⟩ | ⟨_, rfl, _⟩ <;> simp
      have nbt : b ≠ tt := by rcases ht with ⟨_, rfl, _⟩ | ⟨_, rfl, _⟩ <;> assumption
      obtain ⟨oo, bo, nto, ho, mo⟩ : ∃ oo bo, tt ≠ oo ∧ (kind ≠ 2 ∧ oo = t1 ∧ bo = b1 ∨ kind = 2 ∧ oo = t0 ∧ bo = b0) ∧ Mu F4 H4 oo (.lst (bo.map V.bl)) := by
        rcases ht with ⟨hk, rfl, rfl⟩ | ⟨hk, rfl, rfl⟩
        · exact ⟨t1, b1, ne01, .inl ⟨hk, rfl, rfl⟩, h1⟩
        · exact ⟨t0, b0, ne01.symm, .inr ⟨hk, rfl, rfl⟩, h0⟩
      have mt4 : Mu F4 H4 tt (.lst (bt.map V.bl)) := by rcases ht with ⟨_, rfl, rfl⟩ | ⟨_, rfl, rfl⟩ <;> assumption
      clear h0 h1 mt mss
      walk_at "og"
      refine ⟨_, rfl, by omega, by omega, f_range0 (fun i σ H' => ∃ y11, σ = [some (.ref b), some (.ref hd), some (.bl f), some (.int wd), some (.int kind), some (.ref tt), some (.ref ss), some (.int to), some (.int at_), some (.int (1 + r)), y, y11] ∧ Gr [b, t0, t1] F H F4 H' ∧ Bag K F4 H' b ∧ Mu F4 H' tt (.lst ((setT bt to.toNat i).map V.bl)) ∧ Mu F4 H' oo (.lst (bo.map V.bl))) ⟨none, rfl, g, hb, mt4, mo⟩ (fun i σ H' hi hp => ?_) (fun σ H' hp => ?_)⟩
      · obtain ⟨y11, rfl, g, hb, mc, mo⟩ := hp
        walk_at "og"
        refine w_setL _ _ mc.h (ixN_in (by omega) (by rw [List.length_map, putN_len]; omega)) ?_
        refine ⟨_, rfl, g.put mc.n mem, hb.put nbt, ?_, mo.oth nto.symm⟩
        rw [show (setT bt to.toNat (i + 1)).map V.bl = ((setT bt to.toNat i).map V.bl).set (to + (i : Int)).toNat (V.bl true) by
          show ((setT bt to.toNat i).set (to.toNat + i) true).map V.bl = _
          rw [List.map_set, show (to + (i : Int)).toNat = to.toNat + i by omega]]
        exact mc.wr
      · obtain ⟨y11, rfl, g, hb, mc, mo⟩ := hp
        obtain ⟨c, h0, h1, hc⟩ : ∃ c : List Bool × List Bool, Mu F4 H' t0 (.lst (c.1.map V.bl)) ∧ Mu F4 H' t1 (.lst (c.2.map V.bl)) ∧ ((kind ≠ 2 ∧ c = (setT b0 to.toNat (1 + r).toNat, b1)) ∨ (kind = 2 ∧ c = (b0, setT b1 to.toNat (1 + r).toNat))) := by
          rcases ht with ⟨hk, rfl, rfl⟩ | ⟨hk, rfl, rfl⟩
          · rcases ho with ⟨_, rfl, rfl⟩ | ⟨hk2, _⟩
            · exact ⟨_, mc, mo, .inl ⟨hk, rfl⟩⟩
            · exact absurd hk2 hk
          · rcases ho with ⟨hk2, _⟩ | ⟨_, rfl, rfl⟩
            · exact absurd hk hk2
            · exact ⟨_, mo, mc, .inr ⟨hk, rfl⟩⟩
        clear mc mo
        walk_at "og"
        refine w_ite (fun hk => ?_) (fun hk => ?_)
        · walk_at "og"
          refine ⟨b, f, 1 + r, F4, rfl, rfl, rfl, g.fh, hb, by omega, by omega, fun s F5 H5 g5 hb5 hs5 oks => ?_⟩
          have g6 : Gr [b, t0, t1] F H F5 H5 := g.trans (g5.sub (by simp))
          walk_at "og"
          refine ⟨le1000 (by simp), fun p np => ?_⟩
          rcases hc with ⟨_, rfl⟩ | ⟨z, _⟩
          · refine q _ _ _ _ (g6.add np) (hb5.add g5.fh np) ((g5.mu h0 M0).add np) ((g5.mu h1 M1).add np) (.inr ⟨.put to s, .tup (sqT_of upd_same) (.cons (.str _) (.cons (.int _) (.cons (.str _) .nil))), ⟨oks, by omega⟩, by show ((s.length : Nat) : Int) ≤ wd; omega, ⟨by omega, ?_⟩, ?_⟩)
            · rcases ht with ⟨_, rfl, rfl⟩ | ⟨z, _⟩
              · show to.toNat + s.length ≤ bt.length
                omega
              · omega
            · show _ = (setT b0 to.toNat s.length, b1)
              rw [show s.length = (1 + r).toNat by omega]
          · omega
        · walk_at "og"
          refine ⟨le1000 (by simp), fun p np => ?_⟩
          replace g := g.addm (o := .lst [.str "copy", .str "keep", .str "lay"]) np
          replace hb := hb.addm (u := .lst [.str "copy", .str "keep", .str "lay"]) np
          replace h0 := h0.addm (u := .lst [.str "copy", .str "keep", .str "lay"]) np
          replace h1 := h1.addm (u := .lst [.str "copy", .str "keep", .str "lay"]) np
          obtain ⟨w, hw1, ew⟩ : ∃ w : Wd, ((w = .copy ∧ kind = 1) ∨ (w = .keep ∧ kind = 2) ∨ (w = .lay ∧ kind = 3)) ∧ atI [V.str "copy", V.str "keep", V.str "lay"] (kind - 1) = some (.str w.s) := by
            by_cases e1 : kind = 1
            · exact ⟨.copy, .inl ⟨rfl, e1⟩, by rw [e1]; rfl⟩
            · by_cases e2 : kind = 2
              · exact ⟨.keep, .inr (.inl ⟨rfl, e2⟩), by rw [e2]; rfl⟩
              · have e3 : kind = 3 := by omega
                exact ⟨.lay, .inr (.inr ⟨rfl, e3⟩), by rw [e3]; rfl⟩
          walk_at "og"
          refine w_ixL _ _ (sqL_of upd_same) ew ?_
          walk_at "og"
          refine ⟨le1000 (by simp), fun p2 np2 => ?_⟩
          refine q _ _ _ _ (g.add np2) (hb.add g.fh np2) (h0.add np2) (h1.add np2) (.inr ⟨.mv w to at_ (1 + r), .tup (sqT_of upd_same) (.cons (.str _) (.cons (.int _) (.cons (.int _) (.cons (.int _) .nil)))), ⟨by omega, by omega⟩, by show (((1 + r).toNat : Nat) : Int) ≤ wd; omega, ⟨by omega, by omega, by omega, ?_, fun k hk2 => ?_⟩, ?_⟩)
          · have e : w.tgt (b0, b1) = bt := by
              rcases hw1 with ⟨rfl, e⟩ | ⟨rfl, e⟩ | ⟨rfl, e⟩ <;> rcases ht with ⟨z, _, rfl⟩ | ⟨z, _, rfl⟩ <;> first | rfl | omega
            rw [e]
            omega
          · have e : w.from_ (b0, b1) = bs := by
              rcases hw1 with ⟨rfl, e⟩ | ⟨rfl, e⟩ | ⟨rfl, e⟩ <;> rcases hs with ⟨z, _, rfl⟩ | ⟨z, _, rfl⟩ <;> first | rfl | omega
            rw [e]
            exact hseen (by omega) k (by omega)
          · rcases hw1 with ⟨rfl, e⟩ | ⟨rfl, e⟩ | ⟨rfl, e⟩ <;> rcases hc with ⟨z, rfl⟩ | ⟨z, rfl⟩ <;> first | rfl | omega
-- _law_any_plan
theorem ok_law_any_plan {f : Addr} {fd : FuncData} (F : FunD K "_law_any_plan" "_law_any_plan" (defArgs s_law_any_plan) (defBody s_law_any_plan) (defScope s_law_any_plan) [.int 1500] [] f fd) (T : Txt K mg) (D_law_any_row : DO P w K mg base 5 "_law_any_row" ["bag", "has", "few", "wide"] [] (S4 (φany_rowS K))) (D_law_draw : DO P w K mg base 2 "_law_draw" ["bag", "many"] [] (S2 (φdraw K))) (D_law_sign : DO P w K mg base 3 "_law_sign" ["bag", "few"] [] (S2 (φsign K))) : FnOk P w K mg base CX0 6 f fd ["bag", "n", "big", "slots", "rows", "few", "most"] (S7 (φany_planS K)) := by
  refine F.ok sc_law_any_plan (fun vs H Q E h => ?_) (fun cdv A outer s H vs Q E hr h => ?_)
  · exact S7.len h
  · match vs, h with
    | [v0, v1, v2, v3, v4, v5, v6], h =>
    have hu := hu_of hr
    refine ⟨_, PSs.nox (pss_cons (ps_set (i := 7) sc_law_any_plan.nd rfl (.inl rfl) (pe_ix (ixL (K := K)) (pe_lst (pa_cons pe_int (pa_cons pe_int (pa_cons pe_int (pa_cons pe_int pa_nil))))) (pcall D_law_draw hr (pa_cons (pv 0) (pa_cons pe_int pa_nil))) (fun _ _ => rfl)))
      (pss_cons (ps_set (i := 8) sc_law_any_plan.nd rfl (.inl rfl) (pe_lst (pa_cons (pe_op op_cat (pe_op op_rep (pe_lst (pa_cons pe_bl pa_nil)) (pv 1)) (pe_op op_rep (pe_lst (pa_cons pe_bl pa_nil)) (pe_op op_sub (pv 2) (pv 1)))) (pa_cons (pe_op op_rep (pe_lst (pa_cons pe_bl pa_nil)) (pv 3)) pa_nil))))
      (pss_cons (ps_set (i := 9) sc_law_any_plan.nd rfl (.inl rfl) (pe_lst pa_nil))
      (pss_cons (ps_set (i := 10) sc_law_any_plan.nd rfl (.inl rfl) (pv 6))
      (pss_cons (ps_for PassesOwn.never rfl (pi_range1 rfl T.b_range (pa_cons (pv 4) pa_nil)) (pg_name (i := 11) sc_law_any_plan.nd rfl (.inl rfl)) (C8.pss_cut (ps_set (i := 12) sc_law_any_plan.nd rfl (.inl rfl) (pe_ifExp (pt_cmpR op_gt (pv 10) pe_int (nomark _)) (pcall D_law_any_row hr (pa_cons (pv 0) (pa_cons (pv 8) (pa_cons (pv 5) (pa_cons (pe_callB clMin2 (by rfl) T.b_min (by decide +kernel) (pa_cons (pv 7) (pa_cons (pv 10) pa_nil))) pa_nil))))) pe_non))
      (pss_one (ps_if (pt_cmp (pc_notN (pv 12)) (by rfl)) (pss_cons (ps_expr (peBM (K := K) PySem.F.plainAttrs_list PySem.F.slot_list_append PySem.F.type_list_append mt_append (pv 9) (pa_cons (pv 12) pa_nil)))
      (pss_one (ps_set (i := 10) sc_law_any_plan.nd rfl (.inl rfl) (pe_op op_sub (pv 10) (pe_ifExp (pt_cmpR op_eq (pe_ix (ixT (K := K)) (pv 12) pe_int (fun _ _ => rfl)) pe_str (nomark _)) (pe_callB clLenS (by rfl) T.b_len (by decide +kernel) (pa_cons (pe_ix (ixT (K := K)) (pv 12) pe_int (fun _ _ => rfl)) pa_nil)) (pe_ix (ixT (K := K)) (pv 12) pe_int (fun _ _ => rfl))))))) pss_nil))))
      (pss_cons (ps_for PassesOwn.never rfl (pi_range1 rfl T.b_range (pa_cons (pv 2) pa_nil)) (pg_name (i := 13) sc_law_any_plan.nd rfl (.inl rfl)) (pss_one (ps_if (pt_not (pt_val (pe_ix (ixL (K := K)) (pe_ix (ixL (K := K)) (pv 8) pe_int (fun _ _ => rfl)) (pv 13) (fun _ _ => rfl)))) (pss_one (ps_expr (peBM (K := K) PySem.F.plainAttrs_list PySem.F.slot_list_append PySem.F.type_list_append mt_append (pv 9) (pa_cons (pe_tup (pa_cons pe_str (pa_cons (pv 13) (pa_cons (pcall D_law_sign hr (pa_cons (pv 0) (pa_cons (pv 5) pa_nil))) pa_nil)))) pa_nil)))) pss_nil)))
      (pss_one (ps_ret (pv 9))))))))), ?_⟩
    rw [show start ["bag", "n", "big", "slots", "rows", "few", "most", "wide", "has", "deeds", "left", "k", "row", "place"] [v0, v1, v2, v3, v4, v5, v6] = [some v0, some v1, some v2, some v3, some v4, some v5, some v6, none, none, none, none, none, none, none] from rfl]
    obtain ⟨b, n, big, slots, rows, most, f, F, rfl, rfl, rfl, rfl, rfl, rfl, rfl, hw, hb, n0, n1, b1, s0, s1, r0, r1, mo0, mo1, q⟩ := h
    walk_at "og"
    refine ⟨le1000 (by simp), fun p np => ?_⟩
    have g0 := (Gr.refl (M := [b]) hw).add (o := .lst ([1, 2, 5, 400].map V.int)) np
    replace hb := hb.add (u := .lst ([1, 2, 5, 400].map V.int)) hw np
    walk_at "og"
    refine d_draw g0 hb (by decide) (by decide) fun wi F1 H1 g g1 hb w0 w1 => ?_
    obtain ⟨wd, ewd, wd0, wd1⟩ := pick_ix (ns := [1, 2, 5, 400]) (lo := 1) (hi := 400) w0 w1 (by decide)
    walk_at "og"
    refine w_ixL _ _ (sqL_same g1.ws (sqL_of upd_same)) ewd ?_
    walk_at "og"
    refine ⟨le1000 (by simp), fun p1 np1 => ?_⟩
    have np10 := g.fresh np1
    replace hb := hb.addm (u := .lst [.bl true]) np1
    replace g := g.addm (o := .lst [.bl true]) np1
    walk_at "og"
    refine ⟨p1, n, [.bl true], rfl, rfl, upd_same, by omega, by omega, szle (by simp; omega), fun p2 np2 => ?_⟩
    rw [rep_flat]
    have m2 := Mu.new (o := .lst (List.replicate n.toNat (V.bl true))) g.fh np2
    have np20 := g.fresh np2
    replace hb := hb.addm (u := .lst (List.replicate n.toNat (V.bl true))) np2
    replace g := g.addm (o := .lst (List.replicate n.toNat (V.bl true))) np2
    walk_at "og"
    refine ⟨le1000 (by simp), fun p3 np3 => ?_⟩
    have np30 := g.fresh np3
    replace hb := hb.addm (u := .lst [.bl false]) np3
    replace m2 := m2.addm (u := .lst [.bl false]) np3
    replace g := g.addm (o := .lst [.bl false]) np3
    walk_at "og"
    refine ⟨p3, big - n, [.bl false], rfl, rfl, upd_same, by omega, by omega, szle (by simp; omega), fun p4 np4 => ?_⟩
    rw [rep_flat]
    have m4 := Mu.new (o := .lst (List.replicate (big - n).toNat (V.bl false))) g.fh np4
    have np40 := g.fresh np4
    replace hb := hb.addm (u := .lst (List.replicate (big - n).toNat (V.bl false))) np4
    replace m2 := m2.addm (u := .lst (List.replicate (big - n).toNat (V.bl false))) np4
    replace g := g.addm (o := .lst (List.replicate (big - n).toNat (V.bl false))) np4
    walk_at "og"
    refine ⟨p2, p4, _, _, rfl, rfl, m2.h, m4.h, szle (by rw [List.length_replicate, List.length_replicate]; omega), fun t0 nt0 => ?_⟩
    have e5 : List.replicate n.toNat (V.bl true) ++ List.replicate (big - n).toNat (V.bl false) = (List.replicate n.toNat true ++ List.replicate (big - n).toNat false).map V.bl := by
      rw [List.map_append, List.map_replicate, List.map_replicate]
    rw [e5]
    have l5 : (List.replicate n.toNat true ++ List.replicate (big - n).toNat false).length = big.toNat := by
      rw [List.length_append, List.length_replicate, List.length_replicate]
      omega
    generalize hc5 : List.replicate n.toNat true ++ List.replicate (big - n).toNat false = c5 at l5 ⊢
    have nbt0 := hb.ne_new nt0
    have m5 := Mu.new (o := .lst (c5.map V.bl)) g.fh nt0
    have nt00 := g.fresh nt0
    replace hb := hb.addm (u := .lst (c5.map V.bl)) nt0
    replace g := g.addm (o := .lst (c5.map V.bl)) nt0
    walk_at "og"
    refine ⟨le1000 (by simp), fun p6 np6 => ?_⟩
    have np60 := g.fresh np6
    replace hb := hb.addm (u := .lst [.bl false]) np6
    replace m5 := m5.addm (u := .lst [.bl false]) np6
    replace g := g.addm (o := .lst [.bl false]) np6
    walk_at "og"
    refine ⟨p6, slots, [.bl false], rfl, rfl, upd_same, by omega, by omega, szle (by simp; omega), fun t1 nt1 => ?_⟩
    rw [rep_flat, show List.replicate slots.toNat (V.bl false) = (List.replicate slots.toNat false).map V.bl by rw [List.map_replicate]]
    have l7 : (List.replicate slots.toNat false).length = slots.toNat := List.length_replicate
    generalize hc7 : List.replicate slots.toNat false = c7 at l7 ⊢
    have nbt1 := hb.ne_new nt1
    have ne01 := m5.ne_new nt1
    have m7 := Mu.new (o := .lst (c7.map V.bl)) g.fh nt1
    have nt10 := g.fresh nt1
    replace hb := hb.addm (u := .lst (c7.map V.bl)) nt1
    replace m5 := m5.addm (u := .lst (c7.map V.bl)) nt1
    replace g := g.addm (o := .lst (c7.map V.bl)) nt1
    walk_at "og"
    refine ⟨le1000 (by simp), fun hd nhd => ?_⟩
    have nhd0 := g.fresh nhd
    replace hb := hb.add (u := .lst [.ref t0, .ref t1]) g.fh nhd
    replace m5 := m5.add (u := .lst [.ref t0, .ref t1]) nhd
    replace m7 := m7.add (u := .lst [.ref t0, .ref t1]) nhd
    replace g := g.add (o := .lst [.ref t0, .ref t1]) nhd
    have hS := sqL_of (K := K) (upd_at (F := F1) (p := hd) (o := .lst [.ref t0, .ref t1]))
    have hfl : (c5, c7) = flags0 n.toNat big.toNat slots.toNat := by
      rw [← hc5, ← hc7, show (big - n).toNat = big.toNat - n.toNat by omega]
      rfl
    have h0 := m5
    have h1 := m7
    clear m5 m7 hc5 hc7
    obtain ⟨F2, hF2⟩ : ∃ F2, F2 = upd F1 hd (.lst [.ref t0, .ref t1]) := ⟨_, rfl⟩
    rw [← hF2] at g hb hS h0 h1
    walk_at "og"
    refine ⟨le1000 (by simp), fun D nD => ?_⟩
    have nbD := hb.ne_new nD
    have ntD0 := h0.ne_new nD
    have ntD1 := h1.ne_new nD
    have mD := Mu.new (o := .lst []) g.fh nD
    have nD0 := g.fresh nD
    replace hb := hb.addm (u := .lst []) nD
    replace h0 := h0.addm (u := .lst []) nD
    replace h1 := h1.addm (u := .lst []) nD
    replace g := g.addm (o := .lst []) nD
    walk_at "og"
    refine ⟨_, rfl, by omega, by omega, f_range0 (fun i σ H' => ∃ (F3 : Hp) (vs : List V) (rs : List PRow) (left : Int) (y11 y12 : Option V), σ = [some (.ref b), some (.int n), some (.int big), some (.int slots), some (.int rows), some (.bl f), some (.int most), some (.int wd), some (.ref hd), some (.ref D), some (.int left), y11, y12, none] ∧ Gr [b] F H F3 H' ∧ Same F2 F3 ∧ Bag K F3 H' b ∧ Mu F3 H' t0 (.lst ((allFlags (c5, c7) rs).1.map V.bl)) ∧ Mu F3 H' t1 (.lst ((allFlags (c5, c7) rs).2.map V.bl)) ∧ Mu F3 H' D (.lst vs) ∧ DpAll K F3 vs (rs.map PRow.d) ∧ (∀ r ∈ rs, r.ok) ∧ 0 ≤ left ∧ ((rs.map PRow.size).sum : Int) + left ≤ most ∧ rs.length ≤ i ∧ CanAll (c5, c7) rs) ⟨F2, [], [], most, none, none, rfl, g, Same.refl _, hb, h0, h1, mD, .nil, by simp, by omega, by simp, by simp, trivial⟩ (fun i σ H' hi hp => ?_) (fun σ H' hp => ?_)⟩
    · obtain ⟨F3, vs, rs, left, y11, y12, rfl, g, s3, hb, h0, h1, mD, dv, oks, le0, hsz, hlen, hcan⟩ := hp
      walk_at "og"
      obtain ⟨al0, al1⟩ := all_len rs (c5, c7)
      refine w_cut (fun σ H5 => ∃ (v : V) (F5 : Hp) (c : List Bool × List Bool), σ = [some (.ref b), some (.int n), some (.int big), some (.int slots), some (.int rows), some (.bl f), some (.int most), some (.int wd), some (.ref hd), some (.ref D), some (.int left), some (.int i), some v, none] ∧ Gr [b] F H F5 H5 ∧ Same F3 F5 ∧ Bag K F5 H5 b ∧ Mu F5 H5 t0 (.lst (c.1.map V.bl)) ∧ Mu F5 H5 t1 (.lst (c.2.map V.bl)) ∧ Mu F5 H5 D (.lst vs) ∧ (v = .non ∧ c = allFlags (c5, c7) rs ∨ ∃ r : PRow, Dp K F5 v r.d ∧ r.ok ∧ (r.size : Int) ≤ left ∧ r.can (allFlags (c5, c7) rs) ∧ c = r.flags (allFlags (c5, c7) rs))) ?_ (fun σ H5 hp => ?_)
      · walk_at "og"
        refine w_ite (fun hl => ?_) (fun hl => ?_)
        · walk_at "og"
          refine ⟨b, hd, t0, t1, _, _, f, _, F3, rfl, rfl, rfl, rfl, g.fh, hb, sqL_same s3 hS, h0, h1, ne01, nbt0, nbt1, by rw [al0]; show c5.length ≤ 1000; omega, by rw [al1]; show c7.length ≤ 1000; omega, by split <;> omega, by split <;> omega, fun v F5 H5 c g5 hb5 h05 h15 hv => ?_⟩
          walk_at "og"
          refine ⟨v, F5, c, rfl, g.transN g5 (fun x hx => ?_), g5.ff, hb5, h05, h15, g5.mu mD ?_, ?_⟩
          · simp only [List.mem_cons, List.not_mem_nil, or_false] at hx
            rcases hx with rfl | rfl | rfl
            · exact .inl (by simp)
            · exact .inr nt00
            · exact .inr nt10
          · simp only [List.mem_cons, List.not_mem_nil, or_false, not_or]
            exact ⟨nbD.symm, ntD0.symm, ntD1.symm⟩
          · rcases hv with hv | ⟨r, d1, d2, d3, d4, d5⟩
            · exact .inl hv
            · refine .inr ⟨r, d1, d2, ?_, d4, d5⟩
              split at d3 <;> omega
        · walk_at "og"
          exact ⟨.non, F3, _, rfl, g, Same.refl _, hb, h0, h1, mD, .inl ⟨rfl, rfl⟩⟩
      · obtain ⟨v, F5, c, rfl, g, s5, hb, h0, h1, mD, hv⟩ := hp
        walk_at "og"
        refine w_iteN (fun hne => ?_) (fun he => ?_)
        · rcases hv with hv | ⟨r, d1, d2, d3, d4, rfl⟩
          · exact absurd hv.1 hne
          rw [← flags_snoc] at h0 h1
          have hvl : vs.length ≤ 1000 := by
            rw [dpa_len dv, List.length_map]
            omega
          walk_at "og"
          cases r with
          | put to s =>
            obtain ⟨a, rfl, hT⟩ := dp_put d1
            have hsl := szle (Nat.le_trans d2.2 (by decide))
            have g6 := g.wrn (o := .lst (vs ++ [.ref a])) mD.n nD0
            walk_at "og"
            refine ⟨F5, vs ++ [.ref a], rs ++ [.put to s], left - (s.length : Nat), _, _, rfl, g6, s3.trans s5, hb.put nbD, h0.oth ntD0, h1.oth ntD1, mD.wr, ?_, ok_snoc oks d2, ?_, ?_, by rw [List.length_append]; show rs.length + 1 ≤ i + 1; omega, can_snoc hcan d4⟩
            · rw [List.map_append]
              exact dpa_snoc (dpa_same s5 _ _ dv) d1
            · have dz : ((s.length : Nat) : Int) ≤ left := d3
              have dz2 : (PRow.put to s).size = s.length := rfl
              omega
            · rw [size_snoc]
              have dz : ((s.length : Nat) : Int) ≤ left := d3
              have dz2 : (PRow.put to s).size = s.length := rfl
              omega
          | mv w to at_ m =>
            obtain ⟨a, rfl, hT⟩ := dp_mv d1
            have g6 := g.wrn (o := .lst (vs ++ [.ref a])) mD.n nD0
            walk_at "og"
            refine w_iteF (by cases w <;> decide +kernel) ?_
            walk_at "og"
            refine ⟨F5, vs ++ [.ref a], rs ++ [.mv w to at_ m], left - m, _, _, rfl, g6, s3.trans s5, hb.put nbD, h0.oth ntD0, h1.oth ntD1, mD.wr, ?_, ok_snoc oks d2, ?_, ?_, by rw [List.length_append]; show rs.length + 1 ≤ i + 1; omega, can_snoc hcan d4⟩
            · rw [List.map_append]
              exact dpa_snoc (dpa_same s5 _ _ dv) d1
            · have dz : ((m.toNat : Nat) : Int) ≤ left := d3
              have dz2 : (PRow.mv w to at_ m).size = m.toNat := rfl
              have dz3 := d2.1
              omega
            · rw [size_snoc]
              have dz : ((m.toNat : Nat) : Int) ≤ left := d3
              have dz2 : (PRow.mv w to at_ m).size = m.toNat := rfl
              have dz3 := d2.1
              omega
        · rcases hv with ⟨_, rfl⟩ | ⟨r, d1, _⟩
          · walk_at "og"
            exact ⟨F5, vs, rs, left, _, _, rfl, g, s3.trans s5, hb, h0, h1, mD, dpa_same s5 _ _ dv, oks, le0, hsz, by omega, hcan⟩
          · subst he
            exact (row_not_non d1).elim
    · obtain ⟨F3, vs, rs, left, y11, y12, rfl, g, s3, hb, h0, h1, mD, dv, oks, le0, hsz, hlen, hcan⟩ := hp
      have al := (all_len rs (c5, c7)).1
      generalize (allFlags (c5, c7) rs).1 = ca at al h0
      replace al : ca.length = c5.length := al
      walk_at "og"
      refine ⟨_, rfl, by omega, by omega, f_range0 (fun i σ H' => ∃ (F3 : Hp) (vs : List V) (rs : List PRow) (y13 : Option V), σ = [some (.ref b), some (.int n), some (.int big), some (.int slots), some (.int rows), some (.bl f), some (.int most), some (.int wd), some (.ref hd), some (.ref D), some (.int left), y11, y12, y13] ∧ Gr [b] F H F3 H' ∧ Same F2 F3 ∧ Bag K F3 H' b ∧ Mu F3 H' t0 (.lst (ca.map V.bl)) ∧ Mu F3 H' D (.lst vs) ∧ DpAll K F3 vs (rs.map PRow.d) ∧ (∀ r ∈ rs, r.ok) ∧ ((rs.map PRow.size).sum : Int) ≤ most + i ∧ rs.length ≤ 1000 + i ∧ CanAll (c5, c7) rs) ⟨F3, vs, rs, none, rfl, g, s3, hb, h0, mD, dv, oks, by omega, by omega, hcan⟩ (fun i σ H' hi hp => ?_) (fun σ H' hp => ?_)⟩
      · obtain ⟨F4, vs, rs, y13, rfl, g, s4, hb, h0, mD, dv, oks, hsz, hlen, hcan⟩ := hp
        walk_at "og"
        have hS2 := sqL_same (s4.trans g.fh) hS
        have hic : i < ca.length := by omega
        have hvl : vs.length ≤ 2000 := by
          rw [dpa_len dv, List.length_map]
          omega
        walk_at "og"
        refine w_ixL _ _ h0.sq (atI_nat (v := .bl ca[i]) (by rw [List.getElem?_map, List.getElem?_eq_getElem hic]; rfl)) ?_
        walk_at "og"
        refine w_itebN (fun hf => ?_) (fun ht => ?_)
        · walk_at "og"
          refine ⟨b, f, F4, rfl, rfl, g.fh, hb, fun s F5 H5 g5 hb5 hsl hso => ?_⟩
          have hD : D ∉ [b] := by simp; exact nbD.symm
          have hT0 : t0 ∉ [b] := by simp; exact nbt0.symm
          replace mD := g5.mu mD hD
          replace h0 := g5.mu h0 hT0
          replace g := g.trans g5
          replace hb := hb5
          walk_at "og"
          refine ⟨le1000 (by simp), fun p np => ?_⟩
          have wF := g5.fh.free np
          replace hb := hb.add (u := .tup [.str "put", .int i, .str s]) g5.fh np
          replace mD := mD.add (u := .tup [.str "put", .int i, .str s]) np
          replace h0 := h0.add (u := .tup [.str "put", .int i, .str s]) np
          replace g := g.add (o := .tup [.str "put", .int i, .str s]) np
          walk_at "og"
          have sF := Same.new (o := .tup [.str "put", .int i, .str s]) wF
          have d1 : Dp K (upd F5 p (.tup [.str "put", .int i, .str s])) (.ref p) (PRow.put i s).d := .tup (sqT_of upd_same) (.cons (.str _) (.cons (.int _) (.cons (.str _) .nil)))
          refine ⟨_, vs ++ [.ref p], rs ++ [.put i s], _, rfl, g.wrn mD.n nD0, (s4.trans g5.ff).trans sF, hb.put nbD, h0.oth ntD0, mD.wr, ?_, ok_snoc (r := .put i s) oks ⟨hso, by omega⟩, ?_, by rw [List.length_append]; show rs.length + 1 ≤ 1000 + (i + 1); omega, can_snoc hcan (can_put (by omega) (by rw [(all_len rs (c5, c7)).1]; show (i : Int).toNat + s.length ≤ c5.length; omega))⟩
          · rw [List.map_append]
            exact dpa_snoc (dpa_same (g5.ff.trans sF) _ _ dv) d1
          · rw [size_snoc]
            have dz2 : (PRow.put i s).size = s.length := rfl
            omega
        · walk_at "og"
          exact ⟨F4, vs, rs, _, rfl, g, s4, hb, h0, mD, dv, oks, by omega, by omega, hcan⟩
      · obtain ⟨F4, vs, rs, y13, rfl, g, s4, hb, h0, mD, dv, oks, hsz, hlen, hcan⟩ := hp
        walk_at "og"
        exact q D rs F4 H' g hb ⟨nD0, vs, mD, dv⟩ oks (by omega) (by omega) (by rw [← hfl]; exact hcan)
-- _law_shape
theorem ok_law_shape {f : Addr} {fd : FuncData} (F : FunD K "_law_shape" "_law_shape" (defArgs s_law_shape) (defBody s_law_shape) (defScope s_law_shape) [] [] f fd) (T : Txt K mg) (D_law_draw : DO P w K mg base 2 "_law_draw" ["bag", "many"] [] (S2 (φdraw K))) : FnOk P w K mg base CX0 3 f fd ["bag"] (S1 (φshape K)) := by
  refine F.ok sc_law_shape (fun vs H Q E h => ?_) (fun cdv A outer s H vs Q E hr h => ?_)
  · exact S1.len h
  · match vs, h with
    | [v0], h =>
    have hu := hu_of hr
    refine ⟨_, PSs.nox (pss_cons (ps_set (i := 1) sc_law_shape.nd rfl (.inl rfl) (pcall D_law_draw hr (pa_cons (pv 0) (pa_cons pe_int pa_nil))))
      (pss_cons (ps_set (i := 2) sc_law_shape.nd rfl (.inl rfl) (pcall D_law_draw hr (pa_cons (pv 0) (pa_cons (pe_ix (ixL (K := K)) (pe_lst (pa_cons pe_int (pa_cons pe_int (pa_cons pe_int (pa_cons pe_int (pa_cons pe_int (pa_cons pe_int (pa_cons pe_int (pa_cons pe_int pa_nil))))))))) (pv 1) (fun _ _ => rfl)) pa_nil))))
      (pss_cons (ps_set (i := 3) sc_law_shape.nd rfl (.inl rfl) (pcall D_law_draw hr (pa_cons (pv 0) (pa_cons (pe_ix (ixL (K := K)) (pe_lst (pa_cons pe_int (pa_cons pe_int (pa_cons pe_int (pa_cons pe_int (pa_cons pe_int (pa_cons pe_int (pa_cons pe_int (pa_cons pe_int pa_nil))))))))) (pv 1) (fun _ _ => rfl)) pa_nil))))
      (pss_cons (ps_set (i := 4) sc_law_shape.nd rfl (.inl rfl) (pcall D_law_draw hr (pa_cons (pv 0) (pa_cons pe_int pa_nil))))
      (pss_cons (ps_set (i := 5) sc_law_shape.nd rfl (.inl rfl) (pe_cmpR op_eq (pcall D_law_draw hr (pa_cons (pv 0) (pa_cons pe_int pa_nil))) pe_int (nomark _)))
      (C8.pss_cut (ps_set (i := 6) sc_law_shape.nd rfl (.inl rfl) (pe_ifExp (pt_cmpR op_eq (pv 4) pe_int (nomark _)) (pcall D_law_draw hr (pa_cons (pv 0) (pa_cons (pe_ix (ixL (K := K)) (pe_lst (pa_cons pe_int (pa_cons pe_int pa_nil))) (pe_op op_fdivW (pv 1) pe_int) (fun _ _ => rfl)) pa_nil))) (pe_ix (ixL (K := K)) (pe_lst (pa_cons pe_int (pa_cons pe_int (pa_cons pe_int pa_nil)))) (pv 4) (fun _ _ => rfl))))
      (pss_one (ps_ret (pe_tup (pa_cons (pe_ifExp (pt_val (pv 5)) (pcall D_law_draw hr (pa_cons (pv 0) (pa_cons (pe_op op_add (pv 2) pe_int) pa_nil))) (pv 2)) (pa_cons (pv 2) (pa_cons (pv 6) (pa_cons (pv 3) pa_nil))))))))))))), ?_⟩
    rw [show start ["bag", "way", "big", "rows", "pick", "part", "slots"] [v0] = [some v0, none, none, none, none, none, none] from rfl]
    obtain ⟨b, F, rfl, hw, hb, q⟩ := h
    walk_at "og"
    refine d_draw (Gr.refl (M := [b]) hw) hb (by decide) (by decide) fun way F1 H1 g _ hb w0 w1 => ?_
    walk_at "og"
    refine ⟨le1000 (by simp), fun p np => ?_⟩
    replace hb := hb.addm (u := .lst ([5, 5, 5, 9, 9, 30, 120, 401].map V.int)) np
    replace g := g.addm (o := .lst ([5, 5, 5, 9, 9, 30, 120, 401].map V.int)) np
    obtain ⟨m, em, m0, m1⟩ := pick_ix (ns := [5, 5, 5, 9, 9, 30, 120, 401]) (lo := 1) (hi := 401) w0 w1 (by decide)
    walk_at "og"
    refine w_ixL _ _ (sqL_of upd_same) em ?_
    walk_at "og"
    refine d_draw g hb (by omega) (by omega) fun big F1 H1 g _ hb b0 b1 => ?_
    walk_at "og"
    refine ⟨le1000 (by simp), fun p np => ?_⟩
    replace hb := hb.addm (u := .lst ([6, 9, 12, 12, 30, 60, 120, 600].map V.int)) np
    replace g := g.addm (o := .lst ([6, 9, 12, 12, 30, 60, 120, 600].map V.int)) np
    obtain ⟨m2, em2, m20, m21⟩ := pick_ix (ns := [6, 9, 12, 12, 30, 60, 120, 600]) (lo := 1) (hi := 600) w0 w1 (by decide)
    walk_at "og"
    refine w_ixL _ _ (sqL_of upd_same) em2 ?_
    walk_at "og"
    refine d_draw g hb (by omega) (by omega) fun rows F1 H1 g _ hb r0 r1 => ?_
    walk_at "og"
    refine d_draw g hb (by decide) (by decide) fun pick F1 H1 g _ hb p0 p1 => ?_
    walk_at "og"
    refine d_draw g hb (by decide) (by decide) fun part F1 H1 g _ hb q0 q1 => ?_
    walk_at "og"
    refine w_cut (fun σ H' => ∃ (slots : Int) (F2 : Hp), σ = [some (.ref b), some (.int way), some (.int big), some (.int rows), some (.int pick), some (.bl (decide (part = 2))), some (.int slots)] ∧ Gr [b] F H F2 H' ∧ Bag K F2 H' b ∧ 0 ≤ slots ∧ slots ≤ 400) ?_ (fun σ H' hp => ?_)
    · walk_at "og"
      refine w_ite (fun hc => ?_) (fun hc => ?_)
      · walk_at "og"
        refine ⟨le1000 (by simp), fun p np => ?_⟩
        replace hb := hb.addm (u := .lst ([6, 401].map V.int)) np
        replace g := g.addm (o := .lst ([6, 401].map V.int)) np
        obtain ⟨m3, em3, m30, m31⟩ := pick_ix (ns := [6, 401]) (i := way / 6) (lo := 1) (hi := 401) (by omega) (by show way / 6 < 2; omega) (by decide)
        walk_at "og"
        refine w_ixL _ _ (sqL_of upd_same) em3 ?_
        walk_at "og"
        refine d_draw g hb (by omega) (by omega) fun slots F1 H1 g _ hb s0 s1 => ?_
        walk_at "og"
        exact ⟨slots, F1, rfl, g, hb, by omega, by omega⟩
      · walk_at "og"
        refine ⟨le1000 (by simp), fun p np => ?_⟩
        replace hb := hb.addm (u := .lst ([0, 1, 3].map V.int)) np
        replace g := g.addm (o := .lst ([0, 1, 3].map V.int)) np
        obtain ⟨m3, em3, m30, m31⟩ := pick_ix (ns := [0, 1, 3]) (i := pick) (lo := 0) (hi := 3) p0 (by show pick < 3; omega) (by decide)
        walk_at "og"
        refine w_ixL _ _ (sqL_of upd_same) em3 ?_
        walk_at "og"
        exact ⟨m3, F1, rfl, g, hb, by omega, by omega⟩
    · obtain ⟨slots, F2, rfl, g, hb, s0, s1⟩ := hp
      walk_at "og"
      refine w_ite (fun hc => ?_) (fun hc => ?_)
      · walk_at "og"
        refine d_draw g hb (by omega) (by omega) fun n F1 H1 g _ hb n0 n1 => ?_
        walk_at "og"
        refine ⟨le1000 (by simp), fun p np => ?_⟩
        exact q p n big slots rows _ _ (g.add np) (hb.add g.fh np) upd_same n0 (by omega) (by omega) s0 s1 r0 (by omega)
      · walk_at "og"
        refine ⟨le1000 (by simp), fun p np => ?_⟩
        exact q p big big slots rows _ _ (g.add np) (hb.add g.fh np) upd_same b0 (Int.le_refl _) (by omega) s0 s1 r0 (by omega)
-- _law_row_writes
theorem ok_law_row_writes {f : Addr} {fd : FuncData} (F : FunD K "_law_row_writes" "_law_row_writes" (defArgs s_law_row_writes) (defBody s_law_row_writes) (defScope s_law_row_writes) [] [] f fd) (T : Txt K mg)  : FnOk P w K mg base CX0 1 f fd ["row"] (S1 (φrow_writes K)) := by
  refine F.ok sc_law_row_writes (fun vs H Q E h => ?_) (fun cdv A outer s H vs Q E hr h => ?_)
  · exact S1.len h
  · match vs, h with
    | [v0], h =>
    have hu := hu_of hr
    refine ⟨_, PSs.nox (pss_cons (ps_if (pt_cmpR op_eq (pe_ix (ixT (K := K)) (pv 0) pe_int (fun _ _ => rfl)) pe_str (nomark _)) (pss_one (ps_ret (pe_lc (own := [("k", 2)]) (g := gName 2) rfl sc_law_row_writes.nd (pi_range1 rfl T.b_range (pa_cons (pe_callB clLenS (by rfl) T.b_len (by decide +kernel) (pa_cons (pe_ix (ixT (K := K)) (pv 0) pe_int (fun _ _ => rfl)) pa_nil)) pa_nil)) (blkOk_by (own := [("k", 2)]) (N := ["row", "got", "k", "step", "where"]) (sc := defScope s_law_row_writes) (by decide +kernel)) (fun _ _ _ _ _ => pg_name (i := 2) sc_law_row_writes.nd rfl (Or.inl rfl)) (fun _ _ _ _ _ => pts_nil) (fun _ _ _ _ _ => (pe_tup (pa_cons pe_str (pa_cons (pe_op op_add (pe_ix (ixT (K := K)) (pv 0) pe_int (fun _ _ => rfl)) (pv 2)) (pa_cons pe_str (pa_cons (pe_ix ix_str (pe_ix (ixT (K := K)) (pv 0) pe_int (fun _ _ => rfl)) (pv 2) (fun _ _ => rfl)) pa_nil))))))))) pss_nil)
      (pss_cons (ps_set (i := 1) sc_law_row_writes.nd rfl (.inl rfl) (pe_lst pa_nil))
      (pss_cons (ps_for PassesOwn.never rfl (pi_range1 rfl T.b_range (pa_cons (pe_ix (ixT (K := K)) (pv 0) pe_int (fun _ _ => rfl)) pa_nil)) (pg_name (i := 2) sc_law_row_writes.nd rfl (.inl rfl)) (pss_cons (ps_set (i := 3) sc_law_row_writes.nd rfl (.inl rfl) (pe_ifExp (PW.pt (pw_and (pt_cmpR op_eq (pe_ix (ixT (K := K)) (pv 0) pe_int (fun _ _ => rfl)) pe_str (nomark _)) (pw_and1 (pt_cmpR op_gt (pe_ix (ixT (K := K)) (pv 0) pe_int (fun _ _ => rfl)) (pe_ix (ixT (K := K)) (pv 0) pe_int (fun _ _ => rfl)) (nomark _))))) (pe_op op_sub (pe_op op_sub (pe_ix (ixT (K := K)) (pv 0) pe_int (fun _ _ => rfl)) pe_int) (pv 2)) (pv 2)))
      (pss_cons (ps_set (i := 4) sc_law_row_writes.nd rfl (.inl rfl) (pe_ifExp (pt_cmpR op_eq (pe_ix (ixT (K := K)) (pv 0) pe_int (fun _ _ => rfl)) pe_str (nomark _)) pe_str pe_str))
      (pss_one (ps_expr (peBM (K := K) PySem.F.plainAttrs_list PySem.F.slot_list_append PySem.F.type_list_append mt_append (pv 1) (pa_cons (pe_tup (pa_cons (pv 4) (pa_cons (pe_op op_add (pe_ix (ixT (K := K)) (pv 0) pe_int (fun _ _ => rfl)) (pv 3)) (pa_cons (pe_ifExp (pt_cmpR op_eq (pe_ix (ixT (K := K)) (pv 0) pe_int (fun _ _ => rfl)) pe_str (nomark _)) pe_str pe_str) (pa_cons (pe_op op_add (pe_ix (ixT (K := K)) (pv 0) pe_int (fun _ _ => rfl)) (pv 3)) pa_nil))))) pa_nil)))))))
      (pss_one (ps_ret (pv 1)))))), ?_⟩
    rw [show start ["row", "got", "k", "step", "where"] [v0] = [some v0, none, none, none, none] from rfl]
    obtain ⟨F, r, hw, hx, hok, q⟩ := h
    cases r with
    | put to s =>
      obtain ⟨a, rfl, hT⟩ := dp_put hx
      have hT' := sqT_same hw hT
      obtain ⟨oks, hsl⟩ := hok
      have hlen := szle (Nat.le_trans hsl (by decide))
      walk_at "og"
      refine ⟨_, rfl, by omega, by omega, fun D nD => ?_⟩
      have g1 : Gr [] F H F (upd H D (.lst [])) := .new hw nD
      refine lc_rng (fun i H' => ∃ F2 vs, Gr [] F H F2 H' ∧ Mu F2 H' D (.lst vs) ∧ DpAll K F2 vs ((List.range i).map fun (k : Nat) => wr "cell" (to + k) "sign" (.str ⟨#[s.cps.toList.getD k 0]⟩))) ⟨F, [], g1, Mu.new hw nD, .nil⟩ (fun i H' hi hp => ?_) (fun H' hp => ?_)
      · obtain ⟨F2, vs, g, mu, dv⟩ := hp
        have hi' : i < s.length := by omega
        have hv : vs.length = i := by rw [dpa_len dv, List.length_map, List.length_range]
        walk_at "owp"
        walk_at "og"
        refine ⟨rfl, ?_⟩
        walk_at "og"
        refine w_ixS hlen (sign_get hi') ?_
        walk_at "og"
        refine ⟨le1000 (by simp), fun p np => ?_⟩
        have mu2 := mu.add (u := .tup [.str "cell", .int (to + i), .str "sign", .str ⟨#[s.cps.toList.getD i 0]⟩]) np
        have g2 := g.add (o := .tup [.str "cell", .int (to + i), .str "sign", .str ⟨#[s.cps.toList.getD i 0]⟩]) np
        refine ⟨vs, mu2.h, small_lt (by omega), _, vs ++ [.ref p], g2.wrn mu2.n nD, mu2.wr, ?_⟩
        rw [List.range_succ, List.map_append]
        exact dpa_snoc (dpa_same (Same.new (g.fh.free np)) _ _ dv) (.tup (sqT_of upd_same) (.cons (.str _) (.cons (.int _) (.cons (.str _) (.cons (.str _) .nil)))))
      · obtain ⟨F2, vs, g, mu, dv⟩ := hp
        rw [Int.toNat_natCast] at dv
        exact q D F2 H' g ⟨nD, vs, mu, dv⟩
    | mv w to a n =>
      obtain ⟨p0, rfl, hT⟩ := dp_mv hx
      obtain ⟨n0, n1⟩ := hok
      have hT' := sqT_same hw hT
      cases w with
      | copy =>
        walk_at "og"
        refine ⟨le1000 (by simp), fun D nD => ?_⟩
        have g1 : Gr [] F H F (upd H D (.lst [])) := .new hw nD
        have hT3 := sqT_same g1.ws hT
        walk_at "og"
        by_cases hc : a < to
        · skip
          have est : PRow.steps .copy to a n = (List.range n.toNat).reverse := by
            unfold PRow.steps
            rw [if_pos ⟨rfl, hc⟩]
          refine ⟨_, rfl, by omega, by omega, f_range0 (fun i σ H' => ∃ F2 vs y2 y3 y4, σ = [some (.ref p0), some (.ref D), y2, y3, y4] ∧ Gr [] F H F2 H' ∧ Mu F2 H' D (.lst vs) ∧ DpAll K F2 vs (((PRow.steps .copy to a n).take i).map fun (k : Nat) => wr "cell" (to + k) "cell" (.int (a + k)))) ⟨F, [], none, none, none, rfl, g1, Mu.new hw nD, .nil⟩ (fun i σ H' hi hp => ?_) (fun σ H' hp => ?_)⟩
          · obtain ⟨F2, vs, y2, y3, y4, rfl, g, mu, dv⟩ := hp
            have hT2 := sqT_same g.ws hT
            have hi2 : i < n.toNat := hi
            have hv : vs.length = i := by
              rw [dpa_len dv, List.length_map, List.length_take, PRow.steps_len]
              omega
            have hk : (PRow.steps .copy to a n)[i]? = some (n.toNat - 1 - i) := by
              rw [est]
              exact rev_get hi2
            have ek : ((((n.toNat - 1 - i) : Nat)) : Int) = n - 1 - (i : Int) := by omega
            walk_at "og"
            refine w_iteT hc ?_
            walk_at "og"
            refine ⟨le1000 (by simp), fun p np => ?_⟩
            have mu2 := mu.add (u := .tup [.str "cell", .int (to + (n - 1 - (i : Int))), .str "cell", .int (a + (n - 1 - (i : Int)))]) np
            have g3 := g.add (o := .tup [.str "cell", .int (to + (n - 1 - (i : Int))), .str "cell", .int (a + (n - 1 - (i : Int)))]) np
            walk_at "og"
            refine ⟨_, vs ++ [.ref p], _, _, _, rfl, g3.wrn mu2.n nD, mu2.wr, ?_⟩
            rw [List.take_add_one, hk, List.map_append]
            refine dpa_snoc (dpa_same (Same.new (g.fh.free np)) _ _ dv) ?_
            show Dp K _ _ (wr "cell" (to + ((((n.toNat - 1 - i) : Nat)) : Int)) "cell" (.int (a + ((((n.toNat - 1 - i) : Nat)) : Int))))
            rw [ek]
            exact .tup (sqT_of upd_same) (.cons (.str _) (.cons (.int _) (.cons (.str _) (.cons (.int _) .nil))))
          · obtain ⟨F2, vs, y2, y3, y4, rfl, g, mu, dv⟩ := hp
            walk_at "og"
            rw [List.take_of_length_le (by rw [PRow.steps_len]; exact Nat.le_refl _)] at dv
            exact q D F2 H' g ⟨nD, vs, mu, dv⟩
        · skip
          have est : PRow.steps .copy to a n = List.range n.toNat := by
            unfold PRow.steps
            rw [if_neg (fun z => hc z.2)]
          refine ⟨_, rfl, by omega, by omega, f_range0 (fun i σ H' => ∃ F2 vs y2 y3 y4, σ = [some (.ref p0), some (.ref D), y2, y3, y4] ∧ Gr [] F H F2 H' ∧ Mu F2 H' D (.lst vs) ∧ DpAll K F2 vs (((PRow.steps .copy to a n).take i).map fun (k : Nat) => wr "cell" (to + k) "cell" (.int (a + k)))) ⟨F, [], none, none, none, rfl, g1, Mu.new hw nD, .nil⟩ (fun i σ H' hi hp => ?_) (fun σ H' hp => ?_)⟩
          · obtain ⟨F2, vs, y2, y3, y4, rfl, g, mu, dv⟩ := hp
            have hT2 := sqT_same g.ws hT
            have hi2 : i < n.toNat := hi
            have hv : vs.length = i := by
              rw [dpa_len dv, List.length_map, List.length_take, PRow.steps_len]
              omega
            have hk : (PRow.steps .copy to a n)[i]? = some i := by
              rw [est]
              exact List.getElem?_range hi2
            have ek : (((i : Nat)) : Int) = (i : Int) := by omega
            walk_at "og"
            refine w_iteF hc ?_
            walk_at "og"
            refine ⟨le1000 (by simp), fun p np => ?_⟩
            have mu2 := mu.add (u := .tup [.str "cell", .int (to + ((i : Int))), .str "cell", .int (a + ((i : Int)))]) np
            have g3 := g.add (o := .tup [.str "cell", .int (to + ((i : Int))), .str "cell", .int (a + ((i : Int)))]) np
            walk_at "og"
            refine ⟨_, vs ++ [.ref p], _, _, _, rfl, g3.wrn mu2.n nD, mu2.wr, ?_⟩
            rw [List.take_add_one, hk, List.map_append]
            refine dpa_snoc (dpa_same (Same.new (g.fh.free np)) _ _ dv) ?_
            show Dp K _ _ (wr "cell" (to + (((i : Nat)) : Int)) "cell" (.int (a + (((i : Nat)) : Int))))
            rw [ek]
            exact .tup (sqT_of upd_same) (.cons (.str _) (.cons (.int _) (.cons (.str _) (.cons (.int _) .nil))))
          · obtain ⟨F2, vs, y2, y3, y4, rfl, g, mu, dv⟩ := hp
            walk_at "og"
            rw [List.take_of_length_le (by rw [PRow.steps_len]; exact Nat.le_refl _)] at dv
            exact q D F2 H' g ⟨nD, vs, mu, dv⟩
      | keep =>
        walk_at "og"
        refine ⟨le1000 (by simp), fun D nD => ?_⟩
        have g1 : Gr [] F H F (upd H D (.lst [])) := .new hw nD
        have hT3 := sqT_same g1.ws hT
        walk_at "og"
        have est : PRow.steps .keep to a n = List.range n.toNat := by
          unfold PRow.steps
          rw [if_neg (fun z => by cases z.1)]
        refine ⟨_, rfl, by omega, by omega, f_range0 (fun i σ H' => ∃ F2 vs y2 y3 y4, σ = [some (.ref p0), some (.ref D), y2, y3, y4] ∧ Gr [] F H F2 H' ∧ Mu F2 H' D (.lst vs) ∧ DpAll K F2 vs (((PRow.steps .keep to a n).take i).map fun (k : Nat) => wr "slot" (to + k) "cell" (.int (a + k)))) ⟨F, [], none, none, none, rfl, g1, Mu.new hw nD, .nil⟩ (fun i σ H' hi hp => ?_) (fun σ H' hp => ?_)⟩
        · obtain ⟨F2, vs, y2, y3, y4, rfl, g, mu, dv⟩ := hp
          have hT2 := sqT_same g.ws hT
          have hi2 : i < n.toNat := hi
          have hv : vs.length = i := by
            rw [dpa_len dv, List.length_map, List.length_take, PRow.steps_len]
            omega
          have hk : (PRow.steps .keep to a n)[i]? = some i := by
            rw [est]
            exact List.getElem?_range hi2
          have ek : (((i : Nat)) : Int) = (i : Int) := by omega
          walk_at "og"
          skip
          refine ⟨le1000 (by simp), fun p np => ?_⟩
          have mu2 := mu.add (u := .tup [.str "slot", .int (to + ((i : Int))), .str "cell", .int (a + ((i : Int)))]) np
          have g3 := g.add (o := .tup [.str "slot", .int (to + ((i : Int))), .str "cell", .int (a + ((i : Int)))]) np
          walk_at "og"
          refine ⟨_, vs ++ [.ref p], _, _, _, rfl, g3.wrn mu2.n nD, mu2.wr, ?_⟩
          rw [List.take_add_one, hk, List.map_append]
          refine dpa_snoc (dpa_same (Same.new (g.fh.free np)) _ _ dv) ?_
          show Dp K _ _ (wr "slot" (to + (((i : Nat)) : Int)) "cell" (.int (a + (((i : Nat)) : Int))))
          rw [ek]
          exact .tup (sqT_of upd_same) (.cons (.str _) (.cons (.int _) (.cons (.str _) (.cons (.int _) .nil))))
        · obtain ⟨F2, vs, y2, y3, y4, rfl, g, mu, dv⟩ := hp
          walk_at "og"
          rw [List.take_of_length_le (by rw [PRow.steps_len]; exact Nat.le_refl _)] at dv
          exact q D F2 H' g ⟨nD, vs, mu, dv⟩
      | lay =>
        walk_at "og"
        refine ⟨le1000 (by simp), fun D nD => ?_⟩
        have g1 : Gr [] F H F (upd H D (.lst [])) := .new hw nD
        have hT3 := sqT_same g1.ws hT
        walk_at "og"
        have est : PRow.steps .lay to a n = List.range n.toNat := by
          unfold PRow.steps
          rw [if_neg (fun z => by cases z.1)]
        refine ⟨_, rfl, by omega, by omega, f_range0 (fun i σ H' => ∃ F2 vs y2 y3 y4, σ = [some (.ref p0), some (.ref D), y2, y3, y4] ∧ Gr [] F H F2 H' ∧ Mu F2 H' D (.lst vs) ∧ DpAll K F2 vs (((PRow.steps .lay to a n).take i).map fun (k : Nat) => wr "cell" (to + k) "slot" (.int (a + k)))) ⟨F, [], none, none, none, rfl, g1, Mu.new hw nD, .nil⟩ (fun i σ H' hi hp => ?_) (fun σ H' hp => ?_)⟩
        · obtain ⟨F2, vs, y2, y3, y4, rfl, g, mu, dv⟩ := hp
          have hT2 := sqT_same g.ws hT
          have hi2 : i < n.toNat := hi
          have hv : vs.length = i := by
            rw [dpa_len dv, List.length_map, List.length_take, PRow.steps_len]
            omega
          have hk : (PRow.steps .lay to a n)[i]? = some i := by
            rw [est]
            exact List.getElem?_range hi2
          have ek : (((i : Nat)) : Int) = (i : Int) := by omega
          walk_at "og"
          skip
          refine ⟨le1000 (by simp), fun p np => ?_⟩
          have mu2 := mu.add (u := .tup [.str "cell", .int (to + ((i : Int))), .str "slot", .int (a + ((i : Int)))]) np
          have g3 := g.add (o := .tup [.str "cell", .int (to + ((i : Int))), .str "slot", .int (a + ((i : Int)))]) np
          walk_at "og"
          refine ⟨_, vs ++ [.ref p], _, _, _, rfl, g3.wrn mu2.n nD, mu2.wr, ?_⟩
          rw [List.take_add_one, hk, List.map_append]
          refine dpa_snoc (dpa_same (Same.new (g.fh.free np)) _ _ dv) ?_
          show Dp K _ _ (wr "cell" (to + (((i : Nat)) : Int)) "slot" (.int (a + (((i : Nat)) : Int))))
          rw [ek]
          exact .tup (sqT_of upd_same) (.cons (.str _) (.cons (.int _) (.cons (.str _) (.cons (.int _) .nil))))
        · obtain ⟨F2, vs, y2, y3, y4, rfl, g, mu, dv⟩ := hp
          walk_at "og"
          rw [List.take_of_length_le (by rw [PRow.steps_len]; exact Nat.le_refl _)] at dv
          exact q D F2 H' g ⟨nD, vs, mu, dv⟩
-- _law_writes
theorem ok_law_writes {f : Addr} {fd : FuncData} (F : FunD K "_law_writes" "_law_writes" (defArgs s_law_writes) (defBody s_law_writes) (defScope s_law_writes) [] [] f fd) (T : Txt K mg) (D_law_row_writes : DO P w K mg base 1 "_law_row_writes" ["row"] [] (S1 (φrow_writes K))) : FnOk P w K mg base CX0 2 f fd ["deeds"] (S1 (φwrites K)) := by
  refine F.ok sc_law_writes (fun vs H Q E h => ?_) (fun cdv A outer s H vs Q E hr h => ?_)
  · exact S1.len h
  · match vs, h with
    | [v0], h =>
    have hu := hu_of hr
    refine ⟨_, PSs.nox (pss_cons (ps_set (i := 1) sc_law_writes.nd rfl (.inl rfl) (pe_lst pa_nil))
      (pss_cons (ps_for PassesOwn.never rfl (pi_list (pv 0)) (pg_name (i := 2) sc_law_writes.nd rfl (.inl rfl)) (pss_one (ps_set (i := 1) sc_law_writes.nd rfl (.inl rfl) (pe_op op_cat (pv 1) (pcall D_law_row_writes hr (pa_cons (pv 2) pa_nil))))))
      (pss_one (ps_ret (pv 1))))), ?_⟩
    rw [show start ["deeds", "got", "row"] [v0] = [some v0, none, none] from rfl]
    obtain ⟨F, rs, hw, hx, hok, hsum, q⟩ := h
    obtain ⟨a, us, rfl, hS, dus⟩ := dp_list hx
    walk_at "og"
    refine ⟨le1000 (by simp), fun D nD => ?_⟩
    have g1 : Gr [] F H F (upd H D (.lst [])) := .new hw nD
    walk_at "og"
    refine ⟨a, rfl, ⟨_, sqL_same g1.ws hS⟩, f_list (xs := us) (fun i σ H' => ∃ F2 D y, σ = [some (.ref a), some (.ref D), y] ∧ Gr [] F H F2 H' ∧ NewL K H F2 H' D ((rs.take i).flatMap PRow.writes)) ⟨F, D, none, rfl, g1, nD, [], Mu.new hw nD, .nil⟩ (fun i σ H' _ hp => ?_) (fun i x σ H' hx' hp => ?_) (fun σ H' hp => ?_)⟩
    · obtain ⟨F2, D, y, rfl, g, _⟩ := hp
      exact sqL_same g.ws hS
    · obtain ⟨F2, D, y, rfl, g, nD, vs, mu, dv⟩ := hp
      obtain ⟨r, hr, dr⟩ := row_at dus hx'
      walk_at "og"
      refine ⟨F2, r, g.fh, dp_same g.ff _ _ dr, hok r (List.mem_of_getElem? hr), fun l F3 H3 g3 nl => ?_⟩
      obtain ⟨nl0, zs, muz, dz⟩ := nl
      walk_at "og"
      have mu3 := g3.mu0 mu
      have hl := flat_len rs (i + 1)
      rw [flat_take hr, List.length_append, ← dpa_len dv, ← dpa_len dz] at hl
      refine ⟨D, l, vs, zs, rfl, rfl, mu3.h, muz.h, szle (by omega), fun p np => ?_⟩
      walk_at "og"
      have g4 := (g.trans g3).addm (o := .lst (vs ++ zs)) np
      refine ⟨F3, p, _, rfl, g4, (g.trans g3).fresh np, vs ++ zs, Mu.new g3.fh np, ?_⟩
      rw [flat_take hr]
      exact dpa_app (dpa_same g3.ff _ _ dv) dz
    · obtain ⟨F2, D, y, rfl, g, nD, vs, mu, dv⟩ := hp
      walk_at "og"
      rw [List.take_of_length_le (by rw [dpa_len dus, List.length_map]; exact Nat.le_refl _)] at dv
      exact q D F2 H' g ⟨nD, vs, mu, dv⟩
-- _law_row_gone
theorem ok_law_row_gone {f : Addr} {fd : FuncData} (F : FunD K "_law_row_gone" "_law_row_gone" (defArgs s_law_row_gone) (defBody s_law_row_gone) (defScope s_law_row_gone) [] [] f fd) (T : Txt K mg)  : FnOk P w K mg base CX0 2 f fd ["room", "slots", "row"] (S3 (φgone K)) := by
  refine F.ok sc_law_row_gone (fun vs H Q E h => ?_) (fun cdv A outer s H vs Q E hr h => ?_)
  · exact S3.len h
  · match vs, h with
    | [v0, v1, v2], h =>
    have hu := hu_of hr
    refine ⟨_, PSs.nox (pss_cons (ps_set (i := 3) sc_law_row_gone.nd rfl (.inl rfl) (pe_ifExp (pt_cmpR op_eq (pe_ix (ixT (K := K)) (pv 2) pe_int (fun _ _ => rfl)) pe_str (nomark _)) (pe_callTy clListS (by rfl) T.b_list (by decide +kernel) (pa_cons (pe_ix (ixT (K := K)) (pv 2) pe_int (fun _ _ => rfl)) pa_nil)) (pe_lst pa_nil)))
      (pss_cons (ps_if (pt_cmpR op_ne (pe_ix (ixT (K := K)) (pv 2) pe_int (fun _ _ => rfl)) pe_str (nomark _)) (pss_cons (ps_set (i := 4) sc_law_row_gone.nd rfl (.inl rfl) (pe_ifExp (pt_cmpR op_eq (pe_ix (ixT (K := K)) (pv 2) pe_int (fun _ _ => rfl)) pe_str (nomark _)) (pv 1) (pv 0)))
      (pss_one (ps_set (i := 3) sc_law_row_gone.nd rfl (.inl rfl) (pe_slice (slL (K := K)) (pv 4) (po_some (pe_ix (ixT (K := K)) (pv 2) pe_int (fun _ _ => rfl))) (po_some (pe_op op_add (pe_ix (ixT (K := K)) (pv 2) pe_int (fun _ _ => rfl)) (pe_ix (ixT (K := K)) (pv 2) pe_int (fun _ _ => rfl)))))))) pss_nil)
      (pss_cons (ps_set (i := 5) sc_law_row_gone.nd rfl (.inl rfl) (pe_ifExp (pt_cmpR op_eq (pe_ix (ixT (K := K)) (pv 2) pe_int (fun _ _ => rfl)) pe_str (nomark _)) (pv 1) (pv 0)))
      (pss_one (ps_for PassesOwn.never rfl (pi_range1 rfl T.b_range (pa_cons (pe_callB (clLenQ (K := K)) (by rfl) T.b_len (by decide +kernel) (pa_cons (pv 3) pa_nil)) pa_nil)) (pg_name (i := 6) sc_law_row_gone.nd rfl (.inl rfl)) (pss_one (ps_asg (pe_ix (ixL (K := K)) (pv 3) (pv 6) (fun _ _ => rfl)) (pg_sub (pv 5) (pe_op op_add (pe_ix (ixT (K := K)) (pv 2) pe_int (fun _ _ => rfl)) (pv 6)) set_list)))))))), ?_⟩
    rw [show start ["room", "slots", "row", "bars", "source", "target", "k"] [v0, v1, v2] = [some v0, some v1, some v2, none, none, none, none] from rfl]
    obtain ⟨F, ra, sa, st, r, rfl, rfl, hne, hw, mR, mS, hz, hok, hfit, hl1, hl2, q⟩ := h
    obtain ⟨c, sl⟩ := st
    replace mR : Mu F H ra (.lst c) := mR
    replace mS : Mu F H sa (.lst sl) := mS
    replace hl1 : c.length ≤ 100000 := hl1
    replace hl2 : sl.length ≤ 100000 := hl2
    cases r with
    | put to s =>
      obtain ⟨p, rfl, hT⟩ := dp_put hz
      have hT' := sqT_same hw hT
      obtain ⟨f0, f1⟩ := hfit
      replace f1 : to.toNat + s.length ≤ c.length := f1
      have hsl := szle (Nat.le_trans hok.2 (by decide))
      walk_at "og"
      refine w_listS hsl (fun B nB => ?_)
      have g := (Gr.refl (M := [ra, sa]) hw).add (o := .lst (chars s)) nB
      replace mR := mR.add (u := .lst (chars s)) nB
      replace mS := mS.add (u := .lst (chars s)) nB
      have hB := sqL_of (K := K) (upd_at (F := F) (p := B) (o := .lst (chars s)))
      have hT' := sqT_same g.ws hT
      have hcl := chars_len s
      generalize upd F B (.lst (chars s)) = F1 at g mR mS hB
      walk_at "og"
      have el : (((chars s).length : Nat) : Int).toNat = s.length := by omega
      refine ⟨_, rfl, by omega, by omega, f_range0 (fun i σ H' => ∃ y6, σ = [some (.ref ra), some (.ref sa), some (.ref p), some (.ref B), none, some (.ref ra), y6] ∧ Gr [ra, sa] F H F1 H' ∧ Mu F1 H' ra (.lst (putN (sgn s) c to.toNat i)) ∧ Mu F1 H' sa (.lst sl)) ⟨none, rfl, g, mR, mS⟩ (fun i σ H' hi hp => ?_) (fun σ H' hp => ?_)⟩
      · obtain ⟨y6, rfl, g, mR, mS⟩ := hp
        have hi2 : i < s.length := by omega
        have hT' := sqT_same g.ws hT
        walk_at "og"
        refine w_ixL _ _ (sqL_same g.fh hB) (atI_nat (chars_get hi2)) ?_
        walk_at "og"
        refine w_setL _ _ mR.h (ixN_in (by omega) (by rw [putN_len]; omega)) ?_
        exact ⟨_, rfl, g.put mR.n (by simp), by rw [putN_succ f0]; exact mR.wr, mS.oth hne.symm⟩
      · obtain ⟨y6, rfl, g, mR, mS⟩ := hp
        walk_at "og"
        refine q F1 H' g ?_ mS
        rw [el] at mR
        exact mR
    | mv w to a n =>
      obtain ⟨p, rfl, hT⟩ := dp_mv hz
      obtain ⟨f0, f1, f2, f3, f4⟩ := hfit
      obtain ⟨_, n5⟩ := hok
      have hT' := sqT_same hw hT
      cases w with
      | copy =>
        replace f3 : to.toNat + n.toNat ≤ c.length := f3
        replace f4 : ∀ k, k < n.toNat → ∃ v, c[a.toNat + k]? = some v ∧ v ≠ V.non := f4
        walk_at "og"
        refine ⟨le1000 (by simp), fun B0 nB0 => ?_⟩
        have g := (Gr.refl (M := [ra, sa]) hw).addm (o := .lst []) nB0
        replace mR := mR.addm (u := .lst []) nB0
        replace mS := mS.addm (u := .lst []) nB0
        have hT' := sqT_same g.ws hT
        walk_at "og"
        refine w_iteN (fun _ => ?_) (fun z => absurd z (by decide +kernel))
        walk_at "og"
        intro B nB
        rw [cut_mid f1 f2 fun k hk => by obtain ⟨v, e, _⟩ := f4 k hk; exact ⟨v, e⟩]
        obtain ⟨f, hf⟩ : ∃ f : Nat → V, f = fun k => c.getD (a.toNat + k) V.non := ⟨_, rfl⟩
        rw [← hf]
        have sw := Same.new (o := .lst ((List.range n.toNat).map f)) (g.fh.free nB)
        replace mR := mR.add (u := .lst ((List.range n.toNat).map f)) nB
        replace mS := mS.add (u := .lst ((List.range n.toNat).map f)) nB
        replace g := g.add (o := .lst ((List.range n.toNat).map f)) nB
        have hB := sqL_of (K := K) (upd_at (F := F) (p := B) (o := .lst ((List.range n.toNat).map f)))
        have hT' := sqT_same g.ws hT
        generalize upd F B (.lst ((List.range n.toNat).map f)) = F1 at g mR mS hB
        walk_at "og"
        have el : (((((List.range n.toNat).map f).length : Nat)) : Int).toNat = n.toNat := by rw [List.length_map, List.length_range]; omega
        refine ⟨_, rfl, by rw [List.length_map, List.length_range]; omega, by rw [List.length_map, List.length_range]; omega, f_range0 (fun i σ H' => ∃ y6, σ = [some (.ref ra), some (.ref sa), some (.ref p), some (.ref B), some (.ref ra), some (.ref ra), y6] ∧ Gr [ra, sa] F H F1 H' ∧ Mu F1 H' ra (.lst (putN f c to.toNat i)) ∧ Mu F1 H' sa (.lst sl)) ⟨none, rfl, g, mR, mS⟩ (fun i σ H' hi hp => ?_) (fun σ H' hp => ?_)⟩
        · obtain ⟨y6, rfl, g, mR, mS⟩ := hp
          have hi2 : i < n.toNat := by omega
          have hT' := sqT_same g.ws hT
          walk_at "og"
          refine w_ixL _ _ (sqL_same g.fh hB) (atI_nat (map_range_get hi2)) ?_
          walk_at "og"
          refine w_setL _ _ mR.h (ixN_in (by omega) (by rw [putN_len]; omega)) ?_
          exact ⟨_, rfl, g.put mR.n (by simp), by rw [putN_succ f0]; exact mR.wr, mS.oth hne.symm⟩
        · obtain ⟨y6, rfl, g, mR, mS⟩ := hp
          walk_at "og"
          refine q F1 H' g ?_ mS
          rw [el, hf] at mR
          exact mR
      | keep =>
        replace f3 : to.toNat + n.toNat ≤ sl.length := f3
        replace f4 : ∀ k, k < n.toNat → ∃ v, c[a.toNat + k]? = some v ∧ v ≠ V.non := f4
        walk_at "og"
        refine ⟨le1000 (by simp), fun B0 nB0 => ?_⟩
        have g := (Gr.refl (M := [ra, sa]) hw).addm (o := .lst []) nB0
        replace mR := mR.addm (u := .lst []) nB0
        replace mS := mS.addm (u := .lst []) nB0
        have hT' := sqT_same g.ws hT
        walk_at "og"
        refine w_iteN (fun _ => ?_) (fun z => absurd z (by decide +kernel))
        walk_at "og"
        intro B nB
        rw [cut_mid f1 f2 fun k hk => by obtain ⟨v, e, _⟩ := f4 k hk; exact ⟨v, e⟩]
        obtain ⟨f, hf⟩ : ∃ f : Nat → V, f = fun k => c.getD (a.toNat + k) V.non := ⟨_, rfl⟩
        rw [← hf]
        have sw := Same.new (o := .lst ((List.range n.toNat).map f)) (g.fh.free nB)
        replace mR := mR.add (u := .lst ((List.range n.toNat).map f)) nB
        replace mS := mS.add (u := .lst ((List.range n.toNat).map f)) nB
        replace g := g.add (o := .lst ((List.range n.toNat).map f)) nB
        have hB := sqL_of (K := K) (upd_at (F := F) (p := B) (o := .lst ((List.range n.toNat).map f)))
        have hT' := sqT_same g.ws hT
        generalize upd F B (.lst ((List.range n.toNat).map f)) = F1 at g mR mS hB
        walk_at "og"
        have el : (((((List.range n.toNat).map f).length : Nat)) : Int).toNat = n.toNat := by rw [List.length_map, List.length_range]; omega
        refine ⟨_, rfl, by rw [List.length_map, List.length_range]; omega, by rw [List.length_map, List.length_range]; omega, f_range0 (fun i σ H' => ∃ y6, σ = [some (.ref ra), some (.ref sa), some (.ref p), some (.ref B), some (.ref ra), some (.ref sa), y6] ∧ Gr [ra, sa] F H F1 H' ∧ Mu F1 H' ra (.lst c) ∧ Mu F1 H' sa (.lst (putN f sl to.toNat i))) ⟨none, rfl, g, mR, mS⟩ (fun i σ H' hi hp => ?_) (fun σ H' hp => ?_)⟩
        · obtain ⟨y6, rfl, g, mR, mS⟩ := hp
          have hi2 : i < n.toNat := by omega
          have hT' := sqT_same g.ws hT
          walk_at "og"
          refine w_ixL _ _ (sqL_same g.fh hB) (atI_nat (map_range_get hi2)) ?_
          walk_at "og"
          refine w_setL _ _ mS.h (ixN_in (by omega) (by rw [putN_len]; omega)) ?_
          exact ⟨_, rfl, g.put mS.n (by simp), mR.oth hne, by rw [putN_succ f0]; exact mS.wr⟩
        · obtain ⟨y6, rfl, g, mR, mS⟩ := hp
          walk_at "og"
          refine q F1 H' g mR ?_
          rw [el, hf] at mS
          exact mS
      | lay =>
        replace f3 : to.toNat + n.toNat ≤ c.length := f3
        replace f4 : ∀ k, k < n.toNat → ∃ v, sl[a.toNat + k]? = some v ∧ v ≠ V.non := f4
        walk_at "og"
        refine ⟨le1000 (by simp), fun B0 nB0 => ?_⟩
        have g := (Gr.refl (M := [ra, sa]) hw).addm (o := .lst []) nB0
        replace mR := mR.addm (u := .lst []) nB0
        replace mS := mS.addm (u := .lst []) nB0
        have hT' := sqT_same g.ws hT
        walk_at "og"
        refine w_iteN (fun _ => ?_) (fun z => absurd z (by decide +kernel))
        walk_at "og"
        intro B nB
        rw [cut_mid f1 f2 fun k hk => by obtain ⟨v, e, _⟩ := f4 k hk; exact ⟨v, e⟩]
        obtain ⟨f, hf⟩ : ∃ f : Nat → V, f = fun k => sl.getD (a.toNat + k) V.non := ⟨_, rfl⟩
        rw [← hf]
        have sw := Same.new (o := .lst ((List.range n.toNat).map f)) (g.fh.free nB)
        replace mR := mR.add (u := .lst ((List.range n.toNat).map f)) nB
        replace mS := mS.add (u := .lst ((List.range n.toNat).map f)) nB
        replace g := g.add (o := .lst ((List.range n.toNat).map f)) nB
        have hB := sqL_of (K := K) (upd_at (F := F) (p := B) (o := .lst ((List.range n.toNat).map f)))
        have hT' := sqT_same g.ws hT
        generalize upd F B (.lst ((List.range n.toNat).map f)) = F1 at g mR mS hB
        walk_at "og"
        have el : (((((List.range n.toNat).map f).length : Nat)) : Int).toNat = n.toNat := by rw [List.length_map, List.length_range]; omega
        refine ⟨_, rfl, by rw [List.length_map, List.length_range]; omega, by rw [List.length_map, List.length_range]; omega, f_range0 (fun i σ H' => ∃ y6, σ = [some (.ref ra), some (.ref sa), some (.ref p), some (.ref B), some (.ref sa), some (.ref ra), y6] ∧ Gr [ra, sa] F H F1 H' ∧ Mu F1 H' ra (.lst (putN f c to.toNat i)) ∧ Mu F1 H' sa (.lst sl)) ⟨none, rfl, g, mR, mS⟩ (fun i σ H' hi hp => ?_) (fun σ H' hp => ?_)⟩
        · obtain ⟨y6, rfl, g, mR, mS⟩ := hp
          have hi2 : i < n.toNat := by omega
          have hT' := sqT_same g.ws hT
          walk_at "og"
          refine w_ixL _ _ (sqL_same g.fh hB) (atI_nat (map_range_get hi2)) ?_
          walk_at "og"
          refine w_setL _ _ mR.h (ixN_in (by omega) (by rw [putN_len]; omega)) ?_
          exact ⟨_, rfl, g.put mR.n (by simp), by rw [putN_succ f0]; exact mR.wr, mS.oth hne.symm⟩
        · obtain ⟨y6, rfl, g, mR, mS⟩ := hp
          walk_at "og"
          refine q F1 H' g ?_ mS
          rw [el, hf] at mR
          exact mR
-- _law_write_done
theorem ok_law_write_done {f : Addr} {fd : FuncData} (F : FunD K "_law_write_done" "_law_write_done" (defArgs s_law_write_done) (defBody s_law_write_done) (defScope s_law_write_done) [] [] f fd) (T : Txt K mg)  : FnOk P w K mg base CX0 2 f fd ["room", "slots", "one"] (S3 (φdone K)) := by
  refine F.ok sc_law_write_done (fun vs H Q E h => ?_) (fun cdv A outer s H vs Q E hr h => ?_)
  · exact S3.len h
  · match vs, h with
    | [v0, v1, v2], h =>
    have hu := hu_of hr
    refine ⟨_, PSs.nox (pss_cons (ps_asg (pv 2) (pg_tup (by rfl) (pgs_cons (pg_name (i := 3) sc_law_write_done.nd rfl (.inl rfl)) (pgs_cons (pg_name (i := 4) sc_law_write_done.nd rfl (.inl rfl)) (pgs_cons (pg_name (i := 5) sc_law_write_done.nd rfl (.inl rfl)) (pgs_cons (pg_name (i := 6) sc_law_write_done.nd rfl (.inl rfl)) pgs_nil))))))
      (pss_cons (ps_set (i := 7) sc_law_write_done.nd rfl (.inl rfl) (pv 6))
      (C8.pss_cut (ps_if (pt_cmpR op_ne (pv 5) pe_str (nomark _)) (pss_one (ps_set (i := 7) sc_law_write_done.nd rfl (.inl rfl) (pe_ix (ixL (K := K)) (pe_ifExp (pt_cmpR op_eq (pv 5) pe_str (nomark _)) (pv 1) (pv 0)) (pv 6) (fun _ _ => rfl)))) pss_nil)
      (pss_one (ps_if (pt_cmpR op_eq (pv 3) pe_str (nomark _)) (pss_one (ps_asg (pv 7) (pg_sub (pv 1) (pv 4) set_list))) (pss_one (ps_asg (pv 7) (pg_sub (pv 0) (pv 4) set_list)))))))), ?_⟩
    rw [show start ["room", "slots", "one", "where", "number", "source", "what", "mark"] [v0, v1, v2] = [some v0, some v1, some v2, none, none, none, none, none] from rfl]
    obtain ⟨F, ra, sa, st, t, rfl, rfl, hne, hw, mR, mS, hz, hok, q⟩ := h
    obtain ⟨p, rfl, hT⟩ := dp_act hz
    obtain ⟨hrd, i, hi, hil⟩ := hok
    have hT' := sqT_same hw hT
    walk_at "og"
    refine w_cut (fun σ H' => σ = [some (.ref ra), some (.ref sa), some (.ref p), some (.str t.w), some (.int t.n), some (.str t.s), some (kV t.x), some (actV st t)] ∧ H' = H) ?_ (fun σ H' hp => ?_)
    · walk_at "og"
      refine w_iteN (fun hs => ?_) (fun hs => ?_)
      · rcases hrd with hs2 | ⟨_, j, ex, v, hv, _⟩
        · exact absurd hs2 hs
        have hav := actV_read hs ex hv
        have ekv : kV t.x = .int (j : Nat) := by rw [ex]; rfl
        rw [hav, ekv]
        walk_at "og"
        refine w_ite (fun hsl => ?_) (fun hsl => ?_)
        · rw [if_pos hsl] at hv
          walk_at "og"
          refine w_ixL _ _ mS.sq (atI_nat hv) ?_
          walk_at "og"
          exact ⟨rfl, rfl⟩
        · rw [if_neg hsl] at hv
          walk_at "og"
          refine w_ixL _ _ mR.sq (atI_nat hv) ?_
          walk_at "og"
          exact ⟨rfl, rfl⟩
      · rw [actV_sign hs]
        walk_at "og"
        exact ⟨rfl, rfl⟩
    obtain ⟨rfl, rfl⟩ := hp
    walk_at "og"
    refine w_ite (fun hs => ?_) (fun hs => ?_)
    · rw [if_pos hs] at hil
      walk_at "og"
      refine w_setL _ _ mS.h (ixN_in (by omega) (by omega)) ?_
      refine q F _ ((Gr.refl (M := [ra, sa]) hw).put mS.n (by simp)) ?_ ?_
      · rw [done_slot hs]
        exact mR.oth hne
      · rw [done_slot hs]
        exact mS.wr
    · rw [if_neg hs] at hil
      walk_at "og"
      refine w_setL _ _ mR.h (ixN_in (by omega) (by omega)) ?_
      refine q F _ ((Gr.refl (M := [ra, sa]) hw).put mR.n (by simp)) ?_ ?_
      · rw [done_cell hs]
        exact mR.wr
      · rw [done_cell hs]
        exact mS.oth hne.symm
-- _law_fault_from
theorem ok_law_fault_from {f : Addr} {fd : FuncData} (F : FunD K "_law_fault_from" "_law_fault_from" (defArgs s_law_fault_from) (defBody s_law_fault_from) (defScope s_law_fault_from) [] [] f fd) (T : Txt K mg)  : FnOk P w K mg base CX0 1 f fd ["acts", "first", "last"] (S3 (φfault K)) := by
  refine F.ok sc_law_fault_from (fun vs H Q E h => ?_) (fun cdv A outer s H vs Q E hr h => ?_)
  · exact S3.len h
  · match vs, h with
    | [v0, v1, v2], h =>
    have hu := hu_of hr
    refine ⟨_, PSs.nox (pss_cons (ps_set (i := 3) sc_law_fault_from.nd rfl (.inl rfl) pe_dnewT)
      (pss_cons (ps_for PassesOwn.never rfl (pi_range2 rfl T.b_range (pa_cons (pv 1) (pa_cons (pv 2) pa_nil))) (pg_name (i := 4) sc_law_fault_from.nd rfl (.inl rfl)) (pss_cons (ps_asg (pe_ix (ixL (K := K)) (pv 0) (pv 4) (fun _ _ => rfl)) (pg_tup (by rfl) (pgs_cons (pg_name (i := 5) sc_law_fault_from.nd rfl (.inl rfl)) (pgs_cons (pg_name (i := 6) sc_law_fault_from.nd rfl (.inl rfl)) (pgs_cons (pg_name (i := 7) sc_law_fault_from.nd rfl (.inl rfl)) (pgs_cons (pg_name (i := 8) sc_law_fault_from.nd rfl (.inl rfl)) pgs_nil))))))
      (pss_cons (ps_if (pt_cmp (pc_din hu (pe_tup (pa_cons (pv 5) (pa_cons (pv 6) pa_nil))) (pv 3))) (pss_one (ps_ret (pe_tup (pa_cons (pe_dget hu (pv 3) (pe_tup (pa_cons (pv 5) (pa_cons (pv 6) pa_nil))) (fun _ _ => rfl)) (pa_cons (pv 4) pa_nil))))) pss_nil)
      (pss_one (ps_if (PW.pt (pw_and (pt_cmpR op_ne (pv 7) pe_str (nomark _)) (pw_and1 (pt_cmp (pc_dnotin hu (pe_tup (pa_cons (pv 7) (pa_cons (pv 8) pa_nil))) (pv 3)))))) (pss_one (ps_dput hu (pv 3) (pe_tup (pa_cons (pv 7) (pa_cons (pv 8) pa_nil))) (pv 4) rfl)) pss_nil)))))
      (pss_one (ps_ret pe_non)))), ?_⟩
    rw [show start ["acts", "first", "last", "seen", "j", "where", "number", "source", "what"] [v0, v1, v2] = [some v0, some v1, some v2, none, none, none, none, none, none] from rfl]
    obtain ⟨F, acts, first, last, rfl, rfl, hw, hx, hf, hl, hn, q⟩ := h
    obtain ⟨a, us, rfl, hS, dus⟩ := dp_list hx
    walk_at "og"
    intro D nD
    have g1 : Gr [] F H F (upd H D (.dT [])) := .new hw nD
    walk_at "og"
    refine ⟨first, last, rfl, ⟨by omega, by omega, by omega, by omega⟩, f_range (lo := (first : Int)) (n := ((last : Int) - first).toNat) (fun i σ H' => ∃ (F2 : Hp) (kvs : List (List Key × Nat)) (y4 y5 y6 y7 y8 : Option V), σ = [some (.ref a), some (.int (first : Nat)), some (.int (last : Nat)), some (.ref D), y4, y5, y6, y7, y8] ∧ Gr [] F H F2 H' ∧ Mu F2 H' D (.dT (toV kvs)) ∧ kvs.length ≤ i ∧ faultFrom acts first last = faultGo ((stretch acts first last).drop i) kvs (first + i)) ⟨F, [], none, none, none, none, none, rfl, g1, Mu.new hw nD, Nat.le_refl _, rfl⟩ (fun i σ H' hi hp => ?_) (fun σ H' hp => ?_)⟩
    · obtain ⟨F2, kvs, y4, y5, y6, y7, y8, rfl, g, mD, hk, hq⟩ := hp
      have hi' : i < last - first := by omega
      obtain ⟨t, ht, er⟩ := stretch_at hi' hl
      obtain ⟨p0, gp, hT⟩ := act_at dus ht
      have hT' := sqT_same g.ws hT
      rw [er] at hq
      walk_at "og"
      refine w_ixL _ _ (sqL_same g.ws hS) (at_of' (j := first + i) (by omega) gp) ?_
      walk_at "og"
      refine ⟨le1000 (by simp), fun p np => ?_⟩
      replace mD := mD.addm (u := .tup [.str t.w, .int t.n]) np
      replace g := g.addm (o := .tup [.str t.w, .int t.n]) np
      walk_at "og"
      cases e : getN kvs t.wk with
      | some i0 =>
        rw [go_hit e] at hq
        refine w_dinT (ks := t.wk) mD.h upd_same (valV_some e) ?_
        walk_at "og"
        refine ⟨le1000 (by simp), fun p2 np2 => ?_⟩
        replace mD := mD.addm (u := .tup [.str t.w, .int t.n]) np2
        replace g := g.addm (o := .tup [.str t.w, .int t.n]) np2
        refine w_dgetT (ks := t.wk) mD.h upd_same (valV_some e) ?_
        walk_at "og"
        refine ⟨le1000 (by simp), fun p3 np3 => ?_⟩
        refine q _ _ _ (g.add np3) ?_
        rw [hq]
        refine ⟨p3, rfl, ?_⟩
        rw [Int.natCast_add]
        exact upd_same
      | none =>
        rw [go_miss e] at hq
        refine w_dinF (ks := t.wk) mD.h upd_same (valV_none e) ?_
        walk_at "og"
        refine w_iteN (fun hs => ?_) (fun hs => ?_)
        · walk_at "og"
          refine ⟨le1000 (by simp), fun p2 np2 => ?_⟩
          replace mD := mD.addm (u := .tup [.str t.s, kV t.x]) np2
          replace g := g.addm (o := .tup [.str t.s, kV t.x]) np2
          walk_at "og"
          cases e2 : getN kvs t.rk with
          | some i0 =>
            rw [step_old hs e2] at hq
            refine w_dnotinT (ks := t.rk) mD.h upd_same (valV_some e2) ?_
            walk_at "og"
            exact ⟨F2, kvs, _, _, _, _, _, rfl, g, mD, by omega, hq⟩
          | none =>
            rw [step_new hs e2] at hq
            refine w_dnotinF (ks := t.rk) mD.h upd_same (valV_none e2) ?_
            walk_at "og"
            refine ⟨le1000 (by simp), fun p4 np4 => ?_⟩
            replace mD := mD.addm (u := .tup [.str t.s, kV t.x]) np4
            replace g := g.addm (o := .tup [.str t.s, kV t.x]) np4
            refine w_dputT (ks := t.rk) mD.h upd_same (small_lt (by unfold toV; rw [List.length_map]; omega)) ?_
            rw [← Int.natCast_add, put_toV e2]
            exact ⟨F2, _, _, _, _, _, _, rfl, g.wrn mD.n nD, mD.wr, by rw [List.length_append, List.length_singleton]; omega, hq⟩
        · walk_at "og"
          rw [step_sign hs] at hq
          exact ⟨F2, kvs, _, _, _, _, _, rfl, g, mD, by omega, hq⟩
    · obtain ⟨F2, kvs, y4, y5, y6, y7, y8, rfl, g, mD, hk, hq⟩ := hp
      walk_at "og"
      refine q _ _ _ g ?_
      rw [hq, List.drop_eq_nil_of_le (by rw [stretch_len _ _ _ hl]; omega)]
      rfl
-- _law_good_marks
theorem ok_law_good_marks {f : Addr} {fd : FuncData} (F : FunD K "_law_good_marks" "_law_good_marks" (defArgs s_law_good_marks) (defBody s_law_good_marks) (defScope s_law_good_marks) [] [] f fd) (T : Txt K mg) (D_law_draw : DO P w K mg base 2 "_law_draw" ["bag", "many"] [] (S2 (φdraw K))) (D_law_fault_from : DO P w K mg base 1 "_law_fault_from" ["acts", "first", "last"] [] (S3 (φfault K))) : FnOk P w K mg base CX0 3 f fd ["bag", "acts", "often"] (S3 (φgood_marks2 K)) := by
  refine F.ok sc_law_good_marks (fun vs H Q E h => ?_) (fun cdv A outer s H vs Q E hr h => ?_)
  · exact S3.len h
  · match vs, h with
    | [v0, v1, v2], h =>
    have hu := hu_of hr
    refine ⟨_, PSs.nox (pss_cons (ps_set (i := 3) sc_law_good_marks.nd rfl (.inl rfl) pe_dnewK)
      (pss_cons (ps_set (i := 4) sc_law_good_marks.nd rfl (.inl rfl) (pcall D_law_fault_from hr (pa_cons (pv 1) (pa_cons pe_int (pa_cons (pe_callB (clLenQ (K := K)) (by rfl) T.b_len (by decide +kernel) (pa_cons (pv 1) pa_nil)) pa_nil)))))
      (pss_cons (ps_while PassesOwn.never (pt_cmp (pc_notN (pv 4)) (by rfl)) (pss_cons (ps_asg (pv 4) (pg_tup (by rfl) (pgs_cons (pg_name (i := 5) sc_law_good_marks.nd rfl (.inl rfl)) (pgs_cons (pg_name (i := 6) sc_law_good_marks.nd rfl (.inl rfl)) pgs_nil))))
      (C8.pss_cut (ps_set (i := 7) sc_law_good_marks.nd rfl (.inl rfl) (pe_ifExp (pt_cmpR op_eq (pcall D_law_draw hr (pa_cons (pv 0) (pa_cons pe_int pa_nil))) pe_int (nomark _)) (pe_op op_add (pe_op op_add (pv 5) pe_int) (pcall D_law_draw hr (pa_cons (pv 0) (pa_cons (pe_op op_sub (pv 6) (pv 5)) pa_nil)))) (pv 6)))
      (pss_cons (ps_dput hu (pv 3) (pv 7) pe_bl rfl)
      (pss_one (ps_set (i := 4) sc_law_good_marks.nd rfl (.inl rfl) (pcall D_law_fault_from hr (pa_cons (pv 1) (pa_cons (pv 7) (pa_cons (pe_callB (clLenQ (K := K)) (by rfl) T.b_len (by decide +kernel) (pa_cons (pv 1) pa_nil)) pa_nil))))))))))
      (pss_cons (ps_for PassesOwn.never rfl (pi_range2 rfl T.b_range (pa_cons pe_int (pa_cons (pe_callB (clLenQ (K := K)) (by rfl) T.b_len (by decide +kernel) (pa_cons (pv 1) pa_nil)) pa_nil))) (pg_name (i := 7) sc_law_good_marks.nd rfl (.inl rfl)) (pss_one (ps_if (pt_cmpR op_eq (pcall D_law_draw hr (pa_cons (pv 0) (pa_cons (pv 2) pa_nil))) pe_int (nomark _)) (pss_one (ps_dput hu (pv 3) (pv 7) pe_bl rfl)) pss_nil)))
      (pss_one (ps_ret (pe_callB clSortD (by rfl) T.b_sorted (by decide +kernel) (pa_cons (pv 3) pa_nil)))))))), ?_⟩
    rw [show start ["bag", "acts", "often", "bars", "fault", "i", "j", "m"] [v0, v1, v2] = [some v0, some v1, some v2, none, none, none, none, none] from rfl]
    obtain ⟨b, often, acts, F, rfl, rfl, hw, hb, hx, hn, o0, o1, q⟩ := h
    obtain ⟨a, us, rfl, hS, dus⟩ := dp_list hx
    have hlen : us.length = acts.length := by rw [dpa_len dus, List.length_map]
    walk_at "og"
    intro D nD
    have nbD := hb.ne_new nD
    have g := (Gr.refl (M := [b]) hw).addm (o := .dK []) nD
    have mD := Mu.new (o := .dK []) hw nD
    replace hb := hb.addm (u := .dK []) nD
    have hDb : D ∉ [b] := by simp; exact nbD.symm
    walk_at "og"
    refine ⟨F, acts, 0, us.length, rfl, rfl, g.fh, hx, Nat.zero_le _, by omega, by omega, fun v F1 H1 g1 hr => ?_⟩
    replace mD := g1.mu0 mD
    replace hb := hb.keep0 g1
    replace g := g.trans g1.up
    rw [hlen] at hr
    walk_at "og"
    refine w_while (fun m σ H' => ∃ (F2 : Hp) (v : V) (kvs : List (Key × V)) (ks : List Int) (lo : Nat) (y5 y6 y7 : Option V), σ = [some (.ref b), some (.ref a), some (.int often), some (.ref D), some v, y5, y6, y7] ∧ Gr [b] F H F2 H' ∧ Bag K F2 H' b ∧ Mu F2 H' D (.dK kvs) ∧ kvs.map (·.1) = ks.map Sum.inl ∧ (∀ k ∈ ks, 1 ≤ k ∧ k < (acts.length : Int)) ∧ kvs.length ≤ lo ∧ lo ≤ acts.length ∧ m = acts.length - lo ∧ ResV F2 v (faultFrom acts lo acts.length) ∧ ks.Nodup ∧ NtTo acts (ks.map Int.toNat) lo) ⟨F1, v, [], [], 0, none, none, none, rfl, g, hb, mD, rfl, by simp, Nat.le_refl _, Nat.zero_le _, rfl, hr, List.nodup_nil, nt_start⟩ (fun m σ H' hp => ?_)
    obtain ⟨F2, v, kvs, ks, lo, y5, y6, y7, rfl, g, hb, mD, hks, hkb, hkl, hlo, rfl, hr, hkn, hnt⟩ := hp
    walk_at "og"
    cases e : faultFrom acts lo acts.length with
    | some ij =>
      obtain ⟨i, j⟩ := ij
      rw [e] at hr
      obtain ⟨p, rfl, hp4⟩ := hr
      obtain ⟨r1, r2, r3⟩ := from_range (Nat.le_refl _) e
      refine w_iteN (fun _ => ?_) (fun z => by cases z)
      refine w_turn ?_
      have hT := sqT_same (K := K) g.fh (sqT_of hp4)
      walk_at "og"
      refine w_cut (fun σ H5 => ∃ (F5 : Hp) (mn : Nat), σ = [some (.ref b), some (.ref a), some (.int often), some (.ref D), some (.ref p), some (.int (i : Nat)), some (.int (j : Nat)), some (.int (mn : Nat))] ∧ Gr [b] F H F5 H5 ∧ Bag K F5 H5 b ∧ Mu F5 H5 D (.dK kvs) ∧ i < mn ∧ mn ≤ j) ?_ (fun σ H5 hp => ?_)
      · walk_at "og"
        refine d_draw g hb (by decide) (by decide) fun r F5 H5 g g1 hb _ _ => ?_
        replace mD := g1.mu mD hDb
        walk_at "og"
        refine w_ite (fun _ => ?_) (fun _ => ?_)
        · walk_at "og"
          refine d_draw g hb (by omega) (by omega) fun r F5 H5 g g1 hb q0 q1 => ?_
          replace mD := g1.mu mD hDb
          walk_at "og"
          refine ⟨F5, (i + 1 + r).toNat, ?_, g, hb, mD, by omega, by omega⟩
          rw [show (((((i : Int) + 1 + r).toNat : Nat)) : Int) = (i : Int) + 1 + r by omega]
        · walk_at "og"
          exact ⟨F5, j, rfl, g, hb, mD, r2, Nat.le_refl _⟩
      · obtain ⟨F5, mn, rfl, g, hb, mD, m1, m2⟩ := hp
        walk_at "og"
        refine w_dputI mD.h (small_lt (by omega)) ?_
        obtain ⟨ks', hks', hk', hkn', hsub, hmem⟩ := put_ints2 hks hkn (mn : Int) (.bl true)
        have hl' := length_putK kvs (.inl (mn : Int)) (.bl true)
        replace g := g.wrn (o := .dK (putK kvs (.inl (mn : Int)) (.bl true))) mD.n nD
        replace hb := hb.put (u := .dK (putK kvs (.inl (mn : Int)) (.bl true))) nbD
        replace mD := mD.wr (u := .dK (putK kvs (.inl (mn : Int)) (.bl true)))
        walk_at "og"
        refine ⟨F5, acts, mn, us.length, rfl, rfl, g.fh, dp_same g.ff _ _ hx, by omega, by omega, by omega, fun v F6 H6 g6 hr => ?_⟩
        replace mD := g6.mu0 mD
        replace hb := hb.keep0 g6
        replace g := g.trans g6.up
        rw [hlen] at hr
        walk_at "og"
        refine ⟨_, ?_, F6, v, _, ks', mn, _, _, _, rfl, g, hb, mD, hks', fun k hk => ?_, by omega, by omega, rfl, hr, hkn', hnt.next hlo e m1 m2 (List.mem_map.mpr ⟨_, hmem, Int.toNat_natCast mn⟩) fun x hx => by obtain ⟨k, h1, rfl⟩ := List.mem_map.mp hx; exact List.mem_map.mpr ⟨k, hsub k h1, rfl⟩⟩
        · omega
        · rcases hk' k hk with hk | rfl
          · exact hkb k hk
          · omega
    | none =>
      rw [e] at hr
      cases hr
      walk_at "og"
      refine ⟨1, us.length, rfl, ⟨by omega, by omega, by omega, by omega⟩, f_range (lo := 1) (n := ((us.length : Int) - 1).toNat) (fun i σ H' => ∃ (F2 : Hp) (kvs : List (Key × V)) (ks : List Int) (y7 : Option V), σ = [some (.ref b), some (.ref a), some (.int often), some (.ref D), some .non, y5, y6, y7] ∧ Gr [b] F H F2 H' ∧ Bag K F2 H' b ∧ Mu F2 H' D (.dK kvs) ∧ kvs.map (·.1) = ks.map Sum.inl ∧ (∀ k ∈ ks, 1 ≤ k ∧ k < (acts.length : Int)) ∧ kvs.length ≤ acts.length + i ∧ ks.Nodup ∧ ∀ i j, ¬ TT acts (ks.map Int.toNat) i j) ⟨F2, kvs, ks, y7, rfl, g, hb, mD, hks, hkb, by omega, hkn, hnt.done hlo e⟩ (fun i σ H' hi hp => ?_) (fun σ H' hp => ?_)⟩
      · obtain ⟨F2, kvs, ks, y7, rfl, g, hb, mD, hks, hkb, hkl, hkn, hnn⟩ := hp
        walk_at "og"
        refine d_draw g hb o0 o1 fun r F5 H5 g g1 hb _ _ => ?_
        replace mD := g1.mu mD hDb
        walk_at "og"
        refine w_ite (fun _ => ?_) (fun _ => ?_)
        · walk_at "og"
          refine w_dputI mD.h (small_lt (by omega)) ?_
          obtain ⟨ks', hks', hk', hkn', hsub, hmem⟩ := put_ints2 hks hkn (1 + (i : Int)) (.bl true)
          have hl' := length_putK kvs (.inl (1 + (i : Int))) (.bl true)
          refine ⟨F5, _, ks', _, rfl, g.wrn mD.n nD, hb.put nbD, mD.wr, hks', fun k hk => ?_, by omega, hkn', fun i j t => hnn i j (tt_more (fun x hx => by obtain ⟨k, h1, rfl⟩ := List.mem_map.mp hx; exact List.mem_map.mpr ⟨k, hsub k h1, rfl⟩) t)⟩
          rcases hk' k hk with hk | rfl
          · exact hkb k hk
          · omega
        · walk_at "og"
          exact ⟨F5, kvs, ks, _, rfl, g, hb, mD, hks, hkb, by omega, hkn, hnn⟩
      · obtain ⟨F2, kvs, ks, y7, rfl, g, hb, mD, hks, hkb, hkl, hkn, hnn⟩ := hp
        walk_at "og"
        refine ⟨D, kvs, ks, rfl, .inl mD.h, hks, fun ys p perm hsrt np => ?_⟩
        obtain ⟨ms, em, hm, hml⟩ := ints_nat (n := acts.length) (ys := ys) fun k hk => hkb k (perm.mem_iff.mp hk)
        rw [em]
        obtain ⟨hri, hri2⟩ := rise_of em hm perm hkn hsrt
        refine q p ms _ _ (g.add np) (hb.add g.fh np) ⟨upd_same, hm, ?_⟩ hri fun i j t => hnn i j (tt_more hri2 t)
        have h1 := congrArg List.length hks
        rw [List.length_map, List.length_map] at h1
        rw [hml, perm.length_eq, ← h1]
        omega
-- _law_state
theorem ok_law_state {f : Addr} {fd : FuncData} (F : FunD K "_law_state" "_law_state" (defArgs s_law_state) (defBody s_law_state) (defScope s_law_state) [] [] f fd) (T : Txt K mg) (D_law_writes : DO P w K mg base 2 "_law_writes" ["deeds"] [] (S1 (φwrites K))) : FnOk P w K mg base CX0 3 f fd ["before", "deeds", "bars", "slots", "big"] (S5 (φlstateN K)) := by
  refine F.ok sc_law_state (fun vs H Q E h => ?_) (fun cdv A outer s H vs Q E hr h => ?_)
  · exact S5.len h
  · match vs, h with
    | [v0, v1, v2, v3, v4], h =>
    have hu := hu_of hr
    refine ⟨_, PSs.nox (pss_cons (ps_set (i := 5) sc_law_state.nd rfl (.inl rfl) (pe_op op_cat (pe_callTy clListS (by rfl) T.b_list (by decide +kernel) (pa_cons (pv 0) pa_nil)) (pe_op op_rep (pe_lst (pa_cons pe_non pa_nil)) (pe_op op_sub (pv 4) (pe_callB clLenS (by rfl) T.b_len (by decide +kernel) (pa_cons (pv 0) pa_nil))))))
      (pss_one (ps_ret (pe_lst (pa_cons (pv 5) (pa_cons (pe_op op_rep (pe_lst (pa_cons pe_non pa_nil)) (pv 3)) (pa_cons (pcall D_law_writes hr (pa_cons (pv 1) pa_nil)) (pa_cons (pe_callTy (clDictP (K := K)) (by rfl) T.b_dict (by decide +kernel) (pa_cons (pe_lc (own := [("m", 6)]) (g := gName 6) rfl sc_law_state.nd (pi_list (pv 2)) (blkOk_by (own := [("m", 6)]) (N := ["before", "deeds", "bars", "slots", "big", "room", "m"]) (sc := defScope s_law_state) (by decide +kernel)) (fun _ _ _ _ _ => pg_name (i := 6) sc_law_state.nd rfl (Or.inl rfl)) (fun _ _ _ _ _ => pts_nil) (fun _ _ _ _ _ => (pe_tup (pa_cons (pv 6) (pa_cons pe_bl pa_nil))))) pa_nil)) (pa_cons pe_int (pa_cons pe_int pa_nil)))))))))), ?_⟩
    rw [show start ["before", "deeds", "bars", "slots", "big", "room", "m"] [v0, v1, v2, v3, v4] = [some v0, some v1, some v2, some v3, some v4, none, none] from rfl]
    obtain ⟨F, pp, pm, o, vs, rs, ms, slots, big, rfl, rfl, rfl, rfl, rfl, hw, hP, hD, hM, hrok, hrs, hml, oko, hol, hsl, hbg, q⟩ := h
    have w := (((W.start (M := []) hw).push (imL K pp vs) hP).push (dpa K vs (rs.map PRow.d)) hD).push (imL K pm (nV ms)) hM
    walk_at "go"
    refine n_listS w (szle (by omega)) fun p1 F1 H1 w hp1 => ?_
    walk_at "go"
    refine n_lst w (szle (by simp)) fun p2 F1 H1 w hp2 => ?_
    walk_at "go"
    refine n_rep w (by walk_at "at") (by omega) (by omega) (szle (by show 1 * _ ≤ _; omega)) fun p3 F1 H1 w hp3 => ?_
    rw [show (List.replicate (((big : Nat) : Int) - ((o.length : Nat) : Int)).toNat [V.non]).flatten = List.replicate (big - o.length) V.non by rw [List.flatten_replicate_singleton, show (((big : Nat) : Int) - ((o.length : Nat) : Int)).toNat = big - o.length by omega]] at w
    walk_at "go"
    refine n_cat (p := p1) (q := p3) w (by walk_at "at") (by walk_at "at") (szle (by rw [chars_len, List.length_replicate]; omega)) fun pr F1 H1 w hpr => ?_
    walk_at "go"
    refine n_lst w (szle (by simp)) fun p4 F1 H1 w hp4 => ?_
    walk_at "go"
    refine n_rep w (by walk_at "at") (by omega) (by omega) (szle (by show 1 * _ ≤ _; omega)) fun pq F1 H1 w hpq => ?_
    rw [show (List.replicate (((slots : Nat) : Int)).toNat [V.non]).flatten = List.replicate slots V.non by rw [Int.toNat_natCast, List.flatten_replicate_singleton]] at w
    walk_at "go"
    refine ⟨_, rs, w.fh, .lst (w.imL (p := pp) (by walk_at "mem")) (w.dpa (by walk_at "mem")), hrok, hrs, fun pw F3 H3 g3 l3 => ?_⟩
    obtain ⟨ws, hpw, hwd, w⟩ := w.grL0 g3 l3
    rw [← acts_all] at hwd
    replace w := w.push (dpa K ws ((rs.flatMap PRow.acts).map WAct.d)) hwd
    obtain ⟨F4, w⟩ := w.fzL (p := pw) (by walk_at "pick") hpw
    walk_at "go"
    replace w := w.push (tps [] (mkV (ms.take 0))) Paired.nil
    refine n_lcL (nV ms) w (fun j ys L => ∃ ts : List Addr, ys = ts.map V.ref ∧ ts.length = j ∧ L = [tps ts (mkV (ms.take j)), mu pr (.lst (chars o ++ List.replicate (big - o.length) V.non)), mu pq (.lst (List.replicate slots V.non)), fx pw (.lst ws), dpa K ws ((rs.flatMap PRow.acts).map WAct.d), imL K pm (nV ms)]) ⟨[], rfl, rfl, rfl⟩ (fun j ys L F' H' D hp w => ?_) (fun j x ys L F' H' D hx hp w hD => ?_) (fun D ys L F' H' hp w hD => ?_)
    · obtain ⟨ts, rfl, htl, rfl⟩ := hp
      walk_at "sq"
    · obtain ⟨ts, rfl, htl, rfl⟩ := hp
      obtain ⟨m, hm, rfl⟩ := nV_at hx
      have hjl := (List.getElem?_eq_some_iff.mp hm).1
      walk_at "wp"
      walk_at "go"
      refine n_tup w (szle (by simp)) fun t F7 H7 w => ?_
      replace w := w.push (tps (ts ++ [t]) (mkV (ms.take (j + 1)))) (by
        rw [List.take_add_one, hm, show (some m).toList = [m] from rfl, mkV_snoc]
        exact paired_snoc (w.i (tps ts (mkV (ms.take j))) (by walk_at "mem")) (w.i (fx t (.tup [.int (m : Nat), .bl true])) (by walk_at "mem")))
      exact n_acc (ts.map V.ref) w ⟨ts ++ [t], by rw [List.map_append]; rfl, by rw [List.length_append, htl]; rfl, rfl⟩ (by walk_at "pk") (small_lt (by rw [List.length_map]; omega))
    obtain ⟨ts, rfl, htl, rfl⟩ := hp
    rw [nV_len, List.take_length] at w
    walk_at "go"
    refine n_dictP (kvs := mkV ms) w (by walk_at "sq") (by walk_at "mem") fun pb F8 H8 w hpb => ?_
    have hkb := keys_merge ms
    obtain ⟨F9, w⟩ : ∃ F9, W _ _ _ F9 _ _ := ⟨_, (w.fz (p := pb) (by walk_at "pick") hpb).push (fx pb (.dK (mergeK [] (mkV ms)))) upd_same⟩
    walk_at "go"
    refine n_lst w (szle (by simp)) fun p9 F1 H1 w hp9 => ?_
    replace w := w.push (imL K pw ws) (sqL_of (w.i (fx pw (.lst ws)) (by walk_at "mem")))
    refine q ⟨p9, pr, pq, pw, pb, ws, mergeK [] (mkV ms)⟩ _ _ (W.clsL (s := ⟨stR o big slots, 0, 0⟩) (w.to (by walk_at "pick")) hkb) (fun x hx => ?_) (Nat.le_trans (mergeK_len _ _) (by unfold mkV; rw [List.length_map]; show 0 + _ ≤ _; omega))
    rcases List.mem_cons.mp hx with rfl | hx
    · exact hp9
    · rcases List.mem_cons.mp hx with rfl | hx
      · exact hpr
      · rw [List.mem_singleton.mp hx]; exact hpq
-- _law_stepped
theorem ok_law_stepped {f : Addr} {fd : FuncData} (F : FunD K "_law_stepped" "_law_stepped" (defArgs s_law_stepped) (defBody s_law_stepped) (defScope s_law_stepped) [] [] f fd) (T : Txt K mg) (D_law_write_done : DO P w K mg base 2 "_law_write_done" ["room", "slots", "one"] [] (S3 (φdone K))) : FnOk P w K mg base CX0 3 f fd ["state"] (S1 (φlstepped K)) := by
  refine F.ok sc_law_stepped (fun vs H Q E h => ?_) (fun cdv A outer s H vs Q E hr h => ?_)
  · exact S1.len h
  · match vs, h with
    | [v0], h =>
    have hu := hu_of hr
    refine ⟨_, PSs.nox (C8.pss_cut (ps_if (PW.pt (pw_and (pt_cmpR op_gt (pe_ix (ixL (K := K)) (pv 0) pe_int (fun _ _ => rfl)) (pe_ix (ixL (K := K)) (pv 0) pe_int (fun _ _ => rfl)) (nomark _)) (pw_and1 (pt_cmp (pc_din hu (pe_ix (ixL (K := K)) (pv 0) pe_int (fun _ _ => rfl)) (pe_ix (ixL (K := K)) (pv 0) pe_int (fun _ _ => rfl))))))) (pss_cons (ps_asg (pe_ix (ixL (K := K)) (pv 0) pe_int (fun _ _ => rfl)) (pg_sub (pv 0) pe_int set_list))
      (pss_one (ps_ret pe_bl))) pss_nil)
      (pss_cons (ps_if (pt_cmpR op_eq (pe_ix (ixL (K := K)) (pv 0) pe_int (fun _ _ => rfl)) (pe_callB (clLenQ (K := K)) (by rfl) T.b_len (by decide +kernel) (pa_cons (pe_ix (ixL (K := K)) (pv 0) pe_int (fun _ _ => rfl)) pa_nil)) (nomark _)) (pss_one (ps_ret pe_bl)) pss_nil)
      (pss_cons (ps_expr (pcall D_law_write_done hr (pa_cons (pe_ix (ixL (K := K)) (pv 0) pe_int (fun _ _ => rfl)) (pa_cons (pe_ix (ixL (K := K)) (pv 0) pe_int (fun _ _ => rfl)) (pa_cons (pe_ix (ixL (K := K)) (pe_ix (ixL (K := K)) (pv 0) pe_int (fun _ _ => rfl)) (pe_ix (ixL (K := K)) (pv 0) pe_int (fun _ _ => rfl)) (fun _ _ => rfl)) pa_nil)))))
      (pss_cons (ps_asg (pe_op op_add (pe_ix (ixL (K := K)) (pv 0) pe_int (fun _ _ => rfl)) pe_int) (pg_sub (pv 0) pe_int set_list))
      (pss_one (ps_ret pe_bl)))))), ?_⟩
    rw [show start ["state"] [v0] = [some v0] from rfl]
    obtain ⟨F, a, acts, bars, s, rfl, s0, ⟨hle, hok⟩, hal, q⟩ := h
    have w := s0.w (M := [a.p, a.pr, a.pq])
    obtain ⟨w, hk⟩ := w.opnL
    have hwl : a.ws.length = acts.length := by rw [dpa_len (w.dpa (K := K) (xs := a.ws) (ds := acts.map WAct.d) (by walk_at "mem")), List.length_map]
    unfold lsO at w
    walk_at "go"
    refine n_cut w (fun σ L => ¬ (s.kept < s.gone ∧ s.gone ∈ bars) ∧ σ = [some (.ref a.p)] ∧ L = [mu a.p (lsO a s.kept s.gone), mu a.pr (.lst s.st.1), mu a.pq (.lst s.st.2), imL K a.pw a.ws, dpa K a.ws (acts.map WAct.d), fx a.pd (.dK a.kvs)]) ?_ (fun σ L F' H' hp w => ?_)
    · walk_at "go"
      by_cases h1 : s.kept < s.gone
      · rw [decide_eq_true (show ((s.kept : Nat) : Int) < ((s.gone : Nat) : Int) by omega)]
        walk_at "go"
        refine n_dinK (by walk_at "at") ?_
        rw [hk]
        by_cases h2 : s.gone ∈ bars
        · rw [decide_eq_true h2]
          walk_at "go"
          refine n_setL (p := a.p) w (by walk_at "pick") 4 rfl fun H2 w => ?_
          walk_at "go"
          rw [rstep_mark ⟨h1, h2⟩] at q
          exact q _ _ (W.clsL (s := ⟨s.st, s.gone, s.gone⟩) (w.to (by walk_at "pick")) hk)
        · rw [decide_eq_false h2]
          walk_at "go"
          exact nx_mk w ⟨fun z => h2 z.2, rfl, rfl⟩ (by walk_at "pk")
      · rw [decide_eq_false (show ¬ ((s.kept : Nat) : Int) < ((s.gone : Nat) : Int) by omega)]
        walk_at "go"
        exact nx_mk w ⟨fun z => h1 z.1, rfl, rfl⟩ (by walk_at "pk")
    · obtain ⟨hm, rfl, rfl⟩ := hp
      walk_at "go"
      cases et : acts[s.gone]? with
      | none =>
        have hgl := List.getElem?_eq_none_iff.mp et
        rw [decide_eq_true (show ((s.gone : Nat) : Int) = ((a.ws.length : Nat) : Int) by omega)]
        walk_at "go"
        rw [rstep_end hm et] at q
        exact q _ _ (W.clsL (w.to (by walk_at "pick")) hk)
      | some t =>
        have hgl := (List.getElem?_eq_some_iff.mp et).1
        rw [decide_eq_false (show ¬ ((s.gone : Nat) : Int) = ((a.ws.length : Nat) : Int) by omega)]
        walk_at "go"
        rw [rstep_act hm et] at q
        obtain ⟨hoa, hwf⟩ := hok t et
        obtain ⟨y, hy⟩ : ∃ y, a.ws[s.gone]? = some y := ⟨_, List.getElem?_eq_getElem (by omega)⟩
        obtain ⟨t2, ht2, dt⟩ := dpa_at (w.dpa (K := K) (xs := a.ws) (ds := acts.map WAct.d) (by walk_at "mem")) hy
        rw [et] at ht2
        cases ht2
        refine w_ixL _ _ (by walk_at "sq") (atI_nat hy) ?_
        walk_at "go"
        have hd := w.d
        refine ⟨_, a.pr, a.pq, s.st, t, rfl, rfl, ?_, w.fh, w.mu (by walk_at "mem"), w.mu (by walk_at "mem"), dt, hoa, fun F2 H2 g2 m1 m2 => ?_⟩
        · have hd2 : (a.pr :: a.pq :: []).Nodup := (w.to (D := [mu a.pr (.lst s.st.1), mu a.pq (.lst s.st.2)]) (by walk_at "pick")).d
          intro e
          rw [e] at hd2
          exact absurd (List.mem_singleton.mpr rfl) (List.nodup_cons.mp hd2).1
        · replace w := w.gr2 (by walk_at "pick") g2 m1 m2
          walk_at "go"
          refine n_setL (p := a.p) w (by walk_at "pick") 5 rfl fun H2 w => ?_
          walk_at "go"
          exact q _ _ (W.clsL (s := ⟨doneAct s.st t, s.kept, s.gone + 1⟩) (w.to (by walk_at "pick")) hk)
-- _law_case
theorem ok_law_case {f : Addr} {fd : FuncData} (F : FunD K "_law_case" "_law_case" (defArgs s_law_case) (defBody s_law_case) (defScope s_law_case) [] [] f fd) (T : Txt K mg) (D_law_any_plan_6 : DO P w K mg base 6 "_law_any_plan" ["bag", "n", "big", "slots", "rows", "few", "most"] [.int 1500] (S7 (φany_planS K))) (D_law_good_marks : DO P w K mg base 3 "_law_good_marks" ["bag", "acts", "often"] [] (S3 (φgood_marks2 K))) (D_law_row_gone : DO P w K mg base 2 "_law_row_gone" ["room", "slots", "row"] [] (S3 (φgone K))) (D_law_shape : DO P w K mg base 3 "_law_shape" ["bag"] [] (S1 (φshape K))) (D_law_text : DO P w K mg base 4 "_law_text" ["bag", "few", "many"] [] (S3 (φtext K))) (D_law_writes : DO P w K mg base 2 "_law_writes" ["deeds"] [] (S1 (φwrites K))) : FnOk P w K mg base CX0 7 f fd ["bag", "few", "often"] (S3 (φcase K)) := by
  refine F.ok sc_law_case (fun vs H Q E h => ?_) (fun cdv A outer s H vs Q E hr h => ?_)
  · exact S3.len h
  · match vs, h with
    | [v0, v1, v2], h =>
    have hu := hu_of hr
    refine ⟨_, PSs.nox (pss_cons (ps_asg (pcall D_law_shape hr (pa_cons (pv 0) pa_nil)) (pg_tup (by rfl) (pgs_cons (pg_name (i := 3) sc_law_case.nd rfl (.inl rfl)) (pgs_cons (pg_name (i := 4) sc_law_case.nd rfl (.inl rfl)) (pgs_cons (pg_name (i := 5) sc_law_case.nd rfl (.inl rfl)) (pgs_cons (pg_name (i := 6) sc_law_case.nd rfl (.inl rfl)) pgs_nil))))))
      (pss_cons (ps_set (i := 7) sc_law_case.nd rfl (.inl rfl) (pcall D_law_any_plan_6 hr (pa_cons (pv 0) (pa_cons (pv 3) (pa_cons (pv 4) (pa_cons (pv 5) (pa_cons (pv 6) (pa_cons (pv 1) pa_nil))))))))
      (pss_cons (ps_set (i := 8) sc_law_case.nd rfl (.inl rfl) (pcall D_law_text hr (pa_cons (pv 0) (pa_cons (pv 1) (pa_cons (pv 3) pa_nil)))))
      (pss_cons (ps_set (i := 9) sc_law_case.nd rfl (.inl rfl) (pcall D_law_good_marks hr (pa_cons (pv 0) (pa_cons (pcall D_law_writes hr (pa_cons (pv 7) pa_nil)) (pa_cons (pv 2) pa_nil)))))
      (pss_cons (ps_set (i := 10) sc_law_case.nd rfl (.inl rfl) (pe_op op_cat (pe_callTy clListS (by rfl) T.b_list (by decide +kernel) (pa_cons (pv 8) pa_nil)) (pe_op op_rep (pe_lst (pa_cons pe_non pa_nil)) (pe_op op_sub (pv 4) (pv 3)))))
      (pss_cons (ps_set (i := 11) sc_law_case.nd rfl (.inl rfl) (pe_op op_rep (pe_lst (pa_cons pe_non pa_nil)) (pv 5)))
      (pss_cons (ps_for PassesOwn.never rfl (pi_list (pv 7)) (pg_name (i := 12) sc_law_case.nd rfl (.inl rfl)) (pss_one (ps_expr (pcall D_law_row_gone hr (pa_cons (pv 10) (pa_cons (pv 11) (pa_cons (pv 12) pa_nil)))))))
      (pss_one (ps_ret (pe_tup (pa_cons (pv 8) (pa_cons (pv 7) (pa_cons (pv 9) (pa_cons (pv 5) (pa_cons (pv 4) (pa_cons (pv 10) pa_nil)))))))))))))))), ?_⟩
    rw [show start ["bag", "few", "often", "n", "big", "slots", "rows", "deeds", "before", "bars", "room", "aside", "row"] [v0, v1, v2] = [some v0, some v1, some v2, none, none, none, none, none, none, none, none, none, none] from rfl]
    obtain ⟨F, b, f, often, rfl, rfl, rfl, s0, of0, of1, q⟩ := h
    have w := s0.w (M := [b])
    walk_at "go"
    refine ⟨b, _, rfl, w.fh, w.bag (by walk_at "mem"), fun t n big slots rows F1 H1 g hb ht n0 n1 b1 sl0 sl1 r0 r1 => ?_⟩
    replace w := (w.gr1 (o := bag K b) (by walk_at "pick") g hb).push (fx t (.tup [.int n, .int big, .int slots, .int rows])) ht
    obtain ⟨n, rfl⟩ : ∃ m : Nat, n = (m : Int) := ⟨n.toNat, by omega⟩
    obtain ⟨big, rfl⟩ : ∃ m : Nat, big = (m : Int) := ⟨big.toNat, by omega⟩
    obtain ⟨slots, rfl⟩ : ∃ m : Nat, slots = (m : Int) := ⟨slots.toNat, by omega⟩
    walk_at "go"
    refine ⟨b, _, _, _, rows, 1500, f, _, rfl, rfl, rfl, rfl, rfl, rfl, rfl, w.fh, w.bag (by walk_at "mem"), by omega, by omega, by omega, by omega, by omega, by omega, by omega, by omega, by omega, fun pd rs F2 H2 g hb nl oks hsz hln hcan => ?_⟩
    obtain ⟨vs, npd, dv, w⟩ := w.grL (D := [bag K b]) (by walk_at "pick") g (fun o ho => by rw [List.mem_singleton.mp ho]; exact hb) nl (.cons .nil)
    replace w := w.push (dpa K vs (rs.map PRow.d)) dv
    obtain ⟨F3, w⟩ := w.fzL (p := pd) (by walk_at "pick") npd
    simp only [Int.toNat_natCast] at hcan
    walk_at "go"
    refine ⟨b, f, _, _, rfl, rfl, rfl, w.fh, w.bag (by walk_at "mem"), by omega, by omega, fun o F4 H4 g hb hol oko => ?_⟩
    replace w := w.gr1 (o := bag K b) (by walk_at "pick") g hb
    have hol2 : o.length = n := by omega
    walk_at "go"
    refine ⟨_, rs, w.fh, .lst (sqL_of (w.i (fx pd (.lst vs)) (by walk_at "mem"))) (w.dpa (by walk_at "mem")), oks, by omega, fun pw F5 H5 g3 l3 => ?_⟩
    obtain ⟨ws, hpw, hwd, w⟩ := w.grL0 g3 l3
    rw [← acts_all] at hwd
    replace w := w.push (dpa K ws ((rs.flatMap PRow.acts).map WAct.d)) hwd
    obtain ⟨F6, w⟩ := w.fzL (p := pw) (by walk_at "pick") hpw
    walk_at "go"
    refine ⟨b, often, rs.flatMap PRow.acts, _, rfl, rfl, w.fh, w.bag (by walk_at "mem"), .lst (sqL_of (w.i (fx pw (.lst ws)) (by walk_at "mem"))) (w.dpa (by walk_at "mem")), by rw [acts_sum]; exact hsz, of0, of1, fun pm ms F7 H7 g hb hm hri hnt => ?_⟩
    replace w := (w.gr1 (o := bag K b) (by walk_at "pick") g hb).push (fx pm (.lst (nV ms))) hm.at_
    walk_at "go"
    refine n_listS w (szle (by omega)) fun p1 F1 H1 w hp1 => ?_
    walk_at "go"
    refine n_lst w (szle (by simp)) fun p2 F1 H1 w hp2 => ?_
    walk_at "go"
    refine n_rep w (by walk_at "at") (by omega) (by omega) (szle (by show 1 * _ ≤ _; omega)) fun p3 F1 H1 w hp3 => ?_
    rw [show (List.replicate (((big : Nat) : Int) - ((n : Nat) : Int)).toNat [V.non]).flatten = List.replicate (big - o.length) V.non by rw [List.flatten_replicate_singleton, show (((big : Nat) : Int) - ((n : Nat) : Int)).toNat = big - o.length by omega]] at w
    walk_at "go"
    refine n_cat (p := p1) (q := p3) w (by walk_at "at") (by walk_at "at") (szle (by rw [chars_len, List.length_replicate]; omega)) fun pr F1 H1 w hpr => ?_
    walk_at "go"
    refine n_lst w (szle (by simp)) fun p4 F1 H1 w hp4 => ?_
    walk_at "go"
    refine n_rep w (by walk_at "at") (by omega) (by omega) (szle (by show 1 * _ ≤ _; omega)) fun pq F1 H1 w hpq => ?_
    rw [show (List.replicate (((slots : Nat) : Int)).toNat [V.non]).flatten = List.replicate slots V.non by rw [Int.toNat_natCast, List.flatten_replicate_singleton]] at w
    walk_at "go"
    have hcan2 : CanAll (flags0 o.length big slots) rs := by rw [hol2]; exact hcan
    have hmt := matchS (o := o) (big := big) (slots := slots) rfl (by omega)
    refine n_forL vs w (fun i σ L => ∃ y, σ = [some (.ref b), some (.bl f), some (.int often), some (.int (n : Nat)), some (.int (big : Nat)), some (.int (slots : Nat)), some (.int rows), some (.ref pd), some (.str o), some (.ref pm), some (.ref pr), some (.ref pq), y] ∧ L = [mu pr (.lst (goneAll (stR o big slots) (rs.take i)).1), mu pq (.lst (goneAll (stR o big slots) (rs.take i)).2), fx pd (.lst vs), dpa K vs (rs.map PRow.d), fx pm (.lst (nV ms)), bag K b]) ⟨none, rfl, rfl⟩ (fun i σ L F' H' hp w => ?_) (fun i x σ L F' H' hx hp w => ?_) (fun σ L F' H' hp w => ?_)
    · obtain ⟨y, rfl, rfl⟩ := hp
      walk_at "sq"
    · obtain ⟨y, rfl, rfl⟩ := hp
      obtain ⟨r, hr, dr⟩ := dpa_at (w.dpa (K := K) (xs := vs) (ds := rs.map PRow.d) (by walk_at "mem")) hx
      have hgl := gone_all_len (rs.take i) (stR o big slots)
      have hsl := stR_len o big slots
      walk_at "go"
      refine ⟨_, pr, pq, goneAll (stR o big slots) (rs.take i), r, rfl, rfl, ?_, w.fh, w.mu (by walk_at "mem"), w.mu (by walk_at "mem"), dr, oks r (List.mem_of_getElem? hr), can_at hmt hcan2 hr, by omega, by omega, fun F2 H2 g2 m1 m2 => ?_⟩
      · have hd2 : (pr :: pq :: []).Nodup := (w.to (D := [mu pr _, mu pq _]) (by walk_at "pick")).d
        intro e
        rw [e] at hd2
        exact absurd (List.mem_singleton.mpr rfl) (List.nodup_cons.mp hd2).1
      · replace w := w.gr2 (by walk_at "pick") g2 m1 m2
        rw [← gone_take _ hr] at w
        walk_at "go"
        exact nx_mk w ⟨_, rfl, rfl⟩ (by walk_at "pk")
    · obtain ⟨y, rfl, rfl⟩ := hp
      have hvl : vs.length = rs.length := by rw [dpa_len (w.dpa (K := K) (xs := vs) (ds := rs.map PRow.d) (by walk_at "mem")), List.length_map]
      rw [hvl, List.take_length] at w
      walk_at "go"
      refine n_tup w (szle (by simp)) fun p9 F9 H9 w => ?_
      obtain ⟨F10, w⟩ := w.fzL (p := pr) (by walk_at "pick") hpr
      refine q ⟨p9, pd, pm, pr, vs⟩ o rs ms slots big _ _ ((w.push (caseP K ⟨p9, pd, pm, pr, vs⟩ o rs ms slots big) ⟨?_, w.i (fx pd _) (by walk_at "mem"), w.dpa (by walk_at "mem"), w.i (fx pm _) (by walk_at "mem"), w.i (fx pr _) (by walk_at "mem")⟩).to (by walk_at "pick")) ⟨oko, by omega, by omega, by omega, oks, hsz, hln, hcan2, hm.len, hri, hnt⟩
      exact w.i (fx p9 _) (by walk_at "mem")
-- _law_spoil
theorem ok_law_spoil {f : Addr} {fd : FuncData} (F : FunD K "_law_spoil" "_law_spoil" (defArgs s_law_spoil) (defBody s_law_spoil) (defScope s_law_spoil) [] [] f fd) (T : Txt K mg) (D_law_draw : DO P w K mg base 2 "_law_draw" ["bag", "many"] [] (S2 (φdraw K))) : FnOk P w K mg base CX0 4 f fd ["bag", "rows"] (S2 (φlspoil K)) := by
  refine F.ok sc_law_spoil (fun vs H Q E h => ?_) (fun cdv A outer s H vs Q E hr h => ?_)
  · exact S2.len h
  · match vs, h with
    | [v0, v1], h =>
    have hu := hu_of hr
    refine ⟨_, PSs.nox (pss_cons (ps_set (i := 2) sc_law_spoil.nd rfl (.inl rfl) (pcall D_law_draw hr (pa_cons (pv 0) (pa_cons pe_int pa_nil))))
      (pss_one (ps_if (PW.pt (pw_or (pt_cmpR op_eq (pv 2) pe_int (nomark _)) (pw_or1 (pt_cmpR (opEqD (K := K) hr.units) (pv 1) (pe_lst pa_nil) (nomark _))))) (pss_one (ps_expr (peBM (K := K) PySem.F.plainAttrs_list PySem.F.slot_list_append PySem.F.type_list_append mt_append (pv 1) (pa_cons (pe_tup (pa_cons pe_str (pa_cons pe_int (pa_cons pe_str pa_nil)))) pa_nil)))) (pss_one (ps_if (pt_cmpR op_eq (pv 2) pe_int (nomark _)) (pss_one (ps_expr (peBM0 (K := K) PySem.F.plainAttrs_list PySem.F.slot_list_clear PySem.F.type_list_clear mt_clear (pv 1)))) (pss_one (ps_if (pt_cmpR op_eq (pv 2) pe_int (nomark _)) (pss_one (ps_expr (peBM0 (K := K) PySem.F.plainAttrs_list PySem.F.slot_list_reverse PySem.F.type_list_reverse mt_reverse (pv 1)))) (pss_one (ps_asg (pe_tup (pa_cons pe_str (pa_cons pe_int (pa_cons pe_str pa_nil)))) (pg_sub (pv 1) (pcall D_law_draw hr (pa_cons (pv 0) (pa_cons (pe_callB (clLenQ (K := K)) (by rfl) T.b_len (by decide +kernel) (pa_cons (pv 1) pa_nil)) pa_nil))) set_list)))))))))), ?_⟩
    rw [show start ["bag", "rows", "way"] [v0, v1] = [some v0, some v1, none] from rfl]
    obtain ⟨F, b, p, vs, rs, rfl, rfl, s0, hD, hok, hvl, q⟩ := h
    have w := (s0.w (M := [b, p])).push (dpa K vs (rs.map PRow.d)) hD
    have hml : vs.length = rs.length := by rw [dpa_len hD, List.length_map]
    walk_at "go"
    refine n_draw w (by walk_at "pick") (by decide) (by decide) fun way F1 H1 w w0 w1 => ?_
    walk_at "go"
    refine w_ite (fun hz => ?_) (fun hz => ?_)
    · rw [if_pos rfl]
      walk_at "go"
      refine n_tup w (szle (by simp)) fun t F2 H2 w => ?_
      walk_at "go"
      refine n_app (p := p) w (by walk_at "pick") (small_lt (by omega)) fun H3 w => ?_
      have hT : F2 t = some (.tup [.str "put", .int 0, .str "x"]) := w.i (fx t _) (by walk_at "mem")
      refine q (vs ++ [.ref t]) (rs ++ [xrow]) _ _ ((w.push (dpa K (vs ++ [.ref t]) ((rs ++ [xrow]).map PRow.d)) (by rw [List.map_append]; exact dpa_snoc (w.dpa (by walk_at "mem")) (xrow_dp hT))).to (by walk_at "pick")) (fun r hr => ?_) (by simp)
      rcases List.mem_append.mp hr with hr | hr
      · exact hok r hr
      · rw [List.mem_singleton.mp hr]; exact xrow_ok
    · walk_at "go"
      refine n_lst w (szle (by simp)) fun e F2 H2 w he => ?_
      refine n_eqR (rs := rs) (w.sqM (p := p) (xs := vs) (by walk_at "mem")) (dpa_same w.fh _ _ (w.dpa (by walk_at "mem"))) (w.sqM (p := e) (xs := []) (by walk_at "mem")) hok (by omega) ?_
      walk_at "go"
      refine w_ite (fun hz2 => ?_) (fun hz2 => ?_)
      · walk_at "go"
        refine n_tup w (szle (by simp)) fun t F2 H2 w => ?_
        walk_at "go"
        refine n_app (p := p) w (by walk_at "pick") (small_lt (by omega)) fun H3 w => ?_
        have hT : F2 t = some (.tup [.str "put", .int 0, .str "x"]) := w.i (fx t _) (by walk_at "mem")
        refine q (vs ++ [.ref t]) (rs ++ [xrow]) _ _ ((w.push (dpa K (vs ++ [.ref t]) ((rs ++ [xrow]).map PRow.d)) (by rw [List.map_append]; exact dpa_snoc (w.dpa (by walk_at "mem")) (xrow_dp hT))).to (by walk_at "pick")) (fun r hr => ?_) (by simp)
        rcases List.mem_append.mp hr with hr | hr
        · exact hok r hr
        · rw [List.mem_singleton.mp hr]; exact xrow_ok
      · walk_at "go"
        refine w_ite (fun h1 => ?_) (fun h1 => ?_)
        · walk_at "go"
          refine n_clear (p := p) w (by walk_at "pick") fun H3 w => ?_
          exact q [] [] _ _ ((w.push (dpa K [] []) .nil).to (by walk_at "pick")) (fun r hr => nomatch hr) (by simp)
        · walk_at "go"
          refine w_ite (fun h2 => ?_) (fun h2 => ?_)
          · walk_at "go"
            refine n_rev (p := p) w (by walk_at "pick") fun H3 w => ?_
            exact q vs.reverse rs.reverse _ _ ((w.push (dpa K vs.reverse (rs.reverse.map PRow.d)) (by rw [List.map_reverse]; exact dpa_revR (w.dpa (by walk_at "mem")))).to (by walk_at "pick")) (fun r hr => hok r (List.mem_reverse.mp hr)) (by simp)
          · walk_at "go"
            refine n_tup w (szle (by simp)) fun t F2 H2 w => ?_
            walk_at "go"
            refine n_draw w (by walk_at "pick") (by omega) (by omega) fun j F3 H3 w j0 j1 => ?_
            walk_at "go"
            refine n_setL (p := p) w (by walk_at "pick") j.toNat (ixN_in j0 j1) fun H4 w => ?_
            have hT : F3 t = some (.tup [.str "put", .int 0, .str "x"]) := w.i (fx t _) (by walk_at "mem")
            refine q (vs.set j.toNat (.ref t)) (rs.set j.toNat xrow) _ _ ((w.push (dpa K (vs.set j.toNat (.ref t)) ((rs.set j.toNat xrow).map PRow.d)) (by rw [List.map_set]; exact dpa_setR _ (w.dpa (by walk_at "mem")) (xrow_dp hT))).to (by walk_at "pick")) (fun r hr => ?_) (by simp)
            rcases List.mem_or_eq_of_mem_set hr with hr | rfl
            · exact hok r hr
            · exact xrow_ok
-- _law_runner
theorem ok_law_runner {f : Addr} {fd : FuncData} (F : FunD K "_law_runner" "_law_runner" (defArgs s_law_runner) (defBody s_law_runner) (defScope s_law_runner) [] [] f fd) (T : Txt K mg) (D_law_draw : DO P w K mg base 2 "_law_draw" ["bag", "many"] [] (S2 (φdraw K))) (DN_Runner_3 : DN P w K mg base 3 "Runner" ["self", "old", "plan", "marks", "spare", "size"] [.int 0, .int 0] (S6 (φrinit K))) (DN_Runner_4 : DN P w K mg base 3 "Runner" ["self", "old", "plan", "marks", "spare", "size"] [.int 0] (S6 (φrinit K))) (DN_Runner_5 : DN P w K mg base 3 "Runner" ["self", "old", "plan", "marks", "spare", "size"] [] (S6 (φrinit K))) (DNK_Runner_0_old_plan_marks_spare_size : DNK P w K mg base 3 "Runner" ["self", "old", "plan", "marks", "spare", "size"] 0 ["old", "plan", "marks", "spare", "size"] [(0, 0), (1, 0), (1, 1), (1, 2), (1, 3), (1, 4)] [.int 0, .int 0] (S6 (φrinit K))) (DNK_Runner_3_size : DNK P w K mg base 3 "Runner" ["self", "old", "plan", "marks", "spare", "size"] 3 ["size"] [(0, 0), (0, 1), (0, 2), (0, 3), (2, 0), (1, 0)] [.int 0, .int 0] (S6 (φrinit K))) : FnOk P w K mg base CX0 5 f fd ["bag", "case"] (S2 (φlrunner K)) := by
  refine F.ok sc_law_runner (fun vs H Q E h => ?_) (fun cdv A outer s H vs Q E hr h => ?_)
  · exact S2.len h
  · match vs, h with
    | [v0, v1], h =>
    have hu := hu_of hr
    refine ⟨_, PSs.nox (pss_cons (ps_asg (pe_slice (slT (K := K)) (pv 1) po_none (po_some pe_int)) (pg_tup (by rfl) (pgs_cons (pg_name (i := 2) sc_law_runner.nd rfl (.inl rfl)) (pgs_cons (pg_name (i := 3) sc_law_runner.nd rfl (.inl rfl)) (pgs_cons (pg_name (i := 4) sc_law_runner.nd rfl (.inl rfl)) (pgs_cons (pg_name (i := 5) sc_law_runner.nd rfl (.inl rfl)) (pgs_cons (pg_name (i := 6) sc_law_runner.nd rfl (.inl rfl)) pgs_nil)))))))
      (pss_cons (ps_set (i := 7) sc_law_runner.nd rfl (.inl rfl) (pcall D_law_draw hr (pa_cons (pv 0) (pa_cons pe_int pa_nil))))
      (pss_cons (ps_set (i := 8) sc_law_runner.nd rfl (.inl rfl) (pcall D_law_draw hr (pa_cons (pv 0) (pa_cons (pe_ix (ixL (K := K)) (pe_lst (pa_cons pe_int (pa_cons pe_int (pa_cons pe_int (pa_cons pe_int (pa_cons (pe_op op_sub pe_int (pv 6)) pa_nil)))))) (pcall D_law_draw hr (pa_cons (pv 0) (pa_cons pe_int pa_nil))) (fun _ _ => rfl)) pa_nil))))
      (pss_cons (ps_set (i := 9) sc_law_runner.nd rfl (.inl rfl) (pe_op op_add (pv 6) (pv 8)))
      (C8.pss_cut (ps_if (PW.pt (pw_and (pt_cmpR op_eq (pv 6) (pe_callB clLenS (by rfl) T.b_len (by decide +kernel) (pa_cons (pv 2) pa_nil)) (nomark _)) (pw_and1 (pt_cmpR op_eq (pcall D_law_draw hr (pa_cons (pv 0) (pa_cons pe_int pa_nil))) pe_int (nomark _))))) (pss_one (ps_set (i := 9) sc_law_runner.nd rfl (.inl rfl) (pcall D_law_draw hr (pa_cons (pv 0) (pa_cons (pe_op op_add (pv 6) pe_int) pa_nil))))) pss_nil)
      (pss_cons (ps_set (i := 10) sc_law_runner.nd rfl (.inl rfl) (pe_lst (pa_cons (pe_callTy (clListOf (K := K)) (by rfl) T.b_list (by decide +kernel) (pa_cons (pv 3) pa_nil)) (pa_cons (pe_callTy (clListOf (K := K)) (by rfl) T.b_list (by decide +kernel) (pa_cons (pv 4) pa_nil)) pa_nil))))
      (C8.pss_cut (ps_if (PW.pt (pw_and (pt_cmpR op_eq (pv 7) pe_int (nomark _)) (pw_and (pt_cmpR op_eq (pv 5) pe_int (nomark _)) (pw_and1 (pt_cmpR op_le (pv 9) (pe_callB clLenS (by rfl) T.b_len (by decide +kernel) (pa_cons (pv 2) pa_nil)) (nomark _)))))) (pss_one (ps_set (i := 11) sc_law_runner.nd rfl (.inl rfl) (pmake DN_Runner_3 hr (pa_cons (pv 2) (pa_cons (pe_ix (ixL (K := K)) (pv 10) pe_int (fun _ _ => rfl)) (pa_cons (pe_ix (ixL (K := K)) (pv 10) pe_int (fun _ _ => rfl)) pa_nil)))))) (pss_one (ps_if (PW.pt (pw_and (pt_cmpR op_eq (pv 7) pe_int (nomark _)) (pw_and1 (pt_cmpR op_le (pv 9) (pe_callB clLenS (by rfl) T.b_len (by decide +kernel) (pa_cons (pv 2) pa_nil)) (nomark _))))) (pss_one (ps_set (i := 11) sc_law_runner.nd rfl (.inl rfl) (pmake DN_Runner_4 hr (pa_cons (pv 2) (pa_cons (pe_ix (ixL (K := K)) (pv 10) pe_int (fun _ _ => rfl)) (pa_cons (pe_ix (ixL (K := K)) (pv 10) pe_int (fun _ _ => rfl)) (pa_cons (pv 5) pa_nil))))))) (pss_one (ps_if (PW.pt (pw_and (pt_cmpR op_eq (pv 7) pe_int (nomark _)) (pw_and1 (pt_cmpR op_eq (pv 5) pe_int (nomark _))))) (pss_one (ps_set (i := 11) sc_law_runner.nd rfl (.inl rfl) (pmakeK DNK_Runner_3_size hr (pa_cons (pv 2) (pa_cons (pe_ix (ixL (K := K)) (pv 10) pe_int (fun _ _ => rfl)) (pa_cons (pe_ix (ixL (K := K)) (pv 10) pe_int (fun _ _ => rfl)) pa_nil))) (pk_cons (pv 9) pk_nil)))) (pss_one (ps_if (pt_cmpR op_eq (pv 7) pe_int (nomark _)) (pss_one (ps_set (i := 11) sc_law_runner.nd rfl (.inl rfl) (pmakeK0 DNK_Runner_0_old_plan_marks_spare_size hr (pk_cons (pv 2) (pk_cons (pe_ix (ixL (K := K)) (pv 10) pe_int (fun _ _ => rfl)) (pk_cons (pe_ix (ixL (K := K)) (pv 10) pe_int (fun _ _ => rfl)) (pk_cons (pv 5) (pk_cons (pv 9) pk_nil)))))))) (pss_one (ps_set (i := 11) sc_law_runner.nd rfl (.inl rfl) (pmake DN_Runner_5 hr (pa_cons (pv 2) (pa_cons (pe_ix (ixL (K := K)) (pv 10) pe_int (fun _ _ => rfl)) (pa_cons (pe_ix (ixL (K := K)) (pv 10) pe_int (fun _ _ => rfl)) (pa_cons (pv 5) (pa_cons (pv 9) pa_nil)))))))))))))))
      (pss_one (ps_ret (pe_tup (pa_cons (pv 11) (pa_cons (pv 10) (pa_cons (pe_callB clMax2 (by rfl) T.b_max (by decide +kernel) (pa_cons (pe_callB clLenS (by rfl) T.b_len (by decide +kernel) (pa_cons (pv 2) pa_nil)) (pa_cons (pv 9) pa_nil))) pa_nil))))))))))))), ?_⟩
    rw [show start ["bag", "case", "before", "deeds", "bars", "slots", "big", "how", "more", "given", "handed", "runner"] [v0, v1] = [some v0, some v1, none, none, none, none, none, none, none, none, none, none] from rfl]
    obtain ⟨F, b, a, o, rs, ms, slots, big, rfl, rfl, s0, hc, q⟩ := h
    have w := W.opnC (K := K) (a := a) (o := o) (rs := rs) (ms := ms) (slots := slots) (big := big) (s0.w (M := [b])) (by walk_at "mem")
    have hol := hc.ol
    have hbl := hc.bl
    have hsl := hc.sl
    have hrz := hc.rz
    walk_at "go"
    refine n_slT5 w (by walk_at "st") (by intro z; exact absurd z.2 (show ¬ (HT.sIx 6 6 (some 5) = 6) by decide)) fun t5 F1 H1 w => ?_
    rw [show cutV [V.str o, V.ref a.pd, V.ref a.pm, V.int (slots : Nat), V.int (big : Nat), V.ref a.pr] none (some 5) = [V.str o, V.ref a.pd, V.ref a.pm, V.int (slots : Nat), V.int (big : Nat)] from cutT _ 5] at w
    walk_at "go"
    refine n_draw w (by walk_at "pick") (by decide) (by decide) fun how F1 H1 w h0 h1 => ?_
    walk_at "go"
    refine n_lst w (szle (by simp)) fun pl F2 H2 w hpl => ?_
    walk_at "go"
    refine n_draw w (by walk_at "pick") (by decide) (by decide) fun r5 F3 H3 w r50 r51 => ?_
    obtain ⟨m5, em5, m50, m51⟩ : ∃ m : Int, atI [V.int 1, .int 1, .int 1, .int 5, .int (401 - (big : Nat))] r5 = some (.int m) ∧ 0 < m ∧ m ≤ 401 := by
      have : r5 = 0 ∨ r5 = 1 ∨ r5 = 2 ∨ r5 = 3 ∨ r5 = 4 := by omega
      rcases this with rfl | rfl | rfl | rfl | rfl
      · exact ⟨1, rfl, by omega, by omega⟩
      · exact ⟨1, rfl, by omega, by omega⟩
      · exact ⟨1, rfl, by omega, by omega⟩
      · exact ⟨5, rfl, by omega, by omega⟩
      · exact ⟨401 - (big : Nat), rfl, by omega, by omega⟩
    walk_at "go"
    refine w_ixL _ _ (by walk_at "sq") em5 ?_
    walk_at "go"
    refine n_draw w (by walk_at "pick") (by omega) (by omega) fun more F4 H4 w more0 more1 => ?_
    walk_at "go"
    refine n_cut w (fun σ L => ∃ given : Int, GivenOk o big given ∧ σ = [some (.ref b), some (.ref a.t), some (.str o), some (.ref a.pd), some (.ref a.pm), some (.int (slots : Nat)), some (.int (big : Nat)), some (.int how), some (.int more), some (.int given), none, none] ∧ L = [bag K b, fx a.pd (.lst a.vs), dpa K a.vs (rs.map PRow.d), fx a.pm (.lst (nV ms))]) ?_ (fun σ L F' H' hp w => ?_)
    · walk_at "go"
      refine w_ite (fun hz => ?_) (fun hz => ?_)
      · walk_at "go"
        refine n_draw w (by walk_at "pick") (by decide) (by decide) fun r3 F5 H5 w r30 r31 => ?_
        walk_at "go"
        refine w_ite (fun hz2 => ?_) (fun hz2 => ?_)
        · walk_at "go"
          refine n_draw w (by walk_at "pick") (by omega) (by omega) fun g F6 H6 w g0 g1 => ?_
          walk_at "go"
          exact nx_mk w ⟨_, .inr ⟨by omega, g0, by omega⟩, rfl, rfl⟩ (by walk_at "pk")
        · walk_at "go"
          exact nx_mk w ⟨_, .inl ⟨by omega, by omega⟩, rfl, rfl⟩ (by walk_at "pk")
      · walk_at "go"
        exact nx_mk w ⟨_, .inl ⟨by omega, by omega⟩, rfl, rfl⟩ (by walk_at "pk")
    obtain ⟨given, hg, rfl, rfl⟩ := hp
    obtain ⟨hg1, hg2, hg3, hg4⟩ := cells_ok hg hol hbl
    walk_at "go"
    refine n_listOf w (by walk_at "sq") fun p0 F3 H3 w hp0 => ?_
    walk_at "go"
    refine n_listOf w (by walk_at "sq") fun p1 F3 H3 w hp1 => ?_
    walk_at "go"
    refine n_lst w (szle (by simp)) fun ph F3 H3 w hph => ?_
    obtain ⟨F4, w⟩ := w.fzL (p := ph) (by walk_at "pick") hph
    walk_at "go"
    refine n_cut w (fun σ L => ∃ r : RnA, σ = [some (.ref b), some (.ref a.t), some (.str o), some (.ref a.pd), some (.ref a.pm), some (.int (slots : Nat)), some (.int (big : Nat)), some (.int how), some (.int more), some (.int given), some (.ref ph), some (.ref r.c)] ∧ L = [rnr K r (rs.flatMap PRow.acts) ms ⟨stR o (cellsOf o given) slots, 0, 0⟩, mu p0 (.lst a.vs), mu p1 (.lst (nV ms)), fx ph (.lst [.ref p0, .ref p1]), bag K b]) ?_ (fun σ L F' H' hp w => ?_)
    · walk_at "go"
      have : how = 0 ∨ how = 1 ∨ how = 2 ∨ how = 3 ∨ how = 4 := by omega
      rcases this with rfl | rfl | rfl | rfl | rfl
      · refine w_iteT rfl ?_
        walk_at "go"
        refine w_ite (fun hz => ?_) (fun hz => ?_)
        · walk_at "go"
          refine w_ite (fun hz2 => ?_) (fun hz2 => ?_)
          · have hs0 : slots = 0 := by omega
            walk_at "go"
            refine n_make w fun c dx H6 w hcn => ?_
            refine n_rinit (slots := 0) (size := 0) w (by walk_at "pick") (w.dpa (by walk_at "mem")) hc.ro (by omega) hc.ml hc.oo (by omega) (by omega) (by omega) (by omega) fun r F5 H5 hrc w => ?_
            subst hrc
            refine ⟨rfl, ?_⟩
            walk_at "go"
            rw [show stR o (0 : Int).toNat 0 = stR o (cellsOf o given) slots from by rw [hs0]; exact cells_stR (by omega)] at w
            exact nx_mk w ⟨r, rfl, rfl⟩ (by walk_at "pk")
          · walk_at "go"
            refine n_make w fun c dx H6 w hcn => ?_
            refine n_rinit (slots := slots) (size := given) w (by walk_at "pick") (w.dpa (by walk_at "mem")) hc.ro (by omega) hc.ml hc.oo (by omega) (by omega) (by omega) (by omega) fun r F5 H5 hrc w => ?_
            subst hrc
            refine ⟨rfl, ?_⟩
            walk_at "go"
            rw [cells_stR (o := o) (given := given) (g := given) rfl] at w
            exact nx_mk w ⟨r, rfl, rfl⟩ (by walk_at "pk")
        · walk_at "go"
          refine n_make w fun c dx H6 w hcn => ?_
          refine n_rinit (slots := slots) (size := given) w (by walk_at "pick") (w.dpa (by walk_at "mem")) hc.ro (by omega) hc.ml hc.oo (by omega) (by omega) (by omega) (by omega) fun r F5 H5 hrc w => ?_
          subst hrc
          refine ⟨rfl, ?_⟩
          walk_at "go"
          rw [cells_stR (o := o) (given := given) (g := given) rfl] at w
          exact nx_mk w ⟨r, rfl, rfl⟩ (by walk_at "pk")
      · refine w_iteF (by decide) ?_
        walk_at "go"
        refine w_ite (fun hz2 => ?_) (fun hz2 => ?_)
        · walk_at "go"
          refine n_make w fun c dx H6 w hcn => ?_
          refine n_rinit (slots := slots) (size := 0) w (by walk_at "pick") (w.dpa (by walk_at "mem")) hc.ro (by omega) hc.ml hc.oo (by omega) (by omega) (by omega) (by omega) fun r F5 H5 hrc w => ?_
          subst hrc
          refine ⟨rfl, ?_⟩
          walk_at "go"
          rw [cells_stR (o := o) (given := given) (g := 0) (by omega)] at w
          exact nx_mk w ⟨r, rfl, rfl⟩ (by walk_at "pk")
        · walk_at "go"
          refine n_make w fun c dx H6 w hcn => ?_
          refine n_rinit (slots := slots) (size := given) w (by walk_at "pick") (w.dpa (by walk_at "mem")) hc.ro (by omega) hc.ml hc.oo (by omega) (by omega) (by omega) (by omega) fun r F5 H5 hrc w => ?_
          subst hrc
          refine ⟨rfl, ?_⟩
          walk_at "go"
          rw [cells_stR (o := o) (given := given) (g := given) rfl] at w
          exact nx_mk w ⟨r, rfl, rfl⟩ (by walk_at "pk")
      · refine w_iteF (by decide) ?_
        walk_at "go"
        refine w_ite (fun hz => ?_) (fun hz => ?_)
        · have hs0 : slots = 0 := by omega
          walk_at "go"
          refine ⟨rfl, rfl, ?_⟩
          refine n_makeKR w fun c dx H6 w hcn => ?_
          refine n_rinit (slots := 0) (size := given) w (by walk_at "pick") (w.dpa (by walk_at "mem")) hc.ro (by omega) hc.ml hc.oo (by omega) (by omega) (by omega) (by omega) fun r F5 H5 hrc w => ?_
          subst hrc
          refine ⟨rfl, ?_⟩
          walk_at "go"
          rw [show stR o given.toNat 0 = stR o (cellsOf o given) slots from by rw [hs0]; exact cells_stR rfl] at w
          exact nx_mk w ⟨r, rfl, rfl⟩ (by walk_at "pk")
        · walk_at "go"
          refine n_make w fun c dx H6 w hcn => ?_
          refine n_rinit (slots := slots) (size := given) w (by walk_at "pick") (w.dpa (by walk_at "mem")) hc.ro (by omega) hc.ml hc.oo (by omega) (by omega) (by omega) (by omega) fun r F5 H5 hrc w => ?_
          subst hrc
          refine ⟨rfl, ?_⟩
          walk_at "go"
          rw [cells_stR (o := o) (given := given) (g := given) rfl] at w
          exact nx_mk w ⟨r, rfl, rfl⟩ (by walk_at "pk")
      · refine w_iteF (by decide) ?_
        walk_at "go"
        refine ⟨rfl, rfl, ?_⟩
        refine n_makeKR w fun c dx H6 w hcn => ?_
        refine n_rinit (slots := slots) (size := given) w (by walk_at "pick") (w.dpa (by walk_at "mem")) hc.ro (by omega) hc.ml hc.oo (by omega) (by omega) (by omega) (by omega) fun r F5 H5 hrc w => ?_
        subst hrc
        refine ⟨rfl, ?_⟩
        walk_at "go"
        rw [cells_stR (o := o) (given := given) (g := given) rfl] at w
        exact nx_mk w ⟨r, rfl, rfl⟩ (by walk_at "pk")
      · refine w_iteF (by decide) ?_
        walk_at "go"
        refine n_make w fun c dx H6 w hcn => ?_
        refine n_rinit (slots := slots) (size := given) w (by walk_at "pick") (w.dpa (by walk_at "mem")) hc.ro (by omega) hc.ml hc.oo (by omega) (by omega) (by omega) (by omega) fun r F5 H5 hrc w => ?_
        subst hrc
        refine ⟨rfl, ?_⟩
        walk_at "go"
        rw [cells_stR (o := o) (given := given) (g := given) rfl] at w
        exact nx_mk w ⟨r, rfl, rfl⟩ (by walk_at "pk")
    · obtain ⟨r, rfl, rfl⟩ := hp
      walk_at "go"
      refine n_tup w (szle (by simp)) fun t F2 H2 w => ?_
      have e : (if given > ((o.length : Nat) : Int) then given else ((o.length : Nat) : Int)) = ((cellsOf o given : Nat) : Int) := by
        unfold cellsOf
        split <;> omega
      rw [e] at w
      exact q t r ph p0 p1 (cellsOf o given) _ _ hg1 hg2 (w.to (by walk_at "pick"))
-- _law_step_right
theorem ok_law_step_right {f : Addr} {fd : FuncData} (F : FunD K "_law_step_right" "_law_step_right" (defArgs s_law_step_right) (defBody s_law_step_right) (defScope s_law_step_right) [] [] f fd) (T : Txt K mg) (D_law_stepped : DO P w K mg base 3 "_law_stepped" ["state"] [] (S1 (φlstepped K))) (DM_Runner_step : DM P w K mg base 1 "Runner" "step" ["self"] [] (S1 (φrstep K))) : FnOk P w K mg base CX0 4 f fd ["runner", "state"] (S2 (φstepright K)) := by
  refine F.ok sc_law_step_right (fun vs H Q E h => ?_) (fun cdv A outer s H vs Q E hr h => ?_)
  · exact S2.len h
  · match vs, h with
    | [v0, v1], h =>
    have hu := hu_of hr
    refine ⟨_, PSs.nox (pss_cons (ps_set (i := 2) sc_law_step_right.nd rfl (.inl rfl) (pmeth0 DM_Runner_step hr (pv 0)))
      (pss_one (ps_ret (pe_and (pe_callB (clIsi (K := K)) (by rfl) T.b_isinstance (by decide +kernel) (pa_cons (pv 2) (pa_cons (pe_bltn (v := .ty "bool") (by rfl) T.b_bool (by decide +kernel) rfl) pa_nil))) (pe_one (pe_cmpR op_eq (pv 2) (pcall D_law_stepped hr (pa_cons (pv 1) pa_nil)) (nomark _))))))), ?_⟩
    rw [show start ["runner", "state", "told"] [v0, v1] = [some v0, some v1, none] from rfl]
    obtain ⟨F, r, l, acts, bars, s, rfl, rfl, s0, hso, hal, q⟩ := h
    have w := s0.w (M := [r.c, r.pc, r.ps, l.p, l.pr, l.pq])
    walk_at "go"
    refine n_meth (w.i (rnr K r acts bars s) (by walk_at "mem")).1.h rfl ?_
    walk_at "go"
    refine ⟨_, r, acts, bars, s, rfl, w.st (by walk_at "pick"), hso, hal, fun F7 H7 w2 => ?_⟩
    replace w := w.cal (D := [rnr K r acts bars s]) (by walk_at "pick") w2 (by walk_at "app")
    obtain ⟨bb, hbb⟩ : ∃ bb, bb = (rstep acts bars s).1 := ⟨_, rfl⟩
    rw [← hbb]
    walk_at "go"
    refine u_isi (F := H7) (.bl bb) (Same.refl _) (k_bool (.bool bb)) ?_
    walk_at "go"
    refine w_is (c := true) rfl ?_
    walk_at "go"
    refine ⟨_, l, acts, bars, s, rfl, w.st (by walk_at "pick"), hso, hal, fun F8 H8 w2 => ?_⟩
    replace w := w.cal (D := [lsr K l acts bars s]) (by walk_at "pick") w2 (by walk_at "app")
    rw [← hbb]
    walk_at "go"
    rw [decide_eq_true (show bb = bb from rfl)]
    exact q _ _ (w.to (by walk_at "pick"))
-- _law_deed_right
theorem ok_law_deed_right {f : Addr} {fd : FuncData} (F : FunD K "_law_deed_right" "_law_deed_right" (defArgs s_law_deed_right) (defBody s_law_deed_right) (defScope s_law_deed_right) [] [] f fd) (T : Txt K mg) (D_law_draw : DO P w K mg base 2 "_law_draw" ["bag", "many"] [] (S2 (φdraw K))) (D_law_spoil : DO P w K mg base 4 "_law_spoil" ["bag", "rows"] [] (S2 (φlspoil K))) (D_law_step_right : DO P w K mg base 4 "_law_step_right" ["runner", "state"] [] (S2 (φstepright K))) (D_law_whole : DO P w K mg base 1 "_law_whole" ["got"] [] (S1 φwholeF)) (DM_Runner_cut : DM P w K mg base 1 "Runner" "cut" ["self"] [] (S1 (φrcut K))) (DM_Runner_mark : DM P w K mg base 1 "Runner" "mark" ["self"] [] (S1 (φrmark K))) (DM_Runner_room : DM P w K mg base 1 "Runner" "room" ["self"] [] (S1 (φrroom K))) : FnOk P w K mg base CX0 5 f fd ["bag", "one", "shown"] (S3 (φdeed56 K)) := by
  refine F.ok sc_law_deed_right (fun vs H Q E h => ?_) (fun cdv A outer s H vs Q E hr h => ?_)
  · exact S3.len h
  · match vs, h with
    | [v0, v1, v2], h =>
    have hu := hu_of hr
    refine ⟨_, PSs.nox (pss_cons (ps_asg (pv 1) (pg_tup (by rfl) (pgs_cons (pg_name (i := 3) sc_law_deed_right.nd rfl (.inr rfl)) (pgs_cons (pg_name (i := 4) sc_law_deed_right.nd rfl (.inr rfl)) (pgs_cons (pg_name (i := 5) sc_law_deed_right.nd rfl (.inl rfl)) (pgs_cons (pg_name (i := 6) sc_law_deed_right.nd rfl (.inl rfl)) pgs_nil))))))
      (pss_cons (ps_set (i := 7) sc_law_deed_right.nd rfl (.inl rfl) (pcall D_law_draw hr (pa_cons (pv 0) (pa_cons pe_int pa_nil))))
      (pss_cons (ps_if (pt_cmpR op_eq (pv 7) pe_int (nomark _)) (pss_cons (ps_expr (pcall D_law_spoil hr (pa_cons (pv 0) (pa_cons (pe_ix (ixL (K := K)) (pv 6) pe_int (fun _ _ => rfl)) pa_nil))))
      (pss_cons (ps_expr (peBM0 (K := K) PySem.F.plainAttrs_list PySem.F.slot_list_clear PySem.F.type_list_clear mt_clear (pe_ix (ixL (K := K)) (pv 6) pe_int (fun _ _ => rfl))))
      (pss_one (ps_ret pe_bl)))) pss_nil)
      (pss_cons (ps_if (pt_cmpR op_lt (pv 7) pe_int (nomark _)) (pss_one (ps_ret (pe_callB (clAll (K := K)) (by rfl) T.b_all (by decide +kernel) (pa_cons (pe_lc (own := [("k", 8)]) (g := gName 8) rfl sc_law_deed_right.nd (pi_range1 rfl T.b_range (pa_cons (pe_ix (ixL (K := K)) (pe_lst (pa_cons pe_int (pa_cons pe_int (pa_cons pe_int (pa_cons pe_int (pa_cons pe_int pa_nil)))))) (pv 7) (fun _ _ => rfl)) pa_nil)) (blkOk_by (own := [("k", 8)]) (N := ["bag", "one", "shown", "runner", "state", "due", "handed", "kind", "k"]) (sc := defScope s_law_deed_right) (by decide +kernel)) (fun _ _ _ _ _ => pg_name (i := 8) sc_law_deed_right.nd rfl (Or.inl rfl)) (fun _ _ _ _ _ => pts_nil) (fun _ _ _ _ _ => (pcall D_law_step_right hr (pa_cons (pv 3) (pa_cons (pv 4) pa_nil))))) pa_nil)))) pss_nil)
      (pss_cons (ps_if (pt_cmpR op_eq (pv 7) pe_int (nomark _)) (pss_cons (ps_asg (pe_ix (ixL (K := K)) (pv 4) pe_int (fun _ _ => rfl)) (pg_sub (pv 4) pe_int set_list))
      (pss_one (ps_ret (pe_cmp (pc_isN (pmeth0 DM_Runner_cut hr (pv 3))) (by rfl))))) pss_nil)
      (pss_cons (ps_if (pt_cmpR op_eq (pv 7) pe_int (nomark _)) (pss_one (ps_ret (pe_and (pcall D_law_whole hr (pa_cons (pmeth0 DM_Runner_mark hr (pv 3)) pa_nil)) (pe_one (pe_cmpR op_eq (pmeth0 DM_Runner_mark hr (pv 3)) (pe_ix (ixL (K := K)) (pv 4) pe_int (fun _ _ => rfl)) (nomark _)))))) pss_nil)
      (pss_cons (ps_expr (peBM (K := K) PySem.F.plainAttrs_list PySem.F.slot_list_append PySem.F.type_list_append mt_append (pv 2) (pa_cons (pe_tup (pa_cons (pmeth0 DM_Runner_room hr (pv 3)) (pa_cons (pe_callTy (clListOf (K := K)) (by rfl) T.b_list (by decide +kernel) (pa_cons (pe_ix (ixL (K := K)) (pv 4) pe_int (fun _ _ => rfl)) pa_nil)) pa_nil))) pa_nil)))
      (pss_one (ps_ret (pe_cmpR (opEqD (K := K) hr.units) (pe_ix (ixT (K := K)) (pe_ix (ixL (K := K)) (pv 2) (pe_un un_neg pe_int) (fun _ _ => rfl)) pe_int (fun _ _ => rfl)) (pe_ix (ixL (K := K)) (pv 4) pe_int (fun _ _ => rfl)) (nomark _))))))))))), ?_⟩
    rw [show start ["bag", "one", "shown", "runner", "state", "due", "handed", "kind", "k"] [v0, v1, v2] = [some v0, some v1, some v2, none, none, none, none, none, none] from rfl]
    obtain ⟨F, b, t, r, l, o, rs, ms, slots, big, cells, s, pz, ph, p0, p1, psn, us, xs, ys, rs2, rfl, rfl, rfl, s0, hok2, hus, hys, hc, hcl, hcm, hcs, q⟩ := h
    have hal := hc.al
    have hol := hc.ol
    have hbl := hc.bl
    have w := s0.w (M := [b, r.c, r.pc, r.ps, l.p, l.pr, l.pq, p0, p1, psn])
    have qn : ∀ (s2 : RnS) (us2 xs2 : List V) (rs3 : List PRow) {F2 H2 : Hp} {L2 : List Own}, CaseS o rs ms slots cells s2 → (∀ q ∈ rs3, q.ok) → us2.length ≤ us.length + 1 → W [b, r.c, r.pc, r.ps, l.p, l.pr, l.pq, p0, p1, psn] F H F2 H2 L2 → Pk L2 [dpa K us2 (rs3.map PRow.d), bag K b, rnr K r (rs.flatMap PRow.acts) ms s2, lsr K l (rs.flatMap PRow.acts) ms s2, mu p0 (.lst us2), mu p1 (.lst xs2), mu psn (.lst ys)] → Q (.bl true) H2 := fun s2 us2 xs2 rs3 {F2 H2 L2} h1 h2 h3 w k => by
      have w2 := (w.pk k).push (shO []) (fun _ h => nomatch h)
      have w3 := q s2 us2 xs2 [] rs3 F2 H2 h1 h2 h3 (by simp)
      rw [List.append_nil] at w3
      exact w3 (w2.to (by walk_at "pick"))
    walk_at "go"
    refine n_draw w (by walk_at "pick") (by decide) (by decide) fun kind F1 H1 w k0 k1 => ?_
    walk_at "go"
    refine w_ite (fun h8 => ?_) (fun h8 => ?_)
    · walk_at "go"
      refine ⟨_, b, p0, us, rs2, rfl, rfl, w.st (by walk_at "pick"), w.dpa (by walk_at "mem"), hok2, by omega, fun us3 rs3 F8 H8 w2 hok3 hus3 => ?_⟩
      replace w := w.cal (D := [bag K b, mu p0 (.lst us)]) (by walk_at "pick") w2 (by walk_at "app")
      walk_at "go"
      refine n_clear (p := p1) w (by walk_at "pick") fun H9 w => ?_
      walk_at "go"
      exact qn s us3 [] rs3 hcs hok3 hus3 w (by walk_at "pk")
    walk_at "go"
    refine w_ite (fun h5 => ?_) (fun h5 => ?_)
    · walk_at "go"
      refine n_lst w (szle (by simp)) fun pl F3 H3 w hpl => ?_
      obtain ⟨mm, em, m0, m1⟩ := pick_ix (ns := [1, 1, 1, 2, 7]) (i := kind) (lo := 1) (hi := 7) (by omega) (by show kind < 5; omega) (by decide)
      walk_at "go"
      refine w_ixL _ _ (by walk_at "sq") (show atI [V.int 1, .int 1, .int 1, .int 2, .int 7] kind = some (.int mm) from em) ?_
      walk_at "go"
      refine n_lcR w (fun i zs L => ∃ s2 : RnS, CaseS o rs ms slots cells s2 ∧ zs = (List.replicate i true).map V.bl ∧ L = [rnr K r (rs.flatMap PRow.acts) ms s2, lsr K l (rs.flatMap PRow.acts) ms s2, bag K b, mu p0 (.lst us), mu p1 (.lst xs), mu psn (.lst ys), fx t (.tup [.ref r.c, .ref l.p, .ref pz, .ref ph]), fx ph (.lst [.ref p0, .ref p1]), dpa K us (rs2.map PRow.d)]) ⟨s, hcs, rfl, rfl⟩ (fun i zs L F' H' D hi hp w hD => ?_) (fun D zs L F' H' hp w hD => ?_)
      · obtain ⟨s2, hcs2, rfl, rfl⟩ := hp
        have hso := hc.stepOk hcl hcs2
        walk_at "wp"
        walk_at "go"
        refine ⟨_, r, l, (rs.flatMap PRow.acts), ms, s2, rfl, rfl, w.st (by walk_at "pick"), hso, by omega, fun F4 H4 w2 => ?_⟩
        replace w := w.cal (D := [rnr K r (rs.flatMap PRow.acts) ms s2, lsr K l (rs.flatMap PRow.acts) ms s2]) (by walk_at "pick") w2 (by walk_at "app")
        walk_at "go"
        exact n_acc ((List.replicate i true).map V.bl) w ⟨_, hc.step hcl hcs2, by rw [List.replicate_succ', List.map_append]; rfl, rfl⟩ (by walk_at "pk") (small_lt (by rw [List.length_map, List.length_replicate]; omega))
      · obtain ⟨s2, hcs2, rfl, rfl⟩ := hp
        walk_at "go"
        refine ⟨D, _, rfl, w.sqM (by walk_at "mem"), ?_⟩
        rw [all_rep]
        exact qn s2 us xs rs2 hcs2 hok2 (by omega) w (by walk_at "pk")
    walk_at "go"
    refine w_ite (fun h5 => ?_) (fun h5 => ?_)
    · replace w := w.to (D := [lsr K l (rs.flatMap PRow.acts) ms s, rnr K r (rs.flatMap PRow.acts) ms s, bag K b, mu p0 (.lst us), mu p1 (.lst xs), mu psn (.lst ys), fx t (.tup [.ref r.c, .ref l.p, .ref pz, .ref ph]), fx ph (.lst [.ref p0, .ref p1]), dpa K us (rs2.map PRow.d)]) (by walk_at "pick")
      obtain ⟨w, hkl⟩ := W.opnL w
      unfold lsO at w
      walk_at "go"
      refine n_setL (p := l.p) w (by walk_at "pick") 5 rfl fun H2 w => ?_
      replace w := W.clsL (K := K) (a := l) (acts := (rs.flatMap PRow.acts)) (bars := ms) (s := rcut s) (L := [rnr K r (rs.flatMap PRow.acts) ms s, bag K b, mu p0 (.lst us), mu p1 (.lst xs), mu psn (.lst ys), fx t (.tup [.ref r.c, .ref l.p, .ref pz, .ref ph]), fx ph (.lst [.ref p0, .ref p1]), dpa K us (rs2.map PRow.d)]) (w.to (by walk_at "pick")) hkl
      walk_at "go"
      refine n_meth (w.i (rnr K r (rs.flatMap PRow.acts) ms s) (by walk_at "mem")).1.h rfl ?_
      walk_at "go"
      refine ⟨_, r, (rs.flatMap PRow.acts), ms, s, rfl, w.st (by walk_at "pick"), fun F6 H6 w2 => ?_⟩
      replace w := w.cal (D := [rnr K r (rs.flatMap PRow.acts) ms s]) (by walk_at "pick") w2 (by walk_at "app")
      walk_at "go"
      exact qn (rcut s) us xs rs2 hcs.cut hok2 (by omega) w (by walk_at "pk")
    walk_at "go"
    refine w_ite (fun h6 => ?_) (fun h6 => ?_)
    · walk_at "go"
      refine n_meth (w.i (rnr K r (rs.flatMap PRow.acts) ms s) (by walk_at "mem")).1.h rfl ?_
      walk_at "go"
      refine ⟨_, r, (rs.flatMap PRow.acts), ms, s, rfl, w.st (by walk_at "pick"), fun F6 H6 w2 => ?_⟩
      replace w := w.cal (D := [rnr K r (rs.flatMap PRow.acts) ms s]) (by walk_at "pick") w2 (by walk_at "app")
      walk_at "go"
      refine ⟨_, rfl, ?_⟩
      walk_at "go"
      refine n_meth (w.i (rnr K r (rs.flatMap PRow.acts) ms s) (by walk_at "mem")).1.h rfl ?_
      walk_at "go"
      refine ⟨_, r, (rs.flatMap PRow.acts), ms, s, rfl, w.st (by walk_at "pick"), fun F6 H6 w2 => ?_⟩
      replace w := w.cal (D := [rnr K r (rs.flatMap PRow.acts) ms s]) (by walk_at "pick") w2 (by walk_at "app")
      replace w := w.to (D := [lsr K l (rs.flatMap PRow.acts) ms s, rnr K r (rs.flatMap PRow.acts) ms s, bag K b, mu p0 (.lst us), mu p1 (.lst xs), mu psn (.lst ys), fx t (.tup [.ref r.c, .ref l.p, .ref pz, .ref ph]), fx ph (.lst [.ref p0, .ref p1]), dpa K us (rs2.map PRow.d)]) (by walk_at "pick")
      obtain ⟨w, hkl⟩ := W.opnL w
      unfold lsO at w
      walk_at "go"
      rw [decide_eq_true (show ((s.kept : Nat) : Int) = ((s.kept : Nat) : Int) from rfl)]
      replace w := W.clsL (K := K) (a := l) (acts := (rs.flatMap PRow.acts)) (bars := ms) (s := s) (L := [rnr K r (rs.flatMap PRow.acts) ms s, bag K b, mu p0 (.lst us), mu p1 (.lst xs), mu psn (.lst ys), fx t (.tup [.ref r.c, .ref l.p, .ref pz, .ref ph]), fx ph (.lst [.ref p0, .ref p1]), dpa K us (rs2.map PRow.d)]) (w.to (by walk_at "pick")) hkl
      exact qn s us xs rs2 hcs hok2 (by omega) w (by walk_at "pk")
    have hfg := flat_good hcs.fl.1 (by rw [hcs.len (by omega)]; omega)
    walk_at "go"
    refine n_meth (w.i (rnr K r (rs.flatMap PRow.acts) ms s) (by walk_at "mem")).1.h rfl ?_
    walk_at "go"
    refine ⟨_, r, (rs.flatMap PRow.acts), ms, s, rfl, w.st (by walk_at "pick"), fun pg F6 H6 hpg w2 => ?_⟩
    have hpg0 := w.g.fresh hpg
    replace w := w.cal (D := [rnr K r (rs.flatMap PRow.acts) ms s]) (by walk_at "pick") w2 (by walk_at "app")
    replace w := w.to (D := [lsr K l (rs.flatMap PRow.acts) ms s, rnr K r (rs.flatMap PRow.acts) ms s, mu pg (.lst s.st.1), bag K b, mu p0 (.lst us), mu p1 (.lst xs), mu psn (.lst ys), fx t (.tup [.ref r.c, .ref l.p, .ref pz, .ref ph]), fx ph (.lst [.ref p0, .ref p1]), dpa K us (rs2.map PRow.d)]) (by walk_at "pick")
    obtain ⟨w, hkl⟩ := W.opnL w
    unfold lsO at w
    walk_at "go"
    refine n_listOf w (by walk_at "sq") fun cg F7 H7 w hcg => ?_
    walk_at "go"
    refine n_tup w (szle (by simp)) fun t1 F7 H7 w => ?_
    walk_at "go"
    refine n_app (p := psn) w (by walk_at "pick") (small_lt (by omega)) fun H8 w => ?_
    walk_at "go"
    refine w_ixL _ _ (w.sqM (p := psn) (by walk_at "mem")) atI_lastR ?_
    walk_at "go"
    refine u_eqD (Same.refl _) (.lst (w.sqM (p := pg) (xs := s.st.1) (by walk_at "mem")) (flat_dpa hcs.fl.1)) (.lst (w.sqM (p := l.pr) (xs := s.st.1) (by walk_at "mem")) (flat_dpa hcs.fl.1)) hfg.1 (Nat.le_trans hfg.2 (by decide)) ?_
    obtain ⟨F9, w⟩ := w.fzL (p := cg) (by walk_at "pick") hcg
    obtain ⟨F10, w⟩ := w.fzL (p := pg) (by walk_at "pick") hpg0
    replace w := w.push (shO [.ref t1]) (sh_snoc (zs := []) (fun _ h => nomatch h) ⟨t1, pg, cg, s.st.1, rfl, w.i (fx t1 _) (by walk_at "mem"), w.i (fx pg _) (by walk_at "mem"), w.i (fx cg _) (by walk_at "mem"), hcs.fl.1, by rw [hcs.len (by omega)]; omega⟩)
    replace w := W.clsL (K := K) (a := l) (acts := (rs.flatMap PRow.acts)) (bars := ms) (s := s) (L := [shO [.ref t1], rnr K r (rs.flatMap PRow.acts) ms s, bag K b, mu p0 (.lst us), mu p1 (.lst xs), mu psn (.lst (ys ++ [.ref t1])), dpa K us (rs2.map PRow.d)]) (w.to (by walk_at "pick")) hkl
    exact q s us xs [.ref t1] rs2 _ _ hcs hok2 (by omega) (by simp) (w.to (by walk_at "pick"))
-- _law_ended
theorem ok_law_ended {f : Addr} {fd : FuncData} (F : FunD K "_law_ended" "_law_ended" (defArgs s_law_ended) (defBody s_law_ended) (defScope s_law_ended) [] [] f fd) (T : Txt K mg) (D_law_step_right : DO P w K mg base 4 "_law_step_right" ["runner", "state"] [] (S2 (φstepright K))) (DM_Runner_room : DM P w K mg base 1 "Runner" "room" ["self"] [] (S1 (φrroom K))) (DM_Runner_step : DM P w K mg base 1 "Runner" "step" ["self"] [] (S1 (φrstep K))) : FnOk P w K mg base CX0 5 f fd ["runner", "state", "due"] (S3 (φended K)) := by
  refine F.ok sc_law_ended (fun vs H Q E h => ?_) (fun cdv A outer s H vs Q E hr h => ?_)
  · exact S3.len h
  · match vs, h with
    | [v0, v1, v2], h =>
    have hu := hu_of hr
    refine ⟨_, PSs.nox (pss_cons (ps_for PassesOwn.never rfl (pi_range1 rfl T.b_range (pa_cons (pe_op op_add (pe_callB (clLenQ (K := K)) (by rfl) T.b_len (by decide +kernel) (pa_cons (pe_ix (ixL (K := K)) (pv 1) pe_int (fun _ _ => rfl)) pa_nil)) (pe_callB call_lenD (by rfl) T.b_len (by decide +kernel) (pa_cons (pe_ix (ixL (K := K)) (pv 1) pe_int (fun _ _ => rfl)) pa_nil))) pa_nil)) (pg_name (i := 3) sc_law_ended.nd rfl (.inl rfl)) (pss_one (ps_if (pt_not (pt_val (pcall D_law_step_right hr (pa_cons (pv 0) (pa_cons (pv 1) pa_nil))))) (pss_one (ps_ret pe_bl)) pss_nil)))
      (pss_one (ps_ret (pe_and (pe_cmpR (opEqD (K := K) hr.units) (pmeth0 DM_Runner_room hr (pv 0)) (pv 2) (nomark _)) (pe_and (pe_cmpR (opEqD (K := K) hr.units) (pe_ix (ixL (K := K)) (pv 1) pe_int (fun _ _ => rfl)) (pv 2) (nomark _)) (pe_and (pe_cmpR op_isBl (pmeth0 DM_Runner_step hr (pv 0)) pe_bl (nomark _)) (pe_one (pe_cmpR op_isBl (pmeth0 DM_Runner_step hr (pv 0)) pe_bl (nomark _))))))))), ?_⟩
    rw [show start ["runner", "state", "due", "k"] [v0, v1, v2] = [some v0, some v1, some v2, none] from rfl]
    obtain ⟨F, r, l, o, rs, ms, slots, big, cells, s, pz, rfl, rfl, rfl, s0, hc, hcl, hcm, hcs, hz, hkv, q⟩ := h
    have hal := hc.al
    have hol := hc.ol
    have hbl := hc.bl
    have hml := hc.ml
    have w := (s0.w (M := [r.c, r.pc, r.ps, l.p, l.pr, l.pq])).push (fx pz (.lst ((goneAll (stR o big slots) rs).1 ++ List.replicate (cells - big) V.non))) hz
    replace w := w.to (D := [lsr K l (rs.flatMap PRow.acts) ms s, rnr K r (rs.flatMap PRow.acts) ms s, fx pz (.lst ((goneAll (stR o big slots) rs).1 ++ List.replicate (cells - big) V.non))]) (by walk_at "pick")
    obtain ⟨w, hkl⟩ := W.opnL w
    unfold lsO at w
    have hlw : l.ws.length = (rs.flatMap PRow.acts).length := by rw [dpa_len (w.dpa (K := K) (xs := l.ws) (ds := (rs.flatMap PRow.acts).map WAct.d) (by walk_at "mem")), List.length_map]
    have hkn := keys_len hkl (hc.ri.up.imp (fun h => Nat.ne_of_lt h))
    walk_at "go"
    refine ⟨l.pd, l.kvs, rfl, w.fx (by walk_at "mem"), ?_⟩
    replace w := W.clsL (K := K) (a := l) (acts := (rs.flatMap PRow.acts)) (bars := ms) (s := s) (L := [rnr K r (rs.flatMap PRow.acts) ms s, fx pz (.lst ((goneAll (stR o big slots) rs).1 ++ List.replicate (cells - big) V.non))]) (w.to (by walk_at "pick")) hkl
    walk_at "go"
    rw [show (((l.ws.length : Nat) : Int) + ((l.kvs.length : Nat) : Int)).toNat = (rs.flatMap PRow.acts).length + l.kvs.length by omega]
    refine n_forR w (fun i σ L => ∃ (yk : Option V) (s2 : RnS), CaseS o rs ms slots cells s2 ∧ rmu (rs.flatMap PRow.acts) ms s2 ≤ (rs.flatMap PRow.acts).length + l.kvs.length - i ∧ σ = [some (.ref r.c), some (.ref l.p), some (.ref pz), yk] ∧ L = [rnr K r (rs.flatMap PRow.acts) ms s2, lsr K l (rs.flatMap PRow.acts) ms s2, fx pz (.lst ((goneAll (stR o big slots) rs).1 ++ List.replicate (cells - big) V.non))]) ⟨none, s, hcs, (by have := rmu_le (acts := (rs.flatMap PRow.acts)) (bars := ms) s; omega), rfl, rfl⟩ (fun i σ L F' H' hi hp w => ?_) (fun σ L F' H' hp w => ?_)
    · obtain ⟨yk, s2, hcs2, hmu, rfl, rfl⟩ := hp
      have hso := hc.stepOk hcl hcs2
      walk_at "go"
      refine ⟨_, r, l, (rs.flatMap PRow.acts), ms, s2, rfl, rfl, w.st (by walk_at "pick"), hso, by omega, fun F4 H4 w2 => ?_⟩
      replace w := w.cal (D := [rnr K r (rs.flatMap PRow.acts) ms s2, lsr K l (rs.flatMap PRow.acts) ms s2]) (by walk_at "pick") w2 (by walk_at "app")
      walk_at "go"
      exact nx_mk w ⟨_, _, hc.step hcl hcs2, hc.down hcs2 (by omega), rfl, rfl⟩ (by walk_at "pk")
    · obtain ⟨yk, s2, hcs2, hmu, rfl, rfl⟩ := hp
      obtain ⟨e1, e2, e3⟩ := hc.end_ hcl hcs2 (by omega)
      have hso := hc.stepOk hcl hcs2
      have hfg := flat_good hcs2.fl.1 (by rw [hcs2.len (by omega)]; omega)
      rw [← e1] at w
      walk_at "go"
      refine n_meth (w.i (rnr K r (rs.flatMap PRow.acts) ms s2) (by walk_at "mem")).1.h rfl ?_
      walk_at "go"
      refine ⟨_, r, (rs.flatMap PRow.acts), ms, s2, rfl, w.st (by walk_at "pick"), fun p F6 H6 hp w2 => ?_⟩
      replace w := w.cal (D := [rnr K r (rs.flatMap PRow.acts) ms s2]) (by walk_at "pick") w2 (by walk_at "app")
      walk_at "go"
      refine u_eqD (Same.refl _) (.lst (w.sqM (p := p) (xs := s2.st.1) (by walk_at "mem")) (flat_dpa hcs2.fl.1)) (.lst (sqL_of (w.fx (p := pz) (u := .lst s2.st.1) (by walk_at "mem"))) (flat_dpa hcs2.fl.1)) hfg.1 (Nat.le_trans hfg.2 (by decide)) ?_
      walk_at "go"
      replace w := w.to (D := [lsr K l (rs.flatMap PRow.acts) ms s2, rnr K r (rs.flatMap PRow.acts) ms s2, fx pz (.lst s2.st.1)]) (by walk_at "pick")
      obtain ⟨w, hkl⟩ := W.opnL w
      unfold lsO at w
      walk_at "go"
      refine u_eqD (Same.refl _) (.lst (w.sqM (p := l.pr) (xs := s2.st.1) (by walk_at "mem")) (flat_dpa hcs2.fl.1)) (.lst (sqL_of (w.fx (p := pz) (u := .lst s2.st.1) (by walk_at "mem"))) (flat_dpa hcs2.fl.1)) hfg.1 (Nat.le_trans hfg.2 (by decide)) ?_
      replace w := W.clsL (K := K) (a := l) (acts := (rs.flatMap PRow.acts)) (bars := ms) (s := s2) (L := [rnr K r (rs.flatMap PRow.acts) ms s2, fx pz (.lst s2.st.1)]) (w.to (by walk_at "pick")) hkl
      walk_at "go"
      refine n_meth (w.i (rnr K r (rs.flatMap PRow.acts) ms s2) (by walk_at "mem")).1.h rfl ?_
      walk_at "go"
      refine ⟨_, r, (rs.flatMap PRow.acts), ms, s2, rfl, w.st (by walk_at "pick"), hso, by omega, fun F7 H7 w2 => ?_⟩
      replace w := w.cal (D := [rnr K r (rs.flatMap PRow.acts) ms s2]) (by walk_at "pick") w2 (by walk_at "app")
      rw [e2] at w ⊢
      dsimp only at w
      walk_at "go"
      refine n_meth (w.i (rnr K r (rs.flatMap PRow.acts) ms s2) (by walk_at "mem")).1.h rfl ?_
      walk_at "go"
      refine ⟨_, r, (rs.flatMap PRow.acts), ms, s2, rfl, w.st (by walk_at "pick"), hso, by omega, fun F7 H7 w2 => ?_⟩
      replace w := w.cal (D := [rnr K r (rs.flatMap PRow.acts) ms s2]) (by walk_at "pick") w2 (by walk_at "app")
      rw [e2] at w ⊢
      dsimp only at w
      walk_at "go"
      exact q s2 _ _ hcs2 (w.to (by walk_at "pick"))
-- law
theorem ok_law {f : Addr} {fd : FuncData} (F : FunD K "law" "law" (defArgs s_law) (defBody s_law) (defScope s_law) [] [] f fd) (T : Txt K mg) (D_law_bag : DO P w K mg base 1 "_law_bag" ["script"] [] (S1 (φbag K))) (D_law_case : DO P w K mg base 7 "_law_case" ["bag", "few", "often"] [] (S3 (φcase K))) (D_law_deed_right : DO P w K mg base 5 "_law_deed_right" ["bag", "one", "shown"] [] (S3 (φdeed56 K))) (D_law_draw : DO P w K mg base 2 "_law_draw" ["bag", "many"] [] (S2 (φdraw K))) (D_law_ended : DO P w K mg base 5 "_law_ended" ["runner", "state", "due"] [] (S3 (φended K))) (D_law_runner : DO P w K mg base 5 "_law_runner" ["bag", "case"] [] (S2 (φlrunner K))) (D_law_state : DO P w K mg base 3 "_law_state" ["before", "deeds", "bars", "slots", "big"] [] (S5 (φlstateN K))) (DM_Runner_cut : DM P w K mg base 1 "Runner" "cut" ["self"] [] (S1 (φrcut K))) : FnOk P w K mg base CX0 12 f fd ["script"] (S1 (φlaw K)) := by
  refine F.ok sc_law (fun vs H Q E h => ?_) (fun cdv A outer s H vs Q E hr h => ?_)
  · exact S1.len h
  · match vs, h with
    | [v0], h =>
    have hu := hu_of hr
    refine ⟨_, PSs.nox (pss_cons (ps_set (i := 1) sc_law.nd rfl (.inl rfl) (pcall D_law_bag hr (pa_cons (pv 0) pa_nil)))
      (pss_cons (ps_set (i := 2) sc_law.nd rfl (.inl rfl) (pe_cmpR op_eq (pcall D_law_draw hr (pa_cons (pv 1) (pa_cons pe_int pa_nil))) pe_int (nomark _)))
      (pss_cons (ps_set (i := 3) sc_law.nd rfl (.inl rfl) (pe_ix (ixL (K := K)) (pe_lst (pa_cons pe_int (pa_cons pe_int (pa_cons pe_int (pa_cons pe_int pa_nil))))) (pcall D_law_draw hr (pa_cons (pv 1) (pa_cons pe_int pa_nil))) (fun _ _ => rfl)))
      (pss_cons (ps_set (i := 4) sc_law.nd rfl (.inl rfl) (pe_lst pa_nil))
      (pss_cons (ps_set (i := 5) sc_law.nd rfl (.inl rfl) (pe_lst pa_nil))
      (pss_cons (ps_for PassesOwn.never rfl (pi_range1 rfl T.b_range (pa_cons pe_int pa_nil)) (pg_name (i := 6) sc_law.nd rfl (.inl rfl)) (pss_cons (ps_set (i := 7) sc_law.nd rfl (.inl rfl) (pcall D_law_case hr (pa_cons (pv 1) (pa_cons (pv 2) (pa_cons (pv 3) pa_nil)))))
      (pss_cons (ps_asg (pcall D_law_runner hr (pa_cons (pv 1) (pa_cons (pv 7) pa_nil))) (pg_tup (by rfl) (pgs_cons (pg_name (i := 8) sc_law.nd rfl (.inl rfl)) (pgs_cons (pg_name (i := 9) sc_law.nd rfl (.inl rfl)) (pgs_cons (pg_name (i := 10) sc_law.nd rfl (.inl rfl)) pgs_nil)))))
      (pss_cons (ps_set (i := 11) sc_law.nd rfl (.inl rfl) (pcall D_law_state hr (pa_cons (pe_ix (ixT (K := K)) (pv 7) pe_int (fun _ _ => rfl)) (pa_cons (pe_ix (ixT (K := K)) (pv 7) pe_int (fun _ _ => rfl)) (pa_cons (pe_ix (ixT (K := K)) (pv 7) pe_int (fun _ _ => rfl)) (pa_cons (pe_ix (ixT (K := K)) (pv 7) pe_int (fun _ _ => rfl)) (pa_cons (pv 10) pa_nil)))))))
      (pss_one (ps_expr (peBM (K := K) PySem.F.plainAttrs_list PySem.F.slot_list_append PySem.F.type_list_append mt_append (pv 4) (pa_cons (pe_tup (pa_cons (pv 8) (pa_cons (pv 11) (pa_cons (pe_op op_cat (pe_ix (ixT (K := K)) (pv 7) pe_int (fun _ _ => rfl)) (pe_op op_rep (pe_lst (pa_cons pe_non pa_nil)) (pe_op op_sub (pv 10) (pe_ix (ixT (K := K)) (pv 7) pe_int (fun _ _ => rfl))))) (pa_cons (pv 9) pa_nil))))) pa_nil))))))))
      (pss_cons (ps_for PassesOwn.never rfl (pi_range1 rfl T.b_range (pa_cons (pe_op op_add pe_int (pe_op op_mul pe_int (pe_callB clMin2 (by rfl) T.b_min (by decide +kernel) (pa_cons (pe_callB (clLenQ (K := K)) (by rfl) T.b_len (by decide +kernel) (pa_cons (pv 0) pa_nil)) (pa_cons pe_int pa_nil))))) pa_nil)) (pg_name (i := 6) sc_law.nd rfl (.inl rfl)) (pss_one (ps_if (pt_not (pt_val (pcall D_law_deed_right hr (pa_cons (pv 1) (pa_cons (pe_ix (ixL (K := K)) (pv 4) (pcall D_law_draw hr (pa_cons (pv 1) (pa_cons pe_int pa_nil))) (fun _ _ => rfl)) (pa_cons (pv 5) pa_nil)))))) (pss_one (ps_ret pe_bl)) pss_nil)))
      (pss_cons (ps_for PassesOwn.never rfl (pi_range1 rfl T.b_range (pa_cons pe_int pa_nil)) (pg_name (i := 6) sc_law.nd rfl (.inl rfl)) (pss_one (ps_for PassesOwn.never rfl (pi_list (pv 4)) (pg_tup (by rfl) (pgs_cons (pg_name (i := 8) sc_law.nd rfl (.inl rfl)) (pgs_cons (pg_name (i := 11) sc_law.nd rfl (.inl rfl)) (pgs_cons (pg_name (i := 12) sc_law.nd rfl (.inl rfl)) (pgs_cons (pg_name (i := 9) sc_law.nd rfl (.inl rfl)) pgs_nil))))) (pss_cons (ps_if (pt_not (pt_val (pcall D_law_ended hr (pa_cons (pv 8) (pa_cons (pv 11) (pa_cons (pv 12) pa_nil)))))) (pss_one (ps_ret pe_bl)) pss_nil)
      (pss_cons (ps_asg (pe_ix (ixL (K := K)) (pv 11) pe_int (fun _ _ => rfl)) (pg_sub (pv 11) pe_int set_list))
      (pss_one (ps_expr (pmeth0 DM_Runner_cut hr (pv 8)))))))))
      (pss_one (ps_ret (pe_callB (clAll (K := K)) (by rfl) T.b_all (by decide +kernel) (pa_cons (pe_lc (own := [("one", 13), ("other", 14)]) (g := gTup K 2 (gCons (gName 13) (gCons (gName 14) gNil))) rfl sc_law.nd (pi_list (pv 5)) (blkOk_by (own := [("one", 13), ("other", 14)]) (N := ["script", "bag", "few", "often", "pairs", "shown", "k", "case", "runner", "handed", "cells", "state", "due", "one", "other"]) (sc := defScope s_law) (by decide +kernel)) (fun _ _ _ _ _ => pgT (K := K) (n := 2) rfl (pgs_cons (pg_name (i := 13) sc_law.nd rfl (by first | exact Or.inl rfl | exact Or.inr rfl)) (pgs_cons (pg_name (i := 14) sc_law.nd rfl (by first | exact Or.inl rfl | exact Or.inr rfl)) pgs_nil))) (fun _ _ _ _ _ => pts_nil) (fun _ _ _ _ _ => (pe_cmpR (opEqD (K := K) hr.units) (pv 13) (pv 14) (nomark _)))) pa_nil)))))))))))), ?_⟩
    rw [show start ["script", "bag", "few", "often", "pairs", "shown", "k", "case", "runner", "handed", "cells", "state", "due", "one", "other"] [v0] = [some v0, none, none, none, none, none, none, none, none, none, none, none, none, none, none] from rfl]
    obtain ⟨sc, ns, rfl, hS, hl, q⟩ := h
    walk_at "go"
    refine ⟨sc, ns, rfl, hS, hl, fun b F1 H1 g1 hb => ?_⟩
    have hSc : SqL K H1 sc (ns.map V.int) := sqL_same g1.ws hS
    have w := (W.bag0 g1 hb)
    walk_at "go"
    refine n_draw w (by walk_at "pick") (by decide) (by decide) fun x1 F1 H1 w x10 x11 => ?_
    walk_at "go"
    generalize decide (x1 = 1) = few
    refine n_lst w (szle (by simp)) fun pl1 F1 H1 w hpl1 => ?_
    walk_at "go"
    refine n_draw w (by walk_at "pick") (by decide) (by decide) fun x3 F1 H1 w x30 x31 => ?_
    obtain ⟨often, eo, o0, o1⟩ := pick_ix (ns := [2, 3, 8, 40]) (i := x3) (lo := 2) (hi := 40) (by omega) (by show x3 < 4; omega) (by decide)
    walk_at "go"
    refine w_ixL _ _ (by walk_at "sq") (show atI [V.int 2, .int 3, .int 8, .int 40] x3 = some (.int often) from eo) ?_
    walk_at "go"
    refine n_lst w (szle (by simp)) fun pp F1 H1 w hpp => ?_
    walk_at "go"
    refine n_lst w (szle (by simp)) fun psn F1 H1 w hpsn => ?_
    walk_at "go"
    refine n_forR w (fun i σ L => ∃ y6 y7 y8 y9 y10 y11 : Option V, σ = [some (.ref sc), some (.ref b), some (.bl few), some (.int often), some (.ref pp), some (.ref psn), y6, y7, y8, y9, y10, y11, none, none, none] ∧ ((i = 0 ∧ L = [bag K b, mu pp (.lst []), mu psn (.lst [])]) ∨ (i = 1 ∧ ∃ d : PD, d.Ok ∧ L = [bag K b, mu pp (.lst [.ref d.t]), mu psn (.lst []), rnr K d.r d.A d.ms d.s0, lsr K d.l d.A d.ms d.s0, mu d.p0 (.lst d.vs), mu d.p1 (.lst (nV d.ms)), dpa K d.vs (d.rs.map PRow.d), fx d.t (.tup [.ref d.r.c, .ref d.l.p, .ref d.pz, .ref d.ph]), fx d.ph (.lst [.ref d.p0, .ref d.p1]), fx d.pz (.lst d.due)]) ∨ (i = 2 ∧ ∃ d1 d : PD, d1.Ok ∧ d.Ok ∧ L = [bag K b, mu pp (.lst [.ref d1.t, .ref d.t]), mu psn (.lst []), rnr K d1.r d1.A d1.ms d1.s0, lsr K d1.l d1.A d1.ms d1.s0, mu d1.p0 (.lst d1.vs), mu d1.p1 (.lst (nV d1.ms)), dpa K d1.vs (d1.rs.map PRow.d), fx d1.t (.tup [.ref d1.r.c, .ref d1.l.p, .ref d1.pz, .ref d1.ph]), fx d1.ph (.lst [.ref d1.p0, .ref d1.p1]), fx d1.pz (.lst d1.due), rnr K d.r d.A d.ms d.s0, lsr K d.l d.A d.ms d.s0, mu d.p0 (.lst d.vs), mu d.p1 (.lst (nV d.ms)), dpa K d.vs (d.rs.map PRow.d), fx d.t (.tup [.ref d.r.c, .ref d.l.p, .ref d.pz, .ref d.ph]), fx d.ph (.lst [.ref d.p0, .ref d.p1]), fx d.pz (.lst d.due)]))) ⟨none, none, none, none, none, none, rfl, .inl ⟨rfl, rfl⟩⟩ (fun i σ L F' H' hi hp w => ?_) (fun σ L F' H' hp w => ?_)
    · obtain ⟨y6, y7, y8, y9, y10, y11, rfl, hp⟩ := hp
      rcases hp with ⟨rfl, rfl⟩ | ⟨rfl, d1, hd1, rfl⟩ | ⟨rfl, _⟩
      · walk_at "go"
        refine ⟨_, b, few, often, rfl, rfl, rfl, w.st (by walk_at "pick"), by omega, by omega, fun a o rs ms slots big F2 H2 w2 hc => ?_⟩
        replace w := w.calB (by walk_at "pick") w2 (by walk_at "app")
        have hol := hc.ol
        have hbl := hc.bl
        have hsl := hc.sl
        have hrz := hc.rz
        have hrl := hc.rl
        replace w := W.opnC (K := K) (a := a) (o := o) (rs := rs) (ms := ms) (slots := slots) (big := big) w (by walk_at "mem")
        have hvl : a.vs.length = rs.length := by rw [dpa_len (w.dpa (K := K) (xs := a.vs) (ds := rs.map PRow.d) (by walk_at "mem")), List.length_map]
        walk_at "go"
        refine ⟨_, b, a, o, rs, ms, slots, big, rfl, rfl, w.st (by walk_at "pick"), hc, fun t r ph p0 p1 cells F2 H2 hcl hcm w2 => ?_⟩
        replace w := w.cal (D := [caseP K a o rs ms slots big, bag K b]) (by walk_at "pick") w2 (by walk_at "app")
        walk_at "go"
        refine ⟨_, a.pd, a.pm, o, a.vs, rs, ms, slots, cells, rfl, rfl, rfl, rfl, rfl, w.fh, sqL_of (w.i (fx a.pd (.lst a.vs)) (by walk_at "mem")), w.dpa (by walk_at "mem"), sqL_of (w.i (fx a.pm (.lst (nV ms))) (by walk_at "mem")), hc.ro, by omega, hc.ml, hc.oo, by omega, by omega, hcm, fun l F3 H3 w3 hnew hkv => ?_⟩
        replace w := w.cal (D := []) .nil w3 (by walk_at "app")
        have hgl : (goneAll (stR o big slots) rs).1.length = big := by rw [(gone_all_len rs (stR o big slots)).1, (stR_len o big slots).1]; omega
        walk_at "go"
        refine n_lst w (szle (by simp)) fun q1 F4 H4 w hq1 => ?_
        walk_at "go"
        refine n_rep w (by walk_at "at") (by omega) (by omega) (szle (by show 1 * _ ≤ _; omega)) fun q2 F4 H4 w hq2 => ?_
        rw [show (List.replicate (((cells : Nat) : Int) - ((big : Nat) : Int)).toNat [V.non]).flatten = List.replicate (cells - big) V.non by rw [List.flatten_replicate_singleton, show (((cells : Nat) : Int) - ((big : Nat) : Int)).toNat = cells - big by omega]] at w
        walk_at "go"
        refine n_cat (p := a.pr) (q := q2) w (by walk_at "at") (by walk_at "at") (szle (by rw [hgl, List.length_replicate]; omega)) fun pz F4 H4 w hpz => ?_
        obtain ⟨F5, w⟩ := w.fzL (p := pz) (by walk_at "pick") hpz
        walk_at "go"
        refine n_tup w (szle (by simp)) fun tt F6 H6 w => ?_
        walk_at "go"
        refine n_app (p := pp) w (by walk_at "pick") (small_lt (by simp)) fun H7 w => ?_
        obtain ⟨d, ed⟩ : ∃ d : PD, d = ⟨tt, r, l, o, rs, ms, slots, big, cells, pz, ph, p0, p1, a.vs⟩ := ⟨_, rfl⟩
        have hd : d.Ok := by rw [ed]; exact ⟨hc, hcl, hcm, Nat.le_trans hkv (by decide), by show a.vs.length ≤ 2000; omega⟩
        replace w := w.to (D := [bag K b, mu pp (.lst [.ref tt]), mu psn (.lst []), rnr K r (rs.flatMap PRow.acts) ms ⟨stR o cells slots, 0, 0⟩, lsr K l (rs.flatMap PRow.acts) ms ⟨stR o cells slots, 0, 0⟩, mu p0 (.lst a.vs), mu p1 (.lst (nV ms)), dpa K a.vs (rs.map PRow.d), fx tt (.tup [.ref r.c, .ref l.p, .ref pz, .ref ph]), fx ph (.lst [.ref p0, .ref p1]), fx pz (.lst ((goneAll (stR o big slots) rs).1 ++ List.replicate (cells - big) V.non))]) (by walk_at "pick")
        rw [show [bag K b, mu pp (.lst [.ref tt]), mu psn (.lst []), rnr K r (rs.flatMap PRow.acts) ms ⟨stR o cells slots, 0, 0⟩, lsr K l (rs.flatMap PRow.acts) ms ⟨stR o cells slots, 0, 0⟩, mu p0 (.lst a.vs), mu p1 (.lst (nV ms)), dpa K a.vs (rs.map PRow.d), fx tt (.tup [.ref r.c, .ref l.p, .ref pz, .ref ph]), fx ph (.lst [.ref p0, .ref p1]), fx pz (.lst ((goneAll (stR o big slots) rs).1 ++ List.replicate (cells - big) V.non))] = [bag K b, mu pp (.lst [.ref d.t]), mu psn (.lst []), rnr K d.r d.A d.ms d.s0, lsr K d.l d.A d.ms d.s0, mu d.p0 (.lst d.vs), mu d.p1 (.lst (nV d.ms)), dpa K d.vs (d.rs.map PRow.d), fx d.t (.tup [.ref d.r.c, .ref d.l.p, .ref d.pz, .ref d.ph]), fx d.ph (.lst [.ref d.p0, .ref d.p1]), fx d.pz (.lst d.due)] by rw [ed]] at w
        exact nx_mk w ⟨_, _, _, _, _, _, rfl, .inr (.inl ⟨rfl, d, hd, rfl⟩)⟩ (by walk_at "pk")
      · walk_at "go"
        refine ⟨_, b, few, often, rfl, rfl, rfl, w.st (by walk_at "pick"), by omega, by omega, fun a o rs ms slots big F2 H2 w2 hc => ?_⟩
        replace w := w.calB (by walk_at "pick") w2 (by walk_at "app")
        have hol := hc.ol
        have hbl := hc.bl
        have hsl := hc.sl
        have hrz := hc.rz
        have hrl := hc.rl
        replace w := W.opnC (K := K) (a := a) (o := o) (rs := rs) (ms := ms) (slots := slots) (big := big) w (by walk_at "mem")
        have hvl : a.vs.length = rs.length := by rw [dpa_len (w.dpa (K := K) (xs := a.vs) (ds := rs.map PRow.d) (by walk_at "mem")), List.length_map]
        walk_at "go"
        refine ⟨_, b, a, o, rs, ms, slots, big, rfl, rfl, w.st (by walk_at "pick"), hc, fun t r ph p0 p1 cells F2 H2 hcl hcm w2 => ?_⟩
        replace w := w.cal (D := [caseP K a o rs ms slots big, bag K b]) (by walk_at "pick") w2 (by walk_at "app")
        walk_at "go"
        refine ⟨_, a.pd, a.pm, o, a.vs, rs, ms, slots, cells, rfl, rfl, rfl, rfl, rfl, w.fh, sqL_of (w.i (fx a.pd (.lst a.vs)) (by walk_at "mem")), w.dpa (by walk_at "mem"), sqL_of (w.i (fx a.pm (.lst (nV ms))) (by walk_at "mem")), hc.ro, by omega, hc.ml, hc.oo, by omega, by omega, hcm, fun l F3 H3 w3 hnew hkv => ?_⟩
        replace w := w.cal (D := []) .nil w3 (by walk_at "app")
        have hgl : (goneAll (stR o big slots) rs).1.length = big := by rw [(gone_all_len rs (stR o big slots)).1, (stR_len o big slots).1]; omega
        walk_at "go"
        refine n_lst w (szle (by simp)) fun q1 F4 H4 w hq1 => ?_
        walk_at "go"
        refine n_rep w (by walk_at "at") (by omega) (by omega) (szle (by show 1 * _ ≤ _; omega)) fun q2 F4 H4 w hq2 => ?_
        rw [show (List.replicate (((cells : Nat) : Int) - ((big : Nat) : Int)).toNat [V.non]).flatten = List.replicate (cells - big) V.non by rw [List.flatten_replicate_singleton, show (((cells : Nat) : Int) - ((big : Nat) : Int)).toNat = cells - big by omega]] at w
        walk_at "go"
        refine n_cat (p := a.pr) (q := q2) w (by walk_at "at") (by walk_at "at") (szle (by rw [hgl, List.length_replicate]; omega)) fun pz F4 H4 w hpz => ?_
        obtain ⟨F5, w⟩ := w.fzL (p := pz) (by walk_at "pick") hpz
        walk_at "go"
        refine n_tup w (szle (by simp)) fun tt F6 H6 w => ?_
        walk_at "go"
        refine n_app (p := pp) w (by walk_at "pick") (small_lt (by simp)) fun H7 w => ?_
        obtain ⟨d, ed⟩ : ∃ d : PD, d = ⟨tt, r, l, o, rs, ms, slots, big, cells, pz, ph, p0, p1, a.vs⟩ := ⟨_, rfl⟩
        have hd : d.Ok := by rw [ed]; exact ⟨hc, hcl, hcm, Nat.le_trans hkv (by decide), by show a.vs.length ≤ 2000; omega⟩
        replace w := w.to (D := [bag K b, mu pp (.lst [.ref d1.t, .ref tt]), mu psn (.lst []), rnr K d1.r d1.A d1.ms d1.s0, lsr K d1.l d1.A d1.ms d1.s0, mu d1.p0 (.lst d1.vs), mu d1.p1 (.lst (nV d1.ms)), dpa K d1.vs (d1.rs.map PRow.d), fx d1.t (.tup [.ref d1.r.c, .ref d1.l.p, .ref d1.pz, .ref d1.ph]), fx d1.ph (.lst [.ref d1.p0, .ref d1.p1]), fx d1.pz (.lst d1.due), rnr K r (rs.flatMap PRow.acts) ms ⟨stR o cells slots, 0, 0⟩, lsr K l (rs.flatMap PRow.acts) ms ⟨stR o cells slots, 0, 0⟩, mu p0 (.lst a.vs), mu p1 (.lst (nV ms)), dpa K a.vs (rs.map PRow.d), fx tt (.tup [.ref r.c, .ref l.p, .ref pz, .ref ph]), fx ph (.lst [.ref p0, .ref p1]), fx pz (.lst ((goneAll (stR o big slots) rs).1 ++ List.replicate (cells - big) V.non))]) (by walk_at "pick")
        rw [show [bag K b, mu pp (.lst [.ref d1.t, .ref tt]), mu psn (.lst []), rnr K d1.r d1.A d1.ms d1.s0, lsr K d1.l d1.A d1.ms d1.s0, mu d1.p0 (.lst d1.vs), mu d1.p1 (.lst (nV d1.ms)), dpa K d1.vs (d1.rs.map PRow.d), fx d1.t (.tup [.ref d1.r.c, .ref d1.l.p, .ref d1.pz, .ref d1.ph]), fx d1.ph (.lst [.ref d1.p0, .ref d1.p1]), fx d1.pz (.lst d1.due), rnr K r (rs.flatMap PRow.acts) ms ⟨stR o cells slots, 0, 0⟩, lsr K l (rs.flatMap PRow.acts) ms ⟨stR o cells slots, 0, 0⟩, mu p0 (.lst a.vs), mu p1 (.lst (nV ms)), dpa K a.vs (rs.map PRow.d), fx tt (.tup [.ref r.c, .ref l.p, .ref pz, .ref ph]), fx ph (.lst [.ref p0, .ref p1]), fx pz (.lst ((goneAll (stR o big slots) rs).1 ++ List.replicate (cells - big) V.non))] = [bag K b, mu pp (.lst [.ref d1.t, .ref d.t]), mu psn (.lst []), rnr K d1.r d1.A d1.ms d1.s0, lsr K d1.l d1.A d1.ms d1.s0, mu d1.p0 (.lst d1.vs), mu d1.p1 (.lst (nV d1.ms)), dpa K d1.vs (d1.rs.map PRow.d), fx d1.t (.tup [.ref d1.r.c, .ref d1.l.p, .ref d1.pz, .ref d1.ph]), fx d1.ph (.lst [.ref d1.p0, .ref d1.p1]), fx d1.pz (.lst d1.due), rnr K d.r d.A d.ms d.s0, lsr K d.l d.A d.ms d.s0, mu d.p0 (.lst d.vs), mu d.p1 (.lst (nV d.ms)), dpa K d.vs (d.rs.map PRow.d), fx d.t (.tup [.ref d.r.c, .ref d.l.p, .ref d.pz, .ref d.ph]), fx d.ph (.lst [.ref d.p0, .ref d.p1]), fx d.pz (.lst d.due)] by rw [ed]] at w
        exact nx_mk w ⟨_, _, _, _, _, _, rfl, .inr (.inr ⟨rfl, d1, d, hd1, hd, rfl⟩)⟩ (by walk_at "pk")
      · exact absurd hi (by decide)
    obtain ⟨y6, y7, y8, y9, y10, y11, rfl, hp⟩ := hp
    obtain ⟨d1, d2, hd1, hd2, rfl⟩ : ∃ d1 d2 : PD, d1.Ok ∧ d2.Ok ∧ L = [bag K b, mu pp (.lst [.ref d1.t, .ref d2.t]), mu psn (.lst []), rnr K d1.r d1.A d1.ms d1.s0, lsr K d1.l d1.A d1.ms d1.s0, mu d1.p0 (.lst d1.vs), mu d1.p1 (.lst (nV d1.ms)), dpa K d1.vs (d1.rs.map PRow.d), fx d1.t (.tup [.ref d1.r.c, .ref d1.l.p, .ref d1.pz, .ref d1.ph]), fx d1.ph (.lst [.ref d1.p0, .ref d1.p1]), fx d1.pz (.lst d1.due), rnr K d2.r d2.A d2.ms d2.s0, lsr K d2.l d2.A d2.ms d2.s0, mu d2.p0 (.lst d2.vs), mu d2.p1 (.lst (nV d2.ms)), dpa K d2.vs (d2.rs.map PRow.d), fx d2.t (.tup [.ref d2.r.c, .ref d2.l.p, .ref d2.pz, .ref d2.ph]), fx d2.ph (.lst [.ref d2.p0, .ref d2.p1]), fx d2.pz (.lst d2.due)] := by
      rcases hp with ⟨z, _⟩ | ⟨z, _⟩ | ⟨_, d1, d, h1, h2, e⟩
      · cases z
      · cases z
      · exact ⟨d1, d, h1, h2, e⟩
    have hs1 := hd1.c.start d1.cells
    have hs2 := hd2.c.start d2.cells
    walk_at "go"
    obtain ⟨N, eN, hN⟩ : ∃ N : Nat, (20 + 2 * (if 63 < (((ns.map V.int).length : Nat) : Int) then (63 : Int) else (((ns.map V.int).length : Nat) : Int))).toNat = N ∧ N ≤ 146 := ⟨_, rfl, by split <;> omega⟩
    rw [eN]
    replace w := w.push (shO []) (fun _ h => nomatch h)
    refine n_forR w (fun i σ L => ∃ (y6 : Option V) (s1 s2 : RnS) (us1 xs1 us2 xs2 ys : List V) (ra rb : List PRow), d1.S s1 ∧ d2.S s2 ∧ (∀ q ∈ ra, q.ok) ∧ (∀ q ∈ rb, q.ok) ∧ us1.length ≤ 2000 + i ∧ us2.length ≤ 2000 + i ∧ ys.length ≤ i ∧ σ = [some (.ref sc), some (.ref b), some (.bl few), some (.int often), some (.ref pp), some (.ref psn), y6, y7, y8, y9, y10, y11, none, none, none] ∧ L = [bag K b, mu pp (.lst [.ref d1.t, .ref d2.t]), mu psn (.lst ys), shO ys, rnr K d1.r d1.A d1.ms s1, lsr K d1.l d1.A d1.ms s1, mu d1.p0 (.lst us1), mu d1.p1 (.lst xs1), dpa K us1 (ra.map PRow.d), fx d1.t (.tup [.ref d1.r.c, .ref d1.l.p, .ref d1.pz, .ref d1.ph]), fx d1.ph (.lst [.ref d1.p0, .ref d1.p1]), fx d1.pz (.lst d1.due), rnr K d2.r d2.A d2.ms s2, lsr K d2.l d2.A d2.ms s2, mu d2.p0 (.lst us2), mu d2.p1 (.lst xs2), dpa K us2 (rb.map PRow.d), fx d2.t (.tup [.ref d2.r.c, .ref d2.l.p, .ref d2.pz, .ref d2.ph]), fx d2.ph (.lst [.ref d2.p0, .ref d2.p1]), fx d2.pz (.lst d2.due)]) ⟨y6, d1.s0, d2.s0, d1.vs, nV d1.ms, d2.vs, nV d2.ms, [], d1.rs, d2.rs, hs1, hs2, hd1.c.ro, hd2.c.ro, hd1.v, hd2.v, Nat.le_refl _, rfl, rfl⟩ (fun i σ L F' H' hi hp w => ?_) (fun σ L F' H' hp w => ?_)
    · obtain ⟨y6, s1, s2, us1, xs1, us2, xs2, ys, ra, rb, hs1, hs2, hra, hrb, hu1, hu2, hyl, rfl, rfl⟩ := hp
      walk_at "go"
      refine n_draw w (by walk_at "pick") (by decide) (by decide) fun jj F3 H3 w j0 j1 => ?_
      have : jj = 0 ∨ jj = 1 := by omega
      rcases this with rfl | rfl
      · walk_at "go"
        refine ⟨_, b, d1.t, d1.r, d1.l, d1.o, d1.rs, d1.ms, d1.slots, d1.big, d1.cells, s1, d1.pz, d1.ph, d1.p0, d1.p1, psn, us1, xs1, ys, ra, rfl, rfl, rfl, w.st (by walk_at "pick"), hra, by omega, by omega, hd1.c, hd1.h, hd1.m, hs1, fun s3 us3 xs3 zs r3 F4 H4 hcs3 hok3 hus3 hzs w2 => ?_⟩
        replace w := w.cal (D := [bag K b, rnr K d1.r d1.A d1.ms s1, lsr K d1.l d1.A d1.ms s1, mu d1.p0 (.lst us1), mu d1.p1 (.lst xs1), mu psn (.lst ys)]) (by walk_at "pick") w2 (by walk_at "app")
        replace w := w.push (shO (ys ++ zs)) (fun v hv => by
          rcases List.mem_append.mp hv with hv | hv
          · exact w.i (shO ys) (by walk_at "mem") v hv
          · exact w.i (shO zs) (by walk_at "mem") v hv)
        walk_at "go"
        exact nx_mk w ⟨_, s3, s2, us3, xs3, us2, xs2, ys ++ zs, r3, rb, hcs3, hs2, hok3, hrb, by omega, by omega, by rw [List.length_append]; omega, rfl, rfl⟩ (by walk_at "pk")
      · walk_at "go"
        refine ⟨_, b, d2.t, d2.r, d2.l, d2.o, d2.rs, d2.ms, d2.slots, d2.big, d2.cells, s2, d2.pz, d2.ph, d2.p0, d2.p1, psn, us2, xs2, ys, rb, rfl, rfl, rfl, w.st (by walk_at "pick"), hrb, by omega, by omega, hd2.c, hd2.h, hd2.m, hs2, fun s3 us3 xs3 zs r3 F4 H4 hcs3 hok3 hus3 hzs w2 => ?_⟩
        replace w := w.cal (D := [bag K b, rnr K d2.r d2.A d2.ms s2, lsr K d2.l d2.A d2.ms s2, mu d2.p0 (.lst us2), mu d2.p1 (.lst xs2), mu psn (.lst ys)]) (by walk_at "pick") w2 (by walk_at "app")
        replace w := w.push (shO (ys ++ zs)) (fun v hv => by
          rcases List.mem_append.mp hv with hv | hv
          · exact w.i (shO ys) (by walk_at "mem") v hv
          · exact w.i (shO zs) (by walk_at "mem") v hv)
        walk_at "go"
        exact nx_mk w ⟨_, s1, s3, us1, xs1, us3, xs3, ys ++ zs, ra, r3, hs1, hcs3, hra, hok3, by omega, by omega, by rw [List.length_append]; omega, rfl, rfl⟩ (by walk_at "pk")
    obtain ⟨y6, s1, s2, us1, xs1, us2, xs2, ys, ra, rb, hs1, hs2, hra, hrb, hu1, hu2, hyl, rfl, rfl⟩ := hp
    walk_at "go"
    refine n_forR w (fun i σ L => ∃ (y6 y8 y9 y11 y12 : Option V) (s1 s2 : RnS), d1.S s1 ∧ d2.S s2 ∧ σ = [some (.ref sc), some (.ref b), some (.bl few), some (.int often), some (.ref pp), some (.ref psn), y6, y7, y8, y9, y10, y11, y12, none, none] ∧ L = [bag K b, mu pp (.lst [.ref d1.t, .ref d2.t]), mu psn (.lst ys), shO ys, rnr K d1.r d1.A d1.ms s1, lsr K d1.l d1.A d1.ms s1, mu d1.p0 (.lst us1), mu d1.p1 (.lst xs1), dpa K us1 (ra.map PRow.d), fx d1.t (.tup [.ref d1.r.c, .ref d1.l.p, .ref d1.pz, .ref d1.ph]), fx d1.ph (.lst [.ref d1.p0, .ref d1.p1]), fx d1.pz (.lst d1.due), rnr K d2.r d2.A d2.ms s2, lsr K d2.l d2.A d2.ms s2, mu d2.p0 (.lst us2), mu d2.p1 (.lst xs2), dpa K us2 (rb.map PRow.d), fx d2.t (.tup [.ref d2.r.c, .ref d2.l.p, .ref d2.pz, .ref d2.ph]), fx d2.ph (.lst [.ref d2.p0, .ref d2.p1]), fx d2.pz (.lst d2.due)]) ⟨y6, y8, y9, y11, none, s1, s2, hs1, hs2, rfl, rfl⟩ (fun i σ L F' H' hi hp w => ?_) (fun σ L F' H' hp w => ?_)
    · obtain ⟨y6, y8, y9, y11, y12, s1, s2, hs1, hs2, rfl, rfl⟩ := hp
      walk_at "go"
      refine n_forL [.ref d1.t, .ref d2.t] w (fun j σ L => ∃ (y8 y9 y11 y12 : Option V) (s1 s2 : RnS), d1.S s1 ∧ d2.S s2 ∧ σ = [some (.ref sc), some (.ref b), some (.bl few), some (.int often), some (.ref pp), some (.ref psn), some (.int (i : Nat)), y7, y8, y9, y10, y11, y12, none, none] ∧ L = [bag K b, mu pp (.lst [.ref d1.t, .ref d2.t]), mu psn (.lst ys), shO ys, rnr K d1.r d1.A d1.ms s1, lsr K d1.l d1.A d1.ms s1, mu d1.p0 (.lst us1), mu d1.p1 (.lst xs1), dpa K us1 (ra.map PRow.d), fx d1.t (.tup [.ref d1.r.c, .ref d1.l.p, .ref d1.pz, .ref d1.ph]), fx d1.ph (.lst [.ref d1.p0, .ref d1.p1]), fx d1.pz (.lst d1.due), rnr K d2.r d2.A d2.ms s2, lsr K d2.l d2.A d2.ms s2, mu d2.p0 (.lst us2), mu d2.p1 (.lst xs2), dpa K us2 (rb.map PRow.d), fx d2.t (.tup [.ref d2.r.c, .ref d2.l.p, .ref d2.pz, .ref d2.ph]), fx d2.ph (.lst [.ref d2.p0, .ref d2.p1]), fx d2.pz (.lst d2.due)]) ⟨y8, y9, y11, y12, s1, s2, hs1, hs2, rfl, rfl⟩ (fun j σ L F' H' hp w => ?_) (fun j x σ L F' H' hx hp w => ?_) (fun σ L F' H' hp w => ?_)
      · obtain ⟨y8, y9, y11, y12, s1, s2, hs1, hs2, rfl, rfl⟩ := hp
        walk_at "sq"
      · obtain ⟨y8, y9, y11, y12, s1, s2, hs1, hs2, rfl, rfl⟩ := hp
        match j, hx with
        | 0, hx =>
          obtain rfl := Option.some.inj hx
          walk_at "go"
          refine ⟨_, d1.r, d1.l, d1.o, d1.rs, d1.ms, d1.slots, d1.big, d1.cells, s1, d1.pz, rfl, rfl, rfl, w.st (by walk_at "pick"), hd1.c, hd1.h, hd1.m, hs1, w.i (fx d1.pz (.lst d1.due)) (by walk_at "mem"), hd1.k, fun s3 F4 H4 hs3 w2 => ?_⟩
          replace w := w.cal (D := [rnr K d1.r d1.A d1.ms s1, lsr K d1.l d1.A d1.ms s1]) (by walk_at "pick") w2 (by walk_at "app")
          walk_at "go"
          replace w := w.to (D := [lsr K d1.l d1.A d1.ms s3, rnr K d1.r d1.A d1.ms s3, bag K b, mu pp (.lst [.ref d1.t, .ref d2.t]), mu psn (.lst ys), shO ys, mu d1.p0 (.lst us1), mu d1.p1 (.lst xs1), dpa K us1 (ra.map PRow.d), fx d1.t (.tup [.ref d1.r.c, .ref d1.l.p, .ref d1.pz, .ref d1.ph]), fx d1.ph (.lst [.ref d1.p0, .ref d1.p1]), fx d1.pz (.lst d1.due), rnr K d2.r d2.A d2.ms s2, lsr K d2.l d2.A d2.ms s2, mu d2.p0 (.lst us2), mu d2.p1 (.lst xs2), dpa K us2 (rb.map PRow.d), fx d2.t (.tup [.ref d2.r.c, .ref d2.l.p, .ref d2.pz, .ref d2.ph]), fx d2.ph (.lst [.ref d2.p0, .ref d2.p1]), fx d2.pz (.lst d2.due)]) (by walk_at "pick")
          obtain ⟨w, hkl⟩ := W.opnL w
          unfold lsO at w
          walk_at "go"
          refine n_setL (p := d1.l.p) w (by walk_at "pick") 5 rfl fun H2 w => ?_
          replace w := W.clsL (K := K) (a := d1.l) (acts := d1.A) (bars := d1.ms) (s := rcut s3) (L := [rnr K d1.r d1.A d1.ms s3, bag K b, mu pp (.lst [.ref d1.t, .ref d2.t]), mu psn (.lst ys), shO ys, mu d1.p0 (.lst us1), mu d1.p1 (.lst xs1), dpa K us1 (ra.map PRow.d), fx d1.t (.tup [.ref d1.r.c, .ref d1.l.p, .ref d1.pz, .ref d1.ph]), fx d1.ph (.lst [.ref d1.p0, .ref d1.p1]), fx d1.pz (.lst d1.due), rnr K d2.r d2.A d2.ms s2, lsr K d2.l d2.A d2.ms s2, mu d2.p0 (.lst us2), mu d2.p1 (.lst xs2), dpa K us2 (rb.map PRow.d), fx d2.t (.tup [.ref d2.r.c, .ref d2.l.p, .ref d2.pz, .ref d2.ph]), fx d2.ph (.lst [.ref d2.p0, .ref d2.p1]), fx d2.pz (.lst d2.due)]) (w.to (by walk_at "pick")) hkl
          walk_at "go"
          refine n_meth (w.i (rnr K d1.r d1.A d1.ms s3) (by walk_at "mem")).1.h rfl ?_
          walk_at "go"
          refine ⟨_, d1.r, d1.A, d1.ms, s3, rfl, w.st (by walk_at "pick"), fun F6 H6 w2 => ?_⟩
          replace w := w.cal (D := [rnr K d1.r d1.A d1.ms s3]) (by walk_at "pick") w2 (by walk_at "app")
          walk_at "go"
          exact nx_mk w ⟨_, _, _, _, rcut s3, s2, hs3.cut, hs2, rfl, rfl⟩ (by walk_at "pk")
        | 1, hx =>
          obtain rfl := Option.some.inj hx
          walk_at "go"
          refine ⟨_, d2.r, d2.l, d2.o, d2.rs, d2.ms, d2.slots, d2.big, d2.cells, s2, d2.pz, rfl, rfl, rfl, w.st (by walk_at "pick"), hd2.c, hd2.h, hd2.m, hs2, w.i (fx d2.pz (.lst d2.due)) (by walk_at "mem"), hd2.k, fun s3 F4 H4 hs3 w2 => ?_⟩
          replace w := w.cal (D := [rnr K d2.r d2.A d2.ms s2, lsr K d2.l d2.A d2.ms s2]) (by walk_at "pick") w2 (by walk_at "app")
          walk_at "go"
          replace w := w.to (D := [lsr K d2.l d2.A d2.ms s3, rnr K d2.r d2.A d2.ms s3, bag K b, mu pp (.lst [.ref d1.t, .ref d2.t]), mu psn (.lst ys), shO ys, mu d2.p0 (.lst us2), mu d2.p1 (.lst xs2), dpa K us2 (rb.map PRow.d), fx d2.t (.tup [.ref d2.r.c, .ref d2.l.p, .ref d2.pz, .ref d2.ph]), fx d2.ph (.lst [.ref d2.p0, .ref d2.p1]), fx d2.pz (.lst d2.due), rnr K d1.r d1.A d1.ms s1, lsr K d1.l d1.A d1.ms s1, mu d1.p0 (.lst us1), mu d1.p1 (.lst xs1), dpa K us1 (ra.map PRow.d), fx d1.t (.tup [.ref d1.r.c, .ref d1.l.p, .ref d1.pz, .ref d1.ph]), fx d1.ph (.lst [.ref d1.p0, .ref d1.p1]), fx d1.pz (.lst d1.due)]) (by walk_at "pick")
          obtain ⟨w, hkl⟩ := W.opnL w
          unfold lsO at w
          walk_at "go"
          refine n_setL (p := d2.l.p) w (by walk_at "pick") 5 rfl fun H2 w => ?_
          replace w := W.clsL (K := K) (a := d2.l) (acts := d2.A) (bars := d2.ms) (s := rcut s3) (L := [rnr K d2.r d2.A d2.ms s3, bag K b, mu pp (.lst [.ref d1.t, .ref d2.t]), mu psn (.lst ys), shO ys, mu d2.p0 (.lst us2), mu d2.p1 (.lst xs2), dpa K us2 (rb.map PRow.d), fx d2.t (.tup [.ref d2.r.c, .ref d2.l.p, .ref d2.pz, .ref d2.ph]), fx d2.ph (.lst [.ref d2.p0, .ref d2.p1]), fx d2.pz (.lst d2.due), rnr K d1.r d1.A d1.ms s1, lsr K d1.l d1.A d1.ms s1, mu d1.p0 (.lst us1), mu d1.p1 (.lst xs1), dpa K us1 (ra.map PRow.d), fx d1.t (.tup [.ref d1.r.c, .ref d1.l.p, .ref d1.pz, .ref d1.ph]), fx d1.ph (.lst [.ref d1.p0, .ref d1.p1]), fx d1.pz (.lst d1.due)]) (w.to (by walk_at "pick")) hkl
          walk_at "go"
          refine n_meth (w.i (rnr K d2.r d2.A d2.ms s3) (by walk_at "mem")).1.h rfl ?_
          walk_at "go"
          refine ⟨_, d2.r, d2.A, d2.ms, s3, rfl, w.st (by walk_at "pick"), fun F6 H6 w2 => ?_⟩
          replace w := w.cal (D := [rnr K d2.r d2.A d2.ms s3]) (by walk_at "pick") w2 (by walk_at "app")
          walk_at "go"
          exact nx_mk w ⟨_, _, _, _, s1, rcut s3, hs1, hs3.cut, rfl, rfl⟩ (by walk_at "pk")
        | j + 2, hx => exact absurd hx (by simp)
      · obtain ⟨y8, y9, y11, y12, s1, s2, hs1, hs2, rfl, rfl⟩ := hp
        exact nx_mk w ⟨_, y8, y9, y11, y12, s1, s2, hs1, hs2, rfl, rfl⟩ (by walk_at "pk")
    obtain ⟨y6, y8, y9, y11, y12, s1, s2, hs1, hs2, rfl, rfl⟩ := hp
    walk_at "go"
    refine n_lcL ys w (fun i zs L => zs = (List.replicate i true).map V.bl ∧ L = [mu psn (.lst ys), shO ys]) ⟨rfl, rfl⟩ (fun i zs L F' H' D hp w => ?_) (fun i x zs L F' H' D hx hp w hD => ?_) (fun D zs L F' H' hp w hD => ?_)
    · obtain ⟨rfl, rfl⟩ := hp
      walk_at "sq"
    · obtain ⟨rfl, rfl⟩ := hp
      have hi := (List.getElem?_eq_some_iff.mp hx).1
      obtain ⟨tt, pq, cc, vv, rfl, h1, h2, h3, h4, h5⟩ := w.i (shO ys) (by walk_at "mem") x (List.mem_of_getElem? hx)
      have hvg := flat_good h4 (by omega)
      walk_at "wp"
      refine w_tgt _ (sqT_of (w.fh _ _ h1)) rfl ?_
      walk_at "go"
      refine u_eqD (Same.refl _) (.lst (sqL_of (w.fh _ _ h2)) (flat_dpa h4)) (.lst (sqL_of (w.fh _ _ h3)) (flat_dpa h4)) hvg.1 (Nat.le_trans hvg.2 (by decide)) ?_
      walk_at "go"
      exact n_acc ((List.replicate i true).map V.bl) w ⟨by rw [List.replicate_succ', List.map_append]; rfl, rfl⟩ (by walk_at "pk") (small_lt (by rw [List.length_map, List.length_replicate]; omega))
    · obtain ⟨rfl, rfl⟩ := hp
      walk_at "go"
      refine ⟨D, _, rfl, w.sqM (by walk_at "mem"), ?_⟩
      rw [all_rep]
      exact q _
end
theorem facts {P : Program} {w : World} {K : PySem.W.Frag} {mg : Str → Option Value} {h : Heap} {f : Addr} (X : K.In h) (G : h.Ns mainGlobals mg) (hfa : mg ("law" : Str) = some (.ref f)) (c : He.SaysD fa fn K) :
    ∃ fd : FuncData, (∀ (s : Shared) (v : Value), BindsTo s fd ⟨[v], []⟩ [("script", v)]) ∧ ∀ base : Heap, K.In base → base.Ns mainGlobals mg → FnOk P w K mg base CX0 12 f fd ["script"] (S1 (φlaw K)) := by
  have T : Txt K mg := ⟨He.free_ok X G (c.fact 0 (f := .free "abs") rfl), He.free_ok X G (c.fact 1 (f := .free "all") rfl), He.free_ok X G (c.fact 2 (f := .free "bool") rfl), He.free_ok X G (c.fact 3 (f := .free "dict") rfl), He.free_ok X G (c.fact 4 (f := .free "int") rfl), He.free_ok X G (c.fact 5 (f := .free "isinstance") rfl), He.free_ok X G (c.fact 6 (f := .free "len") rfl), He.free_ok X G (c.fact 7 (f := .free "list") rfl), He.free_ok X G (c.fact 8 (f := .free "max") rfl), He.free_ok X G (c.fact 9 (f := .free "min") rfl), He.free_ok X G (c.fact 10 (f := .free "range") rfl), He.free_ok X G (c.fact 11 (f := .free "sorted") rfl), He.cls_ok (c.fact 39 (f := .cls "Runner") rfl), He.noat_ok (c.fact 41 (f := .noat "Runner" "cells_here") rfl), He.noat_ok (c.fact 42 (f := .noat "Runner" "slots_here") rfl), He.noat_ok (c.fact 43 (f := .noat "Runner" "some") rfl), He.noat_ok (c.fact 44 (f := .noat "Runner" "bounds") rfl), He.noat_ok (c.fact 45 (f := .noat "Runner" "kept") rfl), He.noat_ok (c.fact 46 (f := .noat "Runner" "gone") rfl)⟩
  obtain ⟨fd_row_writes, F_row_writes⟩ := c.def_ 0 (d := d_row_writes) rfl
  obtain ⟨fd_writes, F_writes⟩ := c.def_ 1 (d := d_writes) rfl
  obtain ⟨fd_RunnerX_initX, F_RunnerX_initX⟩ := c.def_ 2 (d := d_RunnerX_initX) rfl
  obtain ⟨fd_Runner_step, F_Runner_step⟩ := c.def_ 3 (d := d_Runner_step) rfl
  obtain ⟨fd_Runner_cut, F_Runner_cut⟩ := c.def_ 4 (d := d_Runner_cut) rfl
  obtain ⟨fd_Runner_mark, F_Runner_mark⟩ := c.def_ 5 (d := d_Runner_mark) rfl
  obtain ⟨fd_Runner_room, F_Runner_room⟩ := c.def_ 6 (d := d_Runner_room) rfl
  obtain ⟨fd_law_bag, F_law_bag⟩ := c.def_ 7 (d := d_law_bag) rfl
  obtain ⟨fd_law_stirred, F_law_stirred⟩ := c.def_ 8 (d := d_law_stirred) rfl
  obtain ⟨fd_law_draw, F_law_draw⟩ := c.def_ 9 (d := d_law_draw) rfl
  obtain ⟨fd_law_whole, F_law_whole⟩ := c.def_ 10 (d := d_law_whole) rfl
  obtain ⟨fd_law_sign, F_law_sign⟩ := c.def_ 11 (d := d_law_sign) rfl
  obtain ⟨fd_law_text, F_law_text⟩ := c.def_ 12 (d := d_law_text) rfl
  obtain ⟨fd_law_any_row, F_law_any_row⟩ := c.def_ 13 (d := d_law_any_row) rfl
  obtain ⟨fd_law_any_plan, F_law_any_plan⟩ := c.def_ 14 (d := d_law_any_plan) rfl
  obtain ⟨fd_law_shape, F_law_shape⟩ := c.def_ 15 (d := d_law_shape) rfl
  obtain ⟨fd_law_row_writes, F_law_row_writes⟩ := c.def_ 16 (d := d_law_row_writes) rfl
  obtain ⟨fd_law_writes, F_law_writes⟩ := c.def_ 17 (d := d_law_writes) rfl
  obtain ⟨fd_law_row_gone, F_law_row_gone⟩ := c.def_ 18 (d := d_law_row_gone) rfl
  obtain ⟨fd_law_write_done, F_law_write_done⟩ := c.def_ 19 (d := d_law_write_done) rfl
  obtain ⟨fd_law_fault_from, F_law_fault_from⟩ := c.def_ 20 (d := d_law_fault_from) rfl
  obtain ⟨fd_law_good_marks, F_law_good_marks⟩ := c.def_ 21 (d := d_law_good_marks) rfl
  obtain ⟨fd_law_state, F_law_state⟩ := c.def_ 22 (d := d_law_state) rfl
  obtain ⟨fd_law_stepped, F_law_stepped⟩ := c.def_ 23 (d := d_law_stepped) rfl
  obtain ⟨fd_law_case, F_law_case⟩ := c.def_ 24 (d := d_law_case) rfl
  obtain ⟨fd_law_spoil, F_law_spoil⟩ := c.def_ 25 (d := d_law_spoil) rfl
  obtain ⟨fd_law_runner, F_law_runner⟩ := c.def_ 26 (d := d_law_runner) rfl
  obtain ⟨fd_law_step_right, F_law_step_right⟩ := c.def_ 27 (d := d_law_step_right) rfl
  obtain ⟨fd_law_deed_right, F_law_deed_right⟩ := c.def_ 28 (d := d_law_deed_right) rfl
  obtain ⟨fd_law_ended, F_law_ended⟩ := c.def_ 29 (d := d_law_ended) rfl
  obtain ⟨fd_law, F_law⟩ := c.def_ 30 (d := d_law) rfl
  have D_row_writes : ∀ base, DO P w K mg base 1 "row_writes" ["row"] [] (S1 (φrow_writes K)) := fun base => ⟨_, _, [], ok_row_writes F_row_writes T , He.glo_ok X G (c.fact 12 (f := .glo "row_writes") rfl), F_row_writes.kp, F_row_writes.bindsN fun _ _ _ _ _ _ us hl => match us, hl with | [_], _ => rfl, .nil⟩
  have D_writes : ∀ base, DO P w K mg base 2 "writes" ["plan"] [] (S1 (φwrites K)) := fun base => ⟨_, _, [], ok_writes F_writes T (D_row_writes base), He.glo_ok X G (c.fact 13 (f := .glo "writes") rfl), F_writes.kp, F_writes.bindsN fun _ _ _ _ _ _ us hl => match us, hl with | [_], _ => rfl, .nil⟩
  have DN_Runner_3 : ∀ base, DN P w K mg base 3 "Runner" ["self", "old", "plan", "marks", "spare", "size"] [.int 0, .int 0] (S6 (φrinit K)) := fun base => by
    obtain ⟨ds, rd, bd⟩ := FunD.binds1 F_RunnerX_initX (ps := ["self", "old", "plan", "marks", "spare", "size"]) 4 0 (by intro z; cases z) rfl (fun T' kV doc pm an cdv ct us its hu hi => match us, its, hu, hi with | [_, _, _, _], [_, _], _, _ => ⟨_, rfl, rfl⟩)
    exact ⟨_, ds, ok_RunnerX_initX F_RunnerX_initX T (D_writes base), He.mkr_ok (c.fact 40 (f := .mkr "Runner") rfl), He.glo_ok X G (c.fact 38 (f := .glo "Runner") rfl), bd, rd⟩
  have DN_Runner_4 : ∀ base, DN P w K mg base 3 "Runner" ["self", "old", "plan", "marks", "spare", "size"] [.int 0] (S6 (φrinit K)) := fun base => by
    obtain ⟨ds, rd, bd⟩ := FunD.binds1 F_RunnerX_initX (ps := ["self", "old", "plan", "marks", "spare", "size"]) 5 1 (by intro z; cases z) rfl (fun T' kV doc pm an cdv ct us its hu hi => match us, its, hu, hi with | [_, _, _, _, _], [_, _], _, _ => ⟨_, rfl, rfl⟩)
    exact ⟨_, ds, ok_RunnerX_initX F_RunnerX_initX T (D_writes base), He.mkr_ok (c.fact 40 (f := .mkr "Runner") rfl), He.glo_ok X G (c.fact 38 (f := .glo "Runner") rfl), bd, rd⟩
  have DN_Runner_5 : ∀ base, DN P w K mg base 3 "Runner" ["self", "old", "plan", "marks", "spare", "size"] [] (S6 (φrinit K)) := fun base => by
    obtain ⟨ds, rd, bd⟩ := FunD.binds1 F_RunnerX_initX (ps := ["self", "old", "plan", "marks", "spare", "size"]) 6 2 (by intro z; cases z) rfl (fun T' kV doc pm an cdv ct us its hu hi => match us, its, hu, hi with | [_, _, _, _, _, _], [_, _], _, _ => ⟨_, rfl, rfl⟩)
    exact ⟨_, ds, ok_RunnerX_initX F_RunnerX_initX T (D_writes base), He.mkr_ok (c.fact 40 (f := .mkr "Runner") rfl), He.glo_ok X G (c.fact 38 (f := .glo "Runner") rfl), bd, rd⟩
  have DNK_Runner_0_old_plan_marks_spare_size : ∀ base, DNK P w K mg base 3 "Runner" ["self", "old", "plan", "marks", "spare", "size"] 0 ["old", "plan", "marks", "spare", "size"] [(0, 0), (1, 0), (1, 1), (1, 2), (1, 3), (1, 4)] [.int 0, .int 0] (S6 (φrinit K)) := fun base => by
    obtain ⟨ds, bd⟩ := kbD (tp := [(0, 0), (1, 0), (1, 1), (1, 2), (1, 3), (1, 4)]) (ps := ["self", "old", "plan", "marks", "spare", "size"]) (ks := ["old", "plan", "marks", "spare", "size"]) (n := 1) F_RunnerX_initX (by intro z; cases z) (fun T' kV doc pm an cdv ct us ws its hu hw hi => match us, ws, its, hu, hw, hi with | [_], [_, _, _, _, _], [_, _], _, _, _ => ⟨_, rfl, rfl⟩)
    exact ⟨_, ds, ok_RunnerX_initX F_RunnerX_initX T (D_writes base), He.mkr_ok (c.fact 40 (f := .mkr "Runner") rfl), He.glo_ok X G (c.fact 38 (f := .glo "Runner") rfl), bd⟩
  have DNK_Runner_3_size : ∀ base, DNK P w K mg base 3 "Runner" ["self", "old", "plan", "marks", "spare", "size"] 3 ["size"] [(0, 0), (0, 1), (0, 2), (0, 3), (2, 0), (1, 0)] [.int 0, .int 0] (S6 (φrinit K)) := fun base => by
    obtain ⟨ds, bd⟩ := kbD (tp := [(0, 0), (0, 1), (0, 2), (0, 3), (2, 0), (1, 0)]) (ps := ["self", "old", "plan", "marks", "spare", "size"]) (ks := ["size"]) (n := 4) F_RunnerX_initX (by intro z; cases z) (fun T' kV doc pm an cdv ct us ws its hu hw hi => match us, ws, its, hu, hw, hi with | [_, _, _, _], [_], [_, _], _, _, _ => ⟨_, rfl, rfl⟩)
    exact ⟨_, ds, ok_RunnerX_initX F_RunnerX_initX T (D_writes base), He.mkr_ok (c.fact 40 (f := .mkr "Runner") rfl), He.glo_ok X G (c.fact 38 (f := .glo "Runner") rfl), bd⟩
  have DM_Runner_step : ∀ base, DM P w K mg base 1 "Runner" "step" ["self"] [] (S1 (φrstep K)) := fun base => ⟨_, [], ok_Runner_step F_Runner_step T , He.meth_ok (c.fact 47 (f := .meth "Runner" "step") rfl), T.k_Runner, F_Runner_step.bindsN fun _ _ _ _ _ _ us hl => match us, hl with | [_], _ => rfl, .nil⟩
  have DM_Runner_cut : ∀ base, DM P w K mg base 1 "Runner" "cut" ["self"] [] (S1 (φrcut K)) := fun base => ⟨_, [], ok_Runner_cut F_Runner_cut T , He.meth_ok (c.fact 48 (f := .meth "Runner" "cut") rfl), T.k_Runner, F_Runner_cut.bindsN fun _ _ _ _ _ _ us hl => match us, hl with | [_], _ => rfl, .nil⟩
  have DM_Runner_mark : ∀ base, DM P w K mg base 1 "Runner" "mark" ["self"] [] (S1 (φrmark K)) := fun base => ⟨_, [], ok_Runner_mark F_Runner_mark T , He.meth_ok (c.fact 49 (f := .meth "Runner" "mark") rfl), T.k_Runner, F_Runner_mark.bindsN fun _ _ _ _ _ _ us hl => match us, hl with | [_], _ => rfl, .nil⟩
  have DM_Runner_room : ∀ base, DM P w K mg base 1 "Runner" "room" ["self"] [] (S1 (φrroom K)) := fun base => ⟨_, [], ok_Runner_room F_Runner_room T , He.meth_ok (c.fact 50 (f := .meth "Runner" "room") rfl), T.k_Runner, F_Runner_room.bindsN fun _ _ _ _ _ _ us hl => match us, hl with | [_], _ => rfl, .nil⟩
  have D_law_bag : ∀ base, DO P w K mg base 1 "_law_bag" ["script"] [] (S1 (φbag K)) := fun base => ⟨_, _, [], ok_law_bag F_law_bag T , He.glo_ok X G (c.fact 14 (f := .glo "_law_bag") rfl), F_law_bag.kp, F_law_bag.bindsN fun _ _ _ _ _ _ us hl => match us, hl with | [_], _ => rfl, .nil⟩
  have D_law_stirred : ∀ base, DO P w K mg base 1 "_law_stirred" ["bag", "many"] [] (S2 (φdraw K)) := fun base => ⟨_, _, [], ok_law_stirred F_law_stirred T , He.glo_ok X G (c.fact 15 (f := .glo "_law_stirred") rfl), F_law_stirred.kp, F_law_stirred.bindsN fun _ _ _ _ _ _ us hl => match us, hl with | [_, _], _ => rfl, .nil⟩
  have D_law_draw : ∀ base, DO P w K mg base 2 "_law_draw" ["bag", "many"] [] (S2 (φdraw K)) := fun base => ⟨_, _, [], ok_law_draw F_law_draw T (D_law_stirred base), He.glo_ok X G (c.fact 16 (f := .glo "_law_draw") rfl), F_law_draw.kp, F_law_draw.bindsN fun _ _ _ _ _ _ us hl => match us, hl with | [_, _], _ => rfl, .nil⟩
  have D_law_whole : ∀ base, DO P w K mg base 1 "_law_whole" ["got"] [] (S1 φwholeF) := fun base => ⟨_, _, [], ok_law_whole F_law_whole T , He.glo_ok X G (c.fact 17 (f := .glo "_law_whole") rfl), F_law_whole.kp, F_law_whole.bindsN fun _ _ _ _ _ _ us hl => match us, hl with | [_], _ => rfl, .nil⟩
  have D_law_sign : ∀ base, DO P w K mg base 3 "_law_sign" ["bag", "few"] [] (S2 (φsign K)) := fun base => ⟨_, _, [], ok_law_sign F_law_sign T (D_law_draw base), He.glo_ok X G (c.fact 18 (f := .glo "_law_sign") rfl), F_law_sign.kp, F_law_sign.bindsN fun _ _ _ _ _ _ us hl => match us, hl with | [_, _], _ => rfl, .nil⟩
  have D_law_text : ∀ base, DO P w K mg base 4 "_law_text" ["bag", "few", "many"] [] (S3 (φtext K)) := fun base => ⟨_, _, [], ok_law_text F_law_text T (D_law_sign base), He.glo_ok X G (c.fact 19 (f := .glo "_law_text") rfl), F_law_text.kp, F_law_text.bindsN fun _ _ _ _ _ _ us hl => match us, hl with | [_, _, _], _ => rfl, .nil⟩
  have D_law_any_row : ∀ base, DO P w K mg base 5 "_law_any_row" ["bag", "has", "few", "wide"] [] (S4 (φany_rowS K)) := fun base => ⟨_, _, [], ok_law_any_row F_law_any_row T (D_law_draw base) (D_law_text base), He.glo_ok X G (c.fact 20 (f := .glo "_law_any_row") rfl), F_law_any_row.kp, F_law_any_row.bindsN fun _ _ _ _ _ _ us hl => match us, hl with | [_, _, _, _], _ => rfl, .nil⟩
  have D_law_any_plan_6 : ∀ base, DO P w K mg base 6 "_law_any_plan" ["bag", "n", "big", "slots", "rows", "few", "most"] [.int 1500] (S7 (φany_planS K)) := fun base => by
    obtain ⟨ds, rd, bd⟩ := FunD.binds1 F_law_any_plan (ps := ["bag", "n", "big", "slots", "rows", "few", "most"]) 6 0 (by intro z; cases z) rfl (fun T' kV doc pm an cdv ct us its hu hi => match us, its, hu, hi with | [_, _, _, _, _, _], [_], _, _ => ⟨_, rfl, rfl⟩)
    exact ⟨_, _, ds, ok_law_any_plan F_law_any_plan T (D_law_any_row base) (D_law_draw base) (D_law_sign base), He.glo_ok X G (c.fact 21 (f := .glo "_law_any_plan") rfl), F_law_any_plan.kp, bd, rd⟩
  have D_law_shape : ∀ base, DO P w K mg base 3 "_law_shape" ["bag"] [] (S1 (φshape K)) := fun base => ⟨_, _, [], ok_law_shape F_law_shape T (D_law_draw base), He.glo_ok X G (c.fact 22 (f := .glo "_law_shape") rfl), F_law_shape.kp, F_law_shape.bindsN fun _ _ _ _ _ _ us hl => match us, hl with | [_], _ => rfl, .nil⟩
  have D_law_row_writes : ∀ base, DO P w K mg base 1 "_law_row_writes" ["row"] [] (S1 (φrow_writes K)) := fun base => ⟨_, _, [], ok_law_row_writes F_law_row_writes T , He.glo_ok X G (c.fact 23 (f := .glo "_law_row_writes") rfl), F_law_row_writes.kp, F_law_row_writes.bindsN fun _ _ _ _ _ _ us hl => match us, hl with | [_], _ => rfl, .nil⟩
  have D_law_writes : ∀ base, DO P w K mg base 2 "_law_writes" ["deeds"] [] (S1 (φwrites K)) := fun base => ⟨_, _, [], ok_law_writes F_law_writes T (D_law_row_writes base), He.glo_ok X G (c.fact 24 (f := .glo "_law_writes") rfl), F_law_writes.kp, F_law_writes.bindsN fun _ _ _ _ _ _ us hl => match us, hl with | [_], _ => rfl, .nil⟩
  have D_law_row_gone : ∀ base, DO P w K mg base 2 "_law_row_gone" ["room", "slots", "row"] [] (S3 (φgone K)) := fun base => ⟨_, _, [], ok_law_row_gone F_law_row_gone T , He.glo_ok X G (c.fact 25 (f := .glo "_law_row_gone") rfl), F_law_row_gone.kp, F_law_row_gone.bindsN fun _ _ _ _ _ _ us hl => match us, hl with | [_, _, _], _ => rfl, .nil⟩
  have D_law_write_done : ∀ base, DO P w K mg base 2 "_law_write_done" ["room", "slots", "one"] [] (S3 (φdone K)) := fun base => ⟨_, _, [], ok_law_write_done F_law_write_done T , He.glo_ok X G (c.fact 26 (f := .glo "_law_write_done") rfl), F_law_write_done.kp, F_law_write_done.bindsN fun _ _ _ _ _ _ us hl => match us, hl with | [_, _, _], _ => rfl, .nil⟩
  have D_law_fault_from : ∀ base, DO P w K mg base 1 "_law_fault_from" ["acts", "first", "last"] [] (S3 (φfault K)) := fun base => ⟨_, _, [], ok_law_fault_from F_law_fault_from T , He.glo_ok X G (c.fact 27 (f := .glo "_law_fault_from") rfl), F_law_fault_from.kp, F_law_fault_from.bindsN fun _ _ _ _ _ _ us hl => match us, hl with | [_, _, _], _ => rfl, .nil⟩
  have D_law_good_marks : ∀ base, DO P w K mg base 3 "_law_good_marks" ["bag", "acts", "often"] [] (S3 (φgood_marks2 K)) := fun base => ⟨_, _, [], ok_law_good_marks F_law_good_marks T (D_law_draw base) (D_law_fault_from base), He.glo_ok X G (c.fact 28 (f := .glo "_law_good_marks") rfl), F_law_good_marks.kp, F_law_good_marks.bindsN fun _ _ _ _ _ _ us hl => match us, hl with | [_, _, _], _ => rfl, .nil⟩
  have D_law_state : ∀ base, DO P w K mg base 3 "_law_state" ["before", "deeds", "bars", "slots", "big"] [] (S5 (φlstateN K)) := fun base => ⟨_, _, [], ok_law_state F_law_state T (D_law_writes base), He.glo_ok X G (c.fact 29 (f := .glo "_law_state") rfl), F_law_state.kp, F_law_state.bindsN fun _ _ _ _ _ _ us hl => match us, hl with | [_, _, _, _, _], _ => rfl, .nil⟩
  have D_law_stepped : ∀ base, DO P w K mg base 3 "_law_stepped" ["state"] [] (S1 (φlstepped K)) := fun base => ⟨_, _, [], ok_law_stepped F_law_stepped T (D_law_write_done base), He.glo_ok X G (c.fact 30 (f := .glo "_law_stepped") rfl), F_law_stepped.kp, F_law_stepped.bindsN fun _ _ _ _ _ _ us hl => match us, hl with | [_], _ => rfl, .nil⟩
  have D_law_case : ∀ base, DO P w K mg base 7 "_law_case" ["bag", "few", "often"] [] (S3 (φcase K)) := fun base => ⟨_, _, [], ok_law_case F_law_case T (D_law_any_plan_6 base) (D_law_good_marks base) (D_law_row_gone base) (D_law_shape base) (D_law_text base) (D_law_writes base), He.glo_ok X G (c.fact 31 (f := .glo "_law_case") rfl), F_law_case.kp, F_law_case.bindsN fun _ _ _ _ _ _ us hl => match us, hl with | [_, _, _], _ => rfl, .nil⟩
  have D_law_spoil : ∀ base, DO P w K mg base 4 "_law_spoil" ["bag", "rows"] [] (S2 (φlspoil K)) := fun base => ⟨_, _, [], ok_law_spoil F_law_spoil T (D_law_draw base), He.glo_ok X G (c.fact 32 (f := .glo "_law_spoil") rfl), F_law_spoil.kp, F_law_spoil.bindsN fun _ _ _ _ _ _ us hl => match us, hl with | [_, _], _ => rfl, .nil⟩
  have D_law_runner : ∀ base, DO P w K mg base 5 "_law_runner" ["bag", "case"] [] (S2 (φlrunner K)) := fun base => ⟨_, _, [], ok_law_runner F_law_runner T (D_law_draw base) (DN_Runner_3 base) (DN_Runner_4 base) (DN_Runner_5 base) (DNK_Runner_0_old_plan_marks_spare_size base) (DNK_Runner_3_size base), He.glo_ok X G (c.fact 33 (f := .glo "_law_runner") rfl), F_law_runner.kp, F_law_runner.bindsN fun _ _ _ _ _ _ us hl => match us, hl with | [_, _], _ => rfl, .nil⟩
  have D_law_step_right : ∀ base, DO P w K mg base 4 "_law_step_right" ["runner", "state"] [] (S2 (φstepright K)) := fun base => ⟨_, _, [], ok_law_step_right F_law_step_right T (D_law_stepped base) (DM_Runner_step base), He.glo_ok X G (c.fact 34 (f := .glo "_law_step_right") rfl), F_law_step_right.kp, F_law_step_right.bindsN fun _ _ _ _ _ _ us hl => match us, hl with | [_, _], _ => rfl, .nil⟩
  have D_law_deed_right : ∀ base, DO P w K mg base 5 "_law_deed_right" ["bag", "one", "shown"] [] (S3 (φdeed56 K)) := fun base => ⟨_, _, [], ok_law_deed_right F_law_deed_right T (D_law_draw base) (D_law_spoil base) (D_law_step_right base) (D_law_whole base) (DM_Runner_cut base) (DM_Runner_mark base) (DM_Runner_room base), He.glo_ok X G (c.fact 35 (f := .glo "_law_deed_right") rfl), F_law_deed_right.kp, F_law_deed_right.bindsN fun _ _ _ _ _ _ us hl => match us, hl with | [_, _, _], _ => rfl, .nil⟩
  have D_law_ended : ∀ base, DO P w K mg base 5 "_law_ended" ["runner", "state", "due"] [] (S3 (φended K)) := fun base => ⟨_, _, [], ok_law_ended F_law_ended T (D_law_step_right base) (DM_Runner_room base) (DM_Runner_step base), He.glo_ok X G (c.fact 36 (f := .glo "_law_ended") rfl), F_law_ended.kp, F_law_ended.bindsN fun _ _ _ _ _ _ us hl => match us, hl with | [_, _, _], _ => rfl, .nil⟩
  have e := hfa.symm.trans (He.glo_ok X G (c.fact 37 (f := .glo "law") rfl))
  cases e
  have b := FunD.bindsA (ps := ["script"]) F_law fun _ _ _ _ _ _ us hl => match us, hl with | [_], _ => rfl
  exact ⟨fd_law, fun s v => b s [v] rfl, fun base _ _ => ok_law F_law T (D_law_bag base) (D_law_case base) (D_law_deed_right base) (D_law_draw base) (D_law_ended base) (D_law_runner base) (D_law_state base) (DM_Runner_cut base)⟩
end Z
theorem PySem.Challenge.cw_remadehere_k56_whole_two_runners_cut_holds : PySem.Challenge.rw_remadehere_k56_whole_two_runners_cut.Holds :=
  Z.close fun _ _ _ _ _ _ X G hfa c => Z.facts X G hfa c
