import PyProof.Rows.All
import Wide.All
import OpenK.AllK
import Wide.FinOn
import HandS.ForMost
import HandS.Exc
import HandS.TryOnly
import HandS.ExcOwn
import HandS.WordsExc
import HandS.Flow
import HandS.TupAny
import HandS.More
import HandS.Conv
import HandS.IsInst
import HandS.Codes
import PySem.Challenge.RW_busfind_k02_wires_deed_by_deed
import HandS.Lambda
import PyProof.EqAt
import PyProof.EqKinds
import HandS.ExcIs
import HandS.EndTab
import HandS.SetFor
import KE.KLam
import KE.KNestM
import HandS.Set
import HandS.SortInts
import HandS.Strs
import KE.KDflt
set_option Elab.async false
set_option linter.all false
set_option maxRecDepth 100000
set_option maxHeartbeats 4000000
section
namespace Lw
open PySem L2
/-! ### calls -/
/-- a def of the module, as it is called -/
structure Cal (P : Program) (w : World) (K : PySem.W.Frag) (mg : Str → Option Value) (base : Heap) (k : Nat) (x : Str) (ps : List Str) (sp : Sp) : Prop where
  ex : ∃ (f : Addr) (fd : FuncData), FnOk P w K mg base (L2.CX P w) k f fd ps sp ∧ mg x = some (.ref f) ∧ PySem.W.keepIn K (.ref f) = true ∧ Binds K fd ps []
/-- a method -/
structure CalM (P : Program) (w : World) (K : PySem.W.Frag) (mg : Str → Option Value) (base : Heap) (k : Nat) (C : Addr) (m : Str) (ps : List Str) (sp : Sp) : Prop where
  ex : ∃ (f : Addr) (fd : FuncData), FnOk P w K mg base (L2.CX P w) k f fd ps sp ∧ Meth K C m f ∧ Binds K fd ps []
/-- a class, as it makes an instance -/
structure CalC (P : Program) (w : World) (K : PySem.W.Frag) (mg : Str → Option Value) (base : Heap) (k : Nat) (C : Addr) (x : Str) (ps : List Str) (sp : Sp) : Prop where
  ex : ∃ (f : Addr) (fd : FuncData), FnOk P w K mg base (L2.CX P w) k f fd ps sp ∧ Mk K C f ∧ mg x = some (.ref C) ∧ Binds K fd ps []
section
variable {X : Cx} {k : Nat} {x m : Str} {ps : List Str} {sp : Sp} {e o : Expr} {es : List Expr} {t : TA} {ta : TE} {E : XK} {p pos apos : Pos} {C : Addr}
theorem pe_cal (c : Cal X.prog X.w X.K X.mg X.base k x ps sp) (hr : Room k X.A) (hx : Passes (L2.CX X.prog X.w) X E) (ha : PA X (e :: es) t) (hg : Gl X x := by rfl) (hdb : (x == ("__debug__" : Str)) = false := by decide)
    (he : starEach (e :: es) X.env = (false, eval e X.env) :: starEach es X.env := by rfl) (hpl : (backTo pos (starEach es X.env)).any (·.1) = false := by rfl) :
    PE X (.Call (.Name x p) (e :: es) [] pos) (tCall sp [] E t) := by
  obtain ⟨f, fd, F, hm, hk, hb⟩ := c.ex
  exact pe_call F hr hg hm hk hb .nil hx ha hdb he hpl
theorem pe_me {pl : Sem Bool} (ho : PE X o ta) (cl : Cls X.K C) (c : CalM X.prog X.w X.K X.mg X.base k C m ps sp) (hr : Room k X.A) (hx : Passes (L2.CX X.prog X.w) X E) (ha : PA X (e :: es) t)
    (he : starEach (e :: es) X.env = (false, eval e X.env) :: starEach es X.env := by rfl) (hpl : (backTo pos (starEach es X.env)).any (·.1) = false := by rfl)
    (hm : eval (.Call (.Attribute o m apos) (e :: es) [] pos) X.env = (do let ov ← eval o X.env; standAt apos.atName; let (f, first) ← holding [ov] (getMethod ov m pl); callWith pos f first (backTo pos (starEach (e :: es) X.env)) (backToKw pos (keywordEach [] X.env))) := by rfl) :
    PE X (.Call (.Attribute o m apos) (e :: es) [] pos) (tMeth C m sp [] E ta t) := by
  obtain ⟨f, fd, F, hM, hb⟩ := c.ex
  exact pe_meth ho cl hM F hr hb .nil hx ha he hpl hm
theorem pe_me0 {pl : Sem Bool} (ho : PE X o ta) (cl : Cls X.K C) (c : CalM X.prog X.w X.K X.mg X.base k C m ps sp) (hr : Room k X.A) (hx : Passes (L2.CX X.prog X.w) X E)
    (hm : eval (.Call (.Attribute o m apos) [] [] pos) X.env = (do let ov ← eval o X.env; standAt apos.atName; let (f, first) ← holding [ov] (getMethod ov m pl); callWith pos f first (backTo pos (starEach [] X.env)) (backToKw pos (keywordEach [] X.env))) := by rfl) :
    PE X (.Call (.Attribute o m apos) [] [] pos) (tMeth C m sp [] E ta tNil) := by
  obtain ⟨f, fd, F, hM, hb⟩ := c.ex
  exact pe_meth0 ho cl hM F hr hb .nil hx hm
theorem pe_mk (c : CalC X.prog X.w X.K X.mg X.base k C x ps sp) (hr : Room (k + 1) X.A) (hx : Passes (L2.CX X.prog X.w) X E) (ha : PA X (e :: es) t) (hg : Gl X x := by rfl) (hdb : (x == ("__debug__" : Str)) = false := by decide)
    (he : starEach (e :: es) X.env = (false, eval e X.env) :: starEach es X.env := by rfl) (hpl : (backTo pos (starEach es X.env)).any (·.1) = false := by rfl) :
    PE X (.Call (.Name x p) (e :: es) [] pos) (tMake C sp [] E t) := by
  obtain ⟨f, fd, F, hM, hm, hb⟩ := c.ex
  exact pe_make hM F hr hg hm hb .nil hx ha hdb he hpl
end
/-! ### heaps -/
/-- a law's row: [script, place, mix, rest] -/
abbrev row (a : Addr) (i m z : Int) : HO := .lst [.ref a, .int i, .int m, .int z]
def RowSh (o : HO) : Prop := ∃ a i m z, o = row a i m z
/-- the script: known to its object, or written -/
def Scr (K : PySem.W.Frag) (H : Hp) (a : Addr) (xs : List V) : Prop := (∃ o, H a = some (.frz o (.lst xs))) ∨ ∀ H', SqL K H' a xs
theorem Scr.sq {K : PySem.W.Frag} {H : Hp} {a : Addr} {xs : List V} (h : Scr K H a xs) : SqL K H a xs := by
  rcases h with ⟨o, h⟩ | h
  · exact .inl (.inr ⟨o, h⟩)
  · exact h H
/-- a law's row stands at r -/
def RowOk (K : PySem.W.Frag) (H : Hp) (r : Addr) : Prop := ∃ (a : Addr) (i m z : Int) (ns : List Int), H r = some (row a i m z) ∧ 0 ≤ i ∧ Scr K H a (ns.map V.int)
/-- all but rows stands, rows stay rows -/
structure Ext (H H' : Hp) : Prop where
  st : ∀ b o, H b = some o → ¬ RowSh o → H' b = some o
  rw_ : ∀ b a i m z, H b = some (row a i m z) → 0 ≤ i → ∃ i' m' z', H' b = some (row a i' m' z') ∧ 0 ≤ i'
  th : ∀ b o, H b = some o → ∃ o', H' b = some o'
theorem nsh_of {o : HO} (h : ∀ a i m z, o ≠ row a i m z) : ¬ RowSh o := fun ⟨a, i, m, z, e⟩ => h a i m z e
theorem nsh_ints (ns : List Int) : ¬ RowSh (.lst (ns.map V.int)) := nsh_of fun a i m z e => by
  cases ns with
  | nil => simp [row] at e
  | cons x xs => simp [row] at e
theorem nsh_strs (ns : List Str) : ¬ RowSh (.lst (ns.map V.str)) := nsh_of fun a i m z e => by
  cases ns with
  | nil => simp [row] at e
  | cons x xs => simp [row] at e
theorem nsh_refs (ns : List Addr) : ¬ RowSh (.lst (ns.map V.ref)) := nsh_of fun a i m z e => by
  match ns, e with
  | [], e => simp [row] at e
  | [x], e => simp [row] at e
  | x :: y :: xs, e => simp [row] at e
theorem nsh_nil : ¬ RowSh (.lst []) := nsh_of fun a i m z e => by simp [row] at e
theorem nsh_tup {xs : List V} : ¬ RowSh (.tup xs) := nsh_of fun a i m z e => by cases e
theorem nsh_frz {o : Obj} {u : HO} : ¬ RowSh (.frz o u) := nsh_of fun a i m z e => by cases e
theorem nsh_dK {kvs} : ¬ RowSh (.dK kvs) := nsh_of fun a i m z e => by cases e
theorem nsh_dT {kvs} : ¬ RowSh (.dT kvs) := nsh_of fun a i m z e => by cases e
theorem nsh_ins {C dx fs} : ¬ RowSh (.ins C dx fs) := nsh_of fun a i m z e => by cases e
theorem nsh_own {x} : ¬ RowSh (.own x) := nsh_of fun a i m z e => by cases e
theorem nsh_xd {x} : ¬ RowSh (.xd x) := nsh_of fun a i m z e => by cases e
theorem nsh_ext {x} : ¬ RowSh (.ext x) := nsh_of fun a i m z e => by cases e
section
variable {K : PySem.W.Frag} {H H1 H2 : Hp} {p a r : Addr} {o : HO} {xs : List V}
theorem Ext.refl (H : Hp) : Ext H H := ⟨fun _ _ h _ => h, fun _ _ i m z h hi => ⟨i, m, z, h, hi⟩, fun _ o h => ⟨o, h⟩⟩
theorem Ext.trans (a : Ext H H1) (b : Ext H1 H2) : Ext H H2 := ⟨fun c o h n => b.st c o (a.st c o h n) n, fun c x i m z h hi => by
  obtain ⟨i1, m1, z1, h1, hi1⟩ := a.rw_ c x i m z h hi
  exact b.rw_ c x i1 m1 z1 h1 hi1, fun c o h => by
  obtain ⟨o1, h1⟩ := a.th c o h
  exact b.th c o1 h1⟩
theorem Ext.seq (e : Ext H H1) (n : ¬ RowSh (.lst xs)) (h : SqL K H a xs) : SqL K H1 a xs := by
  rcases h with (h | ⟨o, h⟩) | h
  · exact .inl (.inl (e.st _ _ h n))
  · exact .inl (.inr ⟨o, e.st _ _ h nsh_frz⟩)
  · exact .inr h
theorem Ext.tup (e : Ext H H1) (h : SqT K H a xs) : SqT K H1 a xs := by
  rcases h with (h | ⟨o, h⟩) | h
  · exact .inl (.inl (e.st _ _ h nsh_tup))
  · exact .inl (.inr ⟨o, e.st _ _ h nsh_frz⟩)
  · exact .inr h
theorem Ext.scr (e : Ext H H1) (h : Scr K H a xs) : Scr K H1 a xs := by
  rcases h with ⟨o, h⟩ | h
  · exact .inl ⟨o, e.st _ _ h nsh_frz⟩
  · exact .inr h
theorem Ext.rowOk (e : Ext H H1) (h : RowOk K H r) : RowOk K H1 r := by
  obtain ⟨a, i, m, z, ns, h0, hi, hs⟩ := h
  obtain ⟨i', m', z', h1, hi'⟩ := e.rw_ _ _ _ _ _ h0 hi
  exact ⟨a, i', m', z', ns, h1, hi', e.scr hs⟩
theorem Ext.of_same (e : ∀ b o, H b = some o → H1 b = some o) : Ext H H1 := ⟨fun b o h _ => e b o h, fun b a i m z h hi => ⟨i, m, z, e _ _ h, hi⟩, fun b o h => ⟨o, e b o h⟩⟩
theorem Ext.new (h : H p = none) : Ext H (upd H p o) := .of_same fun b u e => by
  rw [upd_ne (ne_of_none e h)]
  exact e
/-- an object that was not there at H may change -/
theorem Ext.mut (e : Ext H H1) (h : H p = none) : Ext H (upd H1 p o) := by
  refine ⟨fun b u hb n => ?_, fun b a i m z hb hi => ?_, fun b u hb => ?_⟩
  · rw [upd_ne (ne_of_none hb h)]
    exact e.st b u hb n
  · rw [upd_ne (ne_of_none hb h)]
    exact e.rw_ b a i m z hb hi
  · rw [upd_ne (ne_of_none hb h)]
    exact e.th b u hb
/-- the row is written -/
theorem Ext.wr {i m z i' m' z' : Int} (h : H r = some (row a i m z)) (hi : 0 ≤ i') : Ext H (upd H r (row a i' m' z')) := by
  refine ⟨fun b u hb n => ?_, fun b a2 i2 m2 z2 hb hi2 => ?_, fun b u hb => ?_⟩
  · by_cases e : b = r
    · subst e
      rw [h] at hb
      cases hb
      exact absurd ⟨a, i, m, z, rfl⟩ n
    · rw [upd_ne e]
      exact hb
  · by_cases e : b = r
    · subst e
      rw [h] at hb
      cases hb
      exact ⟨i', m', z', upd_same, hi⟩
    · rw [upd_ne e]
      exact ⟨i2, m2, z2, hb, hi2⟩
  · by_cases e : b = r
    · subst e
      exact ⟨_, upd_same⟩
    · rw [upd_ne e]
      exact ⟨u, hb⟩
/-- what was not there behind was not there before -/
theorem Ext.free (e : Ext H H1) (h : H1 p = none) : H p = none := by
  cases q : H p with
  | none => rfl
  | some o =>
    obtain ⟨o', h1⟩ := e.th _ _ q
    rw [h] at h1
    cases h1
theorem Ext.lst (e : Ext H H1) (h : H p = some (.lst xs)) (n : ¬ RowSh (.lst xs)) : H1 p = some (.lst xs) := e.st _ _ h n
end
/-- a new tuple, a new list -/
def AlT (xs : List V) (H : Hp) (Q : VK) : Prop := xs.length ≤ sizeLine ∧ ∀ p, H p = none → Q (.ref p) (upd H p (.tup xs))
def AlL (xs : List V) (H : Hp) (Q : VK) : Prop := xs.length ≤ sizeLine ∧ ∀ p, H p = none → Q (.ref p) (upd H p (.lst xs))
/-! ### builtins by name -/
section
variable {X : Cx}
def rAddS : R2 := fun x y H Q => ∃ i j, x = .str i ∧ y = .str j ∧ i.length + j.length ≤ sizeLine ∧ Q (.str (i ++ j)) H
theorem o_addS : OpR X (binaryOp .Add) rAddS := op_add_str
def rSg : R2 := fun x y H Q => ∃ (c : Nat) (z : Str), x = .str ⟨#[c]⟩ ∧ y = .str z ∧ Q (.bl (decide (c ∈ z.cps.toList))) H
def rNotSg : R2 := fun x y H Q => ∃ (c : Nat) (z : Str), x = .str ⟨#[c]⟩ ∧ y = .str z ∧ Q (.bl (!decide (c ∈ z.cps.toList))) H
theorem o_sg : OpR X (compareOp .In) rSg := op_in_sign
theorem o_notSg : OpR X (compareOp .NotIn) rNotSg := op_notIn_sign
def rStarts : V → List V → Hp → VK → Prop := fun x xs H Q => ∃ a b, x = .str a ∧ xs = [.str b] ∧ Q (.bl (Txt.startswith a b)) H
theorem m_starts : MtR X "str.startswith" rStarts := mt_startswith
/-- an own class of errors over ValueError, without an __init__ of its own -/
structure ExcC (K : PySem.W.Frag) (mg : Str → Option Value) (x : Str) (C : Addr) : Prop where
  q : PySem.W.excIn K C [.type "ValueError", .type "Exception", .type "BaseException", .type "object"] "ValueError.__new__" = true
  gC : mg x = some (.ref C)
  kC : PySem.W.keepIn K (.ref C) = true
  b : PySem.W.subIn K (.ref C) (.type "BaseException") = some true
  t : PySem.W.typeIn K (.ref C) = some (.type "type")
theorem pmkC {x m : Str} {C : Addr} {j : Nat} {p p2 pos : Pos} (e : ExcC X.K X.mg x C) (hg : Gl X x := by rfl) (hdb : (x == ("__debug__" : Str)) = false := by decide) : PMk X (.Call (.Name x p) [.Constant (.str m) j p2] [] pos) (fun _ H Q => Q (.ref C) none H) :=
  pmk_own PySem.F.excBase_ValueError e.q e.gC e.kC (raises_own e.b e.t) hg hdb
def rLenS (K : PySem.W.Frag) : List V → Hp → VK → Prop := fun xs H Q => ∃ p ys, xs = [.ref p] ∧ (SqL K H p ys ∨ SqT K H p ys) ∧ Q (.int ys.length) H
theorem c_len : CallR X (.builtin "len") (rLenS X.K) := call_len_seq
def rLenT : List V → Hp → VK → Prop := fun xs H Q => ∃ z, xs = [.str z] ∧ z.length ≤ sizeLine ∧ Q (.int z.length) H
theorem c_lenT : CallR X (.builtin "len") rLenT := call_len_str
def rMax2 : List V → Hp → VK → Prop := fun xs H Q => ∃ i j, xs = [.int i, .int j] ∧ Q (.int (if j > i then j else i)) H
theorem c_max2 (hc : X.calm = true) : CallR X (.builtin "max") rMax2 := call_max2 hc
def rMin2 : List V → Hp → VK → Prop := fun xs H Q => ∃ i j, xs = [.int i, .int j] ∧ Q (.int (if j < i then j else i)) H
theorem c_min2 (hc : X.calm = true) : CallR X (.builtin "min") rMin2 := call_min2 hc
def rIntV : List V → Hp → VK → Prop := fun xs H Q => (∃ i, xs = [.int i] ∧ Q (.int i) H) ∨ ∃ k, xs = [.bl k] ∧ Q (.int (if k then 1 else 0)) H
theorem c_intV : CallR X (.type "int") rIntV := call_int1
def rIntS : List V → Hp → VK → Prop := fun xs H Q => ∃ a n, xs = [.str a] ∧ PySem.intText? a = some n ∧ a.length ≤ 640 ∧ Q (.int n) H
theorem c_intS : CallR X (.type "int") rIntS := call_int_str
def rStrI : List V → Hp → VK → Prop := fun xs H Q => ∃ i : Int, xs = [.int i] ∧ i.natAbs.log2 < 1920 ∧ Q (.str (toString i)) H
theorem c_strI : CallR X (.type "str") rStrI := call_str_int
def rListS (K : PySem.W.Frag) : List V → Hp → VK → Prop := fun xs H Q => ∃ p ys, xs = [.ref p] ∧ (SqL K H p ys ∨ SqT K H p ys) ∧ ∀ l, H l = none → Q (.ref l) (upd H l (.lst ys))
theorem c_listS : CallR X (.type "list") (rListS X.K) := call_list_of
end
/-! ### rules with the written part told -/
section
variable {X : Cx} {K : PySem.W.Frag}
theorem ixL (h : X.K = K) : IxR X (rIxL K) := h ▸ ix_list
theorem ixT (h : X.K = K) : IxR X (rIxT K) := h ▸ ix_tup
theorem ixA (h : X.K = K) : IxR X (rIx K) := h ▸ ix_seq
theorem cLen (h : X.K = K) : CallR X (.builtin "len") (rLenS K) := h ▸ c_len
theorem cIsi (h : X.K = K) : CallR X (.builtin "isinstance") (rIsi K) := h ▸ call_isi
theorem cIsiT (h : X.K = K) : CallR X (.builtin "isinstance") (rIsiT K) := h ▸ call_isiT
theorem oEqD (h : X.K = K) (hu : X.A.units + 64 < cLine) : OpR X (compareOp .Eq) (rEqD K) := h ▸ op_eqD hu
theorem oNeD (h : X.K = K) (hu : X.A.units + 64 < cLine) : OpR X (compareOp .NotEq) (rNeD K) := h ▸ op_neD hu
theorem oIn (h : X.K = K) : OpR X (compareOp .In) (rIn K false) := h ▸ op_in_seq
theorem oNotIn (h : X.K = K) : OpR X (compareOp .NotIn) (rIn K true) := h ▸ op_notIn_seq
theorem cList (h : X.K = K) : CallR X (.type "list") (rListS K) := h ▸ c_listS
theorem slL (h : X.K = K) : SlR X (rSlL K) := h ▸ sl_list
theorem slT (h : X.K = K) : SlR X (rSlA K) := h ▸ sl_tupA
theorem oCatT (h : X.K = K) : OpR X (binaryOp .Add) (rCatA K) := h ▸ op_catA
theorem cSortS (h : X.K = K) : CallR X (.builtin "sorted") (rSortedS K) := h ▸ cr_sortedS
theorem cMax (h : X.K = K) (hc : X.calm = true) : CallR X (.builtin "max") (rMax K) := h ▸ cr_max hc
theorem piL {tg l : Expr} {tl : TE} (h : X.K = K) (hl : PE X l tl) : PI X tg l (iList K tl) := h ▸ pi_list hl
theorem piT {tg l : Expr} {tl : TE} (h : X.K = K) (hl : PE X l tl) : PI X tg l (iTup K tl) := h ▸ pi_tup hl
theorem pFld {e : Expr} {te : TE} {f : Str} {pos : Pos} (h : X.K = K) (he : PE X e te) (hb : attributeBase e f X.env (eval e X.env) = eval e X.env) : PE X (.Attribute e f pos) (tFld K te f) := h ▸ pe_fld he hb
theorem sFldK {e v : Expr} {te tv : TE} {f : Str} {p1 pos : Pos} (h : X.K = K) (he : PE X e te) (hv : PE X v tv) (hs : swapsWith v (some (.Attribute e f p1)) pos.line X.env = pure false) : PS X (.Assign [.Attribute e f p1] v pos) (sFld K te tv f) := h ▸ ps_fld he hv hs
/-- few arguments, none starred -/
def FewA (X : Cx) (e : Expr) (es : List Expr) (cp : Pos) : Prop :=
  ((backTo cp (starEach (e :: es) X.env)).all (fun x => !x.1) &&
    (backToKw cp (keywordEach [] X.env)).all (fun x => x.1.isSome) && decide ((e :: es).length + 0 + 0 < 30)) = true
section
variable {o e : Expr} {es : List Expr} {to : TE} {t : TA} {name : Str} {ap cp : Pos} {T id : String} {r : V → List V → Hp → VK → Prop}
theorem pBm (h : X.K = K) (pa : PlainAttrs T) (slot : Slot T name id) (hty : typeOf (.builtin id) = pure (.type "method_descriptor")) (hm : MtR X id r) (ho : PE X o to) (ha : PA X (e :: es) t)
    (hb : attributeBase o name X.env (eval o X.env) = eval o X.env := by rfl) (hf : FewA X e es cp := by rfl) (hl : (ap.endLine == cp.line) = true := by rfl)
    (hs : starEach (e :: es) X.env = (false, eval e X.env) :: starEach es X.env := by rfl) (hp : (backTo cp (starEach es X.env)).any (·.1) = false := by rfl) :
    PE X (.Call (.Attribute o name ap) (e :: es) [] cp) (tBM K T r to t) := h ▸ pe_bm pa slot hty hm ho ha hb hf hl hs hp
theorem pBm0 (h : X.K = K) (pa : PlainAttrs T) (slot : Slot T name id) (hty : typeOf (.builtin id) = pure (.type "method_descriptor")) (hm : MtR X id r) (ho : PE X o to)
    (hb : attributeBase o name X.env (eval o X.env) = eval o X.env := by rfl) (hl : (ap.endLine == cp.line) = true := by rfl) : PE X (.Call (.Attribute o name ap) [] [] cp) (tBM0 K T r to) := h ▸ pe_bm0 pa slot hty hm ho hb hl
def rJoin (K : PySem.W.Frag) : V → List V → Hp → VK → Prop := fun x xs H Q => ∃ (a : Str) (p : Addr) (ys : List Str), x = .str a ∧ xs = [.ref p] ∧ (SqL K H p (ys.map V.str) ∨ SqT K H p (ys.map V.str)) ∧
  (ys.map (·.length)).sum + ys.length * a.length ≤ 16777216 ∧ Q (.str (Txt.join a ys)) H
theorem mJoin (h : X.K = K) : MtR X "str.join" (rJoin K) := h ▸ mt_join
end
end
/-! ### readings, step by step (what follows is handed on) -/
section
variable {K : PySem.W.Frag} {σ : St} {H : Hp} {Q : VK} {D : Ends} {v x y : V} {i : Nat} {ta tb tc te : TE} {t u : TT} {ts tu tw : TS} {tr tq : TA} {R : Bool → Hp → Prop} {RA : List V → Hp → Prop} {r : R2} {E : XK}
theorem w_var (h : σ[i]? = some (some v)) (k : Q v H) : tVar i σ H Q := ⟨v, h, k⟩
theorem w_c (k : Q v H) : tC v σ H Q := k
theorem w_op (k : ta σ H fun x H1 => tb σ H1 fun y H2 => r x y H2 Q) : tOp r ta tb σ H Q := k
theorem w_un {r : V → Hp → VK → Prop} (k : ta σ H fun x H1 => r x H1 Q) : tUn r ta σ H Q := k
theorem w_cons (k : te σ H fun x H1 => tr σ H1 fun xs H2 => RA (x :: xs) H2) : tCons te tr σ H RA := k
theorem w_nil (k : RA [] H) : tNil σ H RA := k
theorem w_test (k : te σ H fun x H1 => ∃ b, x = .bl b ∧ R b H1) : tTest te σ H R := k
theorem w_B (k : te σ H fun x H1 => ∃ b, x = .bl b ∧ R b H1) : tB te σ H R := k
theorem w_isbl {b : Bool} {R : Bool → Prop} (k : R b) : ∃ c, V.bl b = .bl c ∧ R c := ⟨b, rfl, k⟩
theorem w_not (k : t σ H fun c H1 => R (!c) H1) : tNot t σ H R := k
theorem w_and (k : t σ H fun c H1 => if c = true then u σ H1 R else R false H1) : tAnd t u σ H R := k
theorem w_or (k : t σ H fun c H1 => if c = true then R true H1 else u σ H1 R) : tOr t u σ H R := k
theorem w_andV (k : ta σ H fun x H1 => ∃ c, x = .bl c ∧ if c = true then tb σ H1 Q else Q (.bl false) H1) : tAndV ta tb σ H Q := k
theorem w_orV (k : ta σ H fun x H1 => ∃ c, x = .bl c ∧ if c = true then Q (.bl true) H1 else tb σ H1 Q) : tOrV ta tb σ H Q := k
theorem w_notV (k : ta σ H fun x H1 => ∃ c, x = .bl c ∧ Q (.bl (!c)) H1) : tNotV ta σ H Q := k
theorem w_if (k : t σ H fun c H1 => if c = true then ta σ H1 Q else tb σ H1 Q) : tIf t ta tb σ H Q := k
theorem w_chain {r' : R2} (k : ta σ H fun x H1 => tb σ H1 fun y H2 => r x y H2 fun z H3 => ∃ k, z = .bl k ∧ (if k = true then tc σ H3 fun w' H4 => r' y w' H4 Q else Q (.bl false) H3)) : tChain r r' ta tb tc σ H Q := k
theorem w_isN (k : ta σ H fun x H1 => Q (.bl (decide (x = .non))) H1) : tIsN ta σ H Q := k
theorem w_notN (k : ta σ H fun x H1 => Q (.bl (!decide (x = .non))) H1) : tNotN ta σ H Q := k
theorem w_yes (k : R true H) : tYes σ H R := k
theorem w_call {sp : Sp} (k : tr σ H fun vs H1 => sp (vs ++ []) H1 Q E) : tCall sp [] E tr σ H Q := k
theorem w_CB {r : List V → Hp → VK → Prop} (k : tr σ H fun vs H1 => r vs H1 Q) : tCB r tr σ H Q := k
theorem w_tup (k : tr σ H fun xs H1 => AlT xs H1 Q) : tTup tr σ H Q := k
theorem w_lst (k : tr σ H fun xs H1 => AlL xs H1 Q) : tLst tr σ H Q := k
theorem w_alT {xs : List V} (hl : xs.length ≤ 100000) (k : ∀ p H', H p = none → Ext H H' → H' p = some (.tup xs) → Q (.ref p) H') : AlT xs H Q := ⟨Nat.le_trans hl (by decide), fun p hp => k p _ hp (Ext.new hp) upd_same⟩
theorem w_alL {xs : List V} (hl : xs.length ≤ 100000) (k : ∀ p H', H p = none → Ext H H' → H' p = some (.lst xs) → Q (.ref p) H') : AlL xs H Q := ⟨Nat.le_trans hl (by decide), fun p hp => k p _ hp (Ext.new hp) upd_same⟩
theorem w_sl {r : V → Option Int → Option Int → Hp → VK → Prop} {tl th : TO} (k : te σ H fun x H1 => tl σ H1 fun l H2 => th σ H2 fun u H3 => r x l u H3 Q) : tSl r te tl th σ H Q := k
theorem w_noPart {RO : Option Int → Hp → Prop} (k : RO none H) : tNoPart σ H RO := k
theorem w_part {RO : Option Int → Hp → Prop} (k : te σ H fun x H1 => ∃ i, x = .int i ∧ RO (some i) H1) : tPart te σ H RO := k
theorem w_isint {RO : Int → Prop} {j : Int} (k : RO j) : ∃ i, V.int j = .int i ∧ RO i := ⟨j, rfl, k⟩
-- statements
theorem w_seq (k : ts { D with nx := tu D } σ H) : tSeq ts tu D σ H := k
theorem w_asg {g : TG} (k : te σ H fun x H1 => g x σ H1 D.nx) : tAsg te g D σ H := k
theorem w_gname {S : St → Hp → Prop} (k : S (σ.set i (some v)) H) : gName i v σ H S := k
theorem w_ret (k : te σ H D.rt) : tRet te D σ H := k
theorem w_retN (k : D.rt .non H) : tRetN D σ H := k
theorem w_drop (k : te σ H fun _ H1 => D.nx σ H1) : tDrop te D σ H := k
theorem w_ifS (k : t σ H fun b H1 => if b = true then tu D σ H1 else tw D σ H1) : tIfS t tu tw D σ H := k
theorem w_next (k : D.nx σ H) : tNext D σ H := k
theorem w_break (k : D.bk σ H) : tBreak D σ H := k
theorem w_cont (k : D.ct σ H) : tCont D σ H := k
-- ints
theorem w_I0 {g : Int → Int → V} {a b : Int} (k : Q (g a b) H) : rI0 g (.int a) (.int b) H Q := ⟨a, b, rfl, rfl, k⟩
theorem w_I {Cc : Int → Int → Prop} {g : Int → Int → V} {a b : Int} (hc : Cc a b) (k : Q (g a b) H) : rI Cc g (.int a) (.int b) H Q := ⟨a, b, rfl, rfl, hc, k⟩
theorem w_eqI {a b : Int} (k : Q (.bl (decide (a = b))) H) : rEq (.int a) (.int b) H Q := ⟨rfl, by
  have e : decide (V.int a = V.int b) = decide (a = b) := by simp
  rw [e]; exact k⟩
theorem w_neI {a b : Int} (k : Q (.bl (!decide (a = b))) H) : rNe (.int a) (.int b) H Q := ⟨rfl, by
  have e : decide (V.int a = V.int b) = decide (a = b) := by simp
  rw [e]; exact k⟩
theorem w_eqS {a b : Str} (k : Q (.bl (decide (a = b))) H) : rEq (.str a) (.str b) H Q := ⟨rfl, by
  have e : decide (V.str a = V.str b) = decide (a = b) := by simp
  rw [e]; exact k⟩
theorem w_neS {a b : Str} (k : Q (.bl (!decide (a = b))) H) : rNe (.str a) (.str b) H Q := ⟨rfl, by
  have e : decide (V.str a = V.str b) = decide (a = b) := by simp
  rw [e]; exact k⟩
theorem w_eqB {a b : Bool} (k : Q (.bl (decide (a = b))) H) : rEq (.bl a) (.bl b) H Q := ⟨rfl, by
  have e : decide (V.bl a = V.bl b) = decide (a = b) := by simp
  rw [e]; exact k⟩
theorem w_neB {a b : Bool} (k : Q (.bl (!decide (a = b))) H) : rNe (.bl a) (.bl b) H Q := ⟨rfl, by
  have e : decide (V.bl a = V.bl b) = decide (a = b) := by simp
  rw [e]; exact k⟩
theorem w_ixAL {p : Addr} {xs : List V} {j : Int} (h : SqL K H p xs) (ha : atI xs j = some v) (k : Q v H) : rIx K (.ref p) (.int j) H Q := .inl ⟨p, xs, j, v, rfl, rfl, h, ha, k⟩
theorem w_ixAT {p : Addr} {xs : List V} {j : Int} (h : SqT K H p xs) (ha : atI xs j = some v) (k : Q v H) : rIx K (.ref p) (.int j) H Q := .inr (.inl ⟨p, xs, j, v, rfl, rfl, h, ha, k⟩)
-- items
theorem w_ixL {p : Addr} {xs : List V} {j : Int} (h : SqL K H p xs) (ha : atI xs j = some v) (k : Q v H) : rIxL K (.ref p) (.int j) H Q := ⟨p, xs, j, v, rfl, rfl, h, ha, k⟩
theorem w_ixT {p : Addr} {xs : List V} {j : Int} (h : SqT K H p xs) (ha : atI xs j = some v) (k : Q v H) : rIxT K (.ref p) (.int j) H Q := ⟨p, xs, j, v, rfl, rfl, h, ha, k⟩
theorem w_ixS {z : Str} {j : Int} {c : Nat} (h : z.length ≤ 100000) (ha : atI z.cps.toList j = some c) (k : Q (.str ⟨#[c]⟩) H) : rIxS (.str z) (.int j) H Q := ⟨z, j, c, rfl, rfl, Nat.le_trans h (by decide), ha, k⟩
theorem w_setL {p : Addr} {xs : List V} {a : Int} {j : Nat} {S : Hp → Prop} (h : H p = some (.lst xs)) (hj : ixN xs.length a = some j) (k : S (upd H p (.lst (xs.set j v)))) : rSetL (.ref p) (.int a) v H S := ⟨p, xs, a, j, rfl, rfl, h, hj, k⟩
theorem w_gSub {ti to : TE} {S : St → Hp → Prop} (k : to σ H fun o H1 => ti σ H1 fun i H2 => rSetL o i v H2 (fun H3 => S σ H3)) : gSub to ti rSetL v σ H S := k
section
variable {r a : Addr} {i m z j : Int} {S : Hp → Prop}
theorem w_row1 (h : H r = some (row a i m z)) (hj : 0 ≤ j) (k : ∀ H', H' r = some (row a j m z) → Ext H H' → S H') : rSetL (.ref r) (.int 1) (.int j) H S :=
  ⟨r, _, 1, 1, rfl, rfl, h, rfl, k (upd H r (row a j m z)) upd_same (Ext.wr h hj)⟩
theorem w_row2 (h : H r = some (row a i m z)) (hi : 0 ≤ i) (k : ∀ H', H' r = some (row a i j z) → Ext H H' → S H') : rSetL (.ref r) (.int 2) (.int j) H S :=
  ⟨r, _, 2, 2, rfl, rfl, h, rfl, k (upd H r (row a i j z)) upd_same (Ext.wr h hi)⟩
theorem w_row3 (h : H r = some (row a i m z)) (hi : 0 ≤ i) (k : ∀ H', H' r = some (row a i m j) → Ext H H' → S H') : rSetL (.ref r) (.int 3) (.int j) H S :=
  ⟨r, _, 3, 3, rfl, rfl, h, rfl, k (upd H r (row a i m j)) upd_same (Ext.wr h hi)⟩
end
/-- len of a sequence -/
theorem w_lenL {p : Addr} {xs : List V} (h : SqL K H p xs) (k : Q (.int (xs.length : Int)) H) : rLenS K [.ref p] H Q := ⟨p, xs, rfl, .inl h, k⟩
theorem w_lenT {p : Addr} {xs : List V} (h : SqT K H p xs) (k : Q (.int (xs.length : Int)) H) : rLenS K [.ref p] H Q := ⟨p, xs, rfl, .inr h, k⟩
theorem w_lenS {z : Str} (h : z.length ≤ 100000) (k : Q (.int (z.length : Int)) H) : rLenT [.str z] H Q := ⟨z, rfl, Nat.le_trans h (by decide), k⟩
theorem w_max2 {a b : Int} (k : Q (.int (if b > a then b else a)) H) : rMax2 [.int a, .int b] H Q := ⟨a, b, rfl, k⟩
theorem w_min2 {a b : Int} (k : Q (.int (if b < a then b else a)) H) : rMin2 [.int a, .int b] H Q := ⟨a, b, rfl, k⟩
theorem w_intB {b : Bool} (k : Q (.int (if b then 1 else 0)) H) : rIntV [.bl b] H Q := .inr ⟨b, rfl, k⟩
theorem w_intI {a : Int} (k : Q (.int a) H) : rIntV [.int a] H Q := .inl ⟨a, rfl, k⟩
theorem w_intS {a : Str} {n : Int} (h : PySem.intText? a = some n) (hl : a.length ≤ 640) (k : Q (.int n) H) : rIntS [.str a] H Q := ⟨a, n, rfl, h, hl, k⟩
theorem w_strI {a : Int} (h : a.natAbs.log2 < 1920) (k : Q (.str (toString a)) H) : rStrI [.int a] H Q := ⟨a, rfl, h, k⟩
theorem w_listL {p : Addr} {xs : List V} (h : SqL K H p xs) (k : ∀ l H', H l = none → Ext H H' → H' l = some (.lst xs) → Q (.ref l) H') : rListS K [.ref p] H Q := ⟨p, xs, rfl, .inl h, fun l hl => k l _ hl (Ext.new hl) upd_same⟩
theorem w_listT {p : Addr} {xs : List V} (h : SqT K H p xs) (k : ∀ l H', H l = none → Ext H H' → H' l = some (.lst xs) → Q (.ref l) H') : rListS K [.ref p] H Q := ⟨p, xs, rfl, .inr h, fun l hl => k l _ hl (Ext.new hl) upd_same⟩
theorem w_addS {a b : Str} (h : a.length + b.length ≤ 100000) (k : Q (.str (a ++ b)) H) : rAddS (.str a) (.str b) H Q := ⟨a, b, rfl, rfl, Nat.le_trans h (by decide), k⟩
theorem w_slS {z : Str} {lo hi : Option Int} (h : z.length ≤ 100000) (k : Q (.str (cutS z lo hi)) H) : rSlS (.str z) lo hi H Q := ⟨z, rfl, Nat.le_trans h (by decide), k⟩
theorem w_slL {p : Addr} {xs : List V} {lo hi : Option Int} (h : SqL K H p xs) (k : ∀ l H', H l = none → Ext H H' → H' l = some (.lst (cutV xs lo hi)) → Q (.ref l) H') : rSlL K (.ref p) lo hi H Q := ⟨p, xs, rfl, h, fun l hl => k l _ hl (Ext.new hl) upd_same⟩
theorem w_cat {p q : Addr} {xs ys : List V} (h : H p = some (.lst xs)) (h2 : H q = some (.lst ys)) (hl : xs.length + ys.length ≤ 100000) (k : ∀ l H', H l = none → Ext H H' → H' l = some (.lst (xs ++ ys)) → Q (.ref l) H') : rCat (.ref p) (.ref q) H Q :=
  ⟨p, q, xs, ys, rfl, rfl, h, h2, Nat.le_trans hl (by decide), fun l hl => k l _ hl (Ext.new hl) upd_same⟩
theorem w_in {neg : Bool} {p : Addr} {xs : List V} (h : SqL K H p xs) (hx : flatV x = true) (hs : xs.all flatV = true) (k : Q (.bl (if neg then !inV x xs else inV x xs)) H) : rIn K neg x (.ref p) H Q := ⟨p, xs, rfl, .inl h, hx, hs, k⟩
theorem w_inT {neg : Bool} {p : Addr} {xs : List V} (h : SqT K H p xs) (hx : flatV x = true) (hs : xs.all flatV = true) (k : Q (.bl (if neg then !inV x xs else inV x xs)) H) : rIn K neg x (.ref p) H Q := ⟨p, xs, rfl, .inr h, hx, hs, k⟩
/-- xs.append(e) as a statement's expression: at the list's object -/
theorem w_bm {T : String} {r : V → List V → Hp → VK → Prop} (k : ta σ H fun x H1 => tyV K T x H1 ∧ tr σ H1 fun xs H2 => r x xs H2 Q) : tBM K T r ta tr σ H Q := k
theorem w_bm0 {T : String} {r : V → List V → Hp → VK → Prop} (k : ta σ H fun x H1 => tyV K T x H1 ∧ r x [] H1 Q) : tBM0 K T r ta σ H Q := k
theorem w_tyL {p : Addr} {xs : List V} {A : Prop} (h : SqL K H p xs) (k : A) : tyV K "list" (.ref p) H ∧ A := ⟨.inl ⟨rfl, xs, h⟩, k⟩
theorem w_append {l : Addr} {xs : List V} (h : H l = some (.lst xs)) (hl : xs.length < 100000) (k : Q .non (upd H l (.lst (xs ++ [v])))) : rAppend (.ref l) [v] H Q := ⟨l, xs, v, rfl, rfl, h, Nat.lt_of_lt_of_le hl (by decide), k⟩
theorem w_m1 {r : V → List V → Hp → VK → Prop} (k : ta σ H fun x H1 => (∃ a, x = .str a) ∧ te σ H1 fun y H2 => r x [y] H2 Q) : tM1 r ta te σ H Q := k
theorem w_m0 {r : V → List V → Hp → VK → Prop} (k : ta σ H fun x H1 => (∃ a, x = .str a) ∧ r x [] H1 Q) : tM0 r ta σ H Q := k
theorem w_sg {c : Nat} {z : Str} (k : Q (.bl (decide (c ∈ z.cps.toList))) H) : rSg (.str ⟨#[c]⟩) (.str z) H Q := ⟨c, z, rfl, rfl, k⟩
theorem w_notSg {c : Nat} {z : Str} (k : Q (.bl (!decide (c ∈ z.cps.toList))) H) : rNotSg (.str ⟨#[c]⟩) (.str z) H Q := ⟨c, z, rfl, rfl, k⟩
theorem w_starts {a b : Str} (k : Q (.bl (Txt.startswith a b)) H) : rStarts (.str a) [.str b] H Q := ⟨a, b, rfl, rfl, k⟩
theorem w_isstr {z : Str} {A : Prop} (k : A) : (∃ a, V.str z = .str a) ∧ A := ⟨⟨z, rfl⟩, k⟩
/-- a test whose answer is known -/
theorem w_iteT {A B : Prop} {b : Bool} (hb : b = true) (h : A) : if b = true then A else B := by rw [if_pos hb]; exact h
theorem w_iteF {A B : Prop} {b : Bool} (hb : b = false) (h : B) : if b = true then A else B := by rw [hb, if_neg Bool.false_ne_true]; exact h
theorem w_iteD {A B : Prop} {c : Prop} [Decidable c] (h1 : c → A) (h2 : ¬ c → B) : if decide c = true then A else B := by
  by_cases h : c
  · rw [decide_eq_true h, if_pos rfl]; exact h1 h
  · rw [decide_eq_false h, if_neg Bool.false_ne_true]; exact h2 h
theorem w_iteN {A B : Prop} {c : Prop} [Decidable c] (h1 : ¬ c → A) (h2 : c → B) : if (!decide c) = true then A else B := by
  by_cases h : c
  · rw [decide_eq_true h]; exact h2 h
  · rw [decide_eq_false h]; exact h1 h
theorem w_iteB {A B : Prop} {b : Bool} (h1 : b = true → A) (h2 : b = false → B) : if b = true then A else B := by
  cases b with
  | true => rw [if_pos rfl]; exact h1 rfl
  | false => rw [if_neg Bool.false_ne_true]; exact h2 rfl
end
/-! ### loops -/
def ForB (J : It) (g : TG) (tb : TS) (D : Ends) (σ : St) (H1 : Hp) : Prop := ∃ W : Nat → Nat → St → Hp → Prop, (∃ m, W 0 m σ H1) ∧ ∀ i m σ H, W i m σ H →
  (J.stop i H ∧ D.nx σ H) ∨ (J.go i H ∧ ∃ N : St → Hp → Prop, (∀ σ' H', N σ' H' → ∃ m', m' < m ∧ W (i + 1) m' σ' H') ∧ ∀ x H', J.yld i H x H' → g x σ H' fun σ2 H2 => tb { D with nx := N, ct := N, bk := D.nx } σ2 H2)
def LcB (J : It) (g : TG) (tt : TT) (te : TE) (vs : List Nat) (σ : St) (H1 : Hp) (Q : VK) : Prop := ∀ D, H1 D = none → ∃ W : Nat → Nat → Hp → Prop, (∃ m, W 0 m (upd H1 D (.lst []))) ∧ ∀ i m H, W i m H →
  (J.stop i H ∧ Q (.ref D) H) ∨ (J.go i H ∧ ∃ Nx : Hp → Prop, (∀ H', Nx H' → ∃ m', m' < m ∧ W (i + 1) m' H') ∧ ∀ x H', J.yld i H x H' → g x (wipe σ vs) H' fun σ2 H2 => wipe σ2 vs = wipe σ vs ∧ tt σ2 H2 fun b H3 =>
    if b = true then te σ2 H3 fun y H4 => ∃ acc, H4 D = some (.lst acc) ∧ acc.length < sizeLine ∧ Nx (upd H4 D (.lst (acc ++ [y]))) else Nx H3)
def RngOk (vs : List V) (H : Hp) (R : It → Hp → Prop) : Prop := ∃ j : Int, vs = [.int j] ∧ -(2 ^ 62) ≤ j ∧ j < 2 ^ 62 ∧ R (Itr 0 j.toNat) H
def RngOk2 (vs : List V) (H : Hp) (R : It → Hp → Prop) : Prop := ∃ i j : Int, vs = [.int i, .int j] ∧ (-(2 ^ 62) ≤ i ∧ i < 2 ^ 62 ∧ -(2 ^ 62) ≤ j ∧ j < 2 ^ 62) ∧ R (Itr i (j - i).toNat) H
def LstOk (K : PySem.W.Frag) (x : V) (H : Hp) (R : It → Hp → Prop) : Prop := ∃ a, x = .ref a ∧ (∃ xs, SqL K H a xs) ∧ R (Itl K a) H
def TupOk (K : PySem.W.Frag) (x : V) (H : Hp) (R : It → Hp → Prop) : Prop := ∃ a, x = .ref a ∧ (∃ xs, SqT K H a xs) ∧ R (Itt K a) H
def StrOk (v : V) (H : Hp) (R : It → Hp → Prop) : Prop := ∃ x, v = .str x ∧ R (Its x) H
section
variable {K : PySem.W.Frag} {σ : St} {H : Hp} {Q : VK} {D : Ends} {te : TE} {ta : TA} {wi : TI} {g : TG} {tb : TS} {tt : TT} {vs : List Nat} {R : It → Hp → Prop} {j : Nat}
theorem w_for (k : wi σ H fun J H1 => ForB J g tb D σ H1) : tFor wi g tb D σ H := k
theorem w_lc (k : wi σ H fun J H1 => LcB J g tt te vs σ H1 Q) : tLc wi g tt te vs σ H Q := k
theorem w_rng (k : ta σ H fun vs H1 => RngOk vs H1 R) : iRng1 ta σ H R := k
theorem w_rng2 (k : ta σ H fun vs H1 => RngOk2 vs H1 R) : iRng2 ta σ H R := k
theorem w_ilist (k : te σ H fun x H1 => LstOk K x H1 R) : iList K te σ H R := k
theorem w_itup (k : te σ H fun x H1 => TupOk K x H1 R) : iTup K te σ H R := k
theorem w_istr (k : te σ H fun x H1 => StrOk x H1 R) : iStr te σ H R := k
theorem w_rngOk {n : Int} (h : -100000 ≤ n) (h2 : n ≤ 100000) (k : R (Itr 0 n.toNat) H) : RngOk [.int n] H R := ⟨n, rfl, by omega, by omega, k⟩
theorem w_rngOk2 {lo n : Int} (h : -100000 ≤ lo ∧ lo ≤ 100000) (h2 : -100000 ≤ n ∧ n ≤ 100000) (k : R (Itr lo (n - lo).toNat) H) : RngOk2 [.int lo, .int n] H R := ⟨lo, n, rfl, by omega, k⟩
theorem w_lstOk {a : Addr} {xs : List V} (h : SqL K H a xs) (k : R (Itl K a) H) : LstOk K (.ref a) H R := ⟨a, rfl, ⟨xs, h⟩, k⟩
theorem w_tupOk {a : Addr} {xs : List V} (h : SqT K H a xs) (k : R (Itt K a) H) : TupOk K (.ref a) H R := ⟨a, rfl, ⟨xs, h⟩, k⟩
theorem w_strOk {x : Str} (k : R (Its x) H) : StrOk (.str x) H R := ⟨x, rfl, k⟩
/-- for: what a turn asks -/
theorem forG {J : It} {n : Nat} {Y : Nat → V → Prop} (Pv : Nat → St → Hp → Prop) (src : ∀ i σ H, i ≤ n → Pv i σ H → (i < n → J.go i H ∧ ∀ x H', J.yld i H x H' → H' = H ∧ Y i x) ∧ (i = n → J.stop i H)) (h0 : Pv 0 σ H)
    (hs : ∀ i x σ' H' (N : St → Hp → Prop), i < n → Y i x → Pv i σ' H' → (∀ σ2 H2, Pv (i + 1) σ2 H2 → N σ2 H2) → g x σ' H' fun σ2 H2 => tb { D with nx := N, ct := N, bk := D.nx } σ2 H2) (hd : ∀ σ' H', Pv n σ' H' → D.nx σ' H') : ForB J g tb D σ H := by
  refine ⟨fun i m σ' H' => m = n - i ∧ i ≤ n ∧ Pv i σ' H', ⟨n, by simp, Nat.zero_le _, h0⟩, ?_⟩
  rintro i m σ' H' ⟨rfl, hi, p⟩
  obtain ⟨s1, s2⟩ := src i σ' H' hi p
  by_cases hlt : i < n
  · obtain ⟨go, hy⟩ := s1 hlt
    refine .inr ⟨go, Pv (i + 1), fun σ2 H2 p2 => ⟨n - (i + 1), by omega, rfl, hlt, p2⟩, fun x H2 y => ?_⟩
    obtain ⟨e, y2⟩ := hy x H2 y
    subst e
    exact hs i x σ' _ _ hlt y2 p fun _ _ h => h
  · have e : i = n := by omega
    exact .inl ⟨s2 e, hd σ' H' (e ▸ p)⟩
theorem forR {lo : Int} {n : Nat} (Pv : Nat → St → Hp → Prop) (h0 : Pv 0 σ H)
    (hs : ∀ i σ' H' (N : St → Hp → Prop), i < n → Pv i σ' H' → (∀ σ2 H2, Pv (i + 1) σ2 H2 → N σ2 H2) → tb { D with nx := N, ct := N, bk := D.nx } (σ'.set j (some (.int (lo + (i : Int))))) H') (hd : ∀ σ' H', Pv n σ' H' → D.nx σ' H') :
    ForB (Itr lo n) (gName j) tb D σ H :=
  forG (n := n) (Y := fun i x => x = .int (lo + (i : Int))) Pv (fun i σ H hi p => ⟨fun h => ⟨h, fun x H' y => y⟩, fun e => by rw [e]; exact Nat.le_refl n⟩) h0 (fun i x σ' H' N hi y p k => by subst y; exact hs i σ' H' N hi p k) hd
theorem forLg {a : Addr} {xs : List V} (Pv : Nat → St → Hp → Prop) (hl : ∀ i σ H, Pv i σ H → SqL K H a xs) (h0 : Pv 0 σ H)
    (hs : ∀ i x σ' H' (N : St → Hp → Prop), xs[i]? = some x → Pv i σ' H' → (∀ σ2 H2, Pv (i + 1) σ2 H2 → N σ2 H2) → g x σ' H' fun σ2 H2 => tb { D with nx := N, ct := N, bk := D.nx } σ2 H2) (hd : ∀ σ' H', Pv xs.length σ' H' → D.nx σ' H') :
    ForB (Itl K a) g tb D σ H :=
  forG (n := xs.length) (Y := fun i x => xs[i]? = some x) Pv (fun i σ H hi p => ⟨fun h => ⟨⟨xs, xs[i], hl i σ H p, by simp [h]⟩, fun x H' ⟨e, y⟩ => ⟨e, y xs (hl i σ H p)⟩⟩, fun e => ⟨xs, hl i σ H p, by omega⟩⟩) h0 (fun i x σ' H' N hi y p k => hs i x σ' H' N y p k) hd
theorem forL {a : Addr} {xs : List V} (Pv : Nat → St → Hp → Prop) (hl : ∀ i σ H, Pv i σ H → SqL K H a xs) (h0 : Pv 0 σ H)
    (hs : ∀ i x σ' H' (N : St → Hp → Prop), xs[i]? = some x → Pv i σ' H' → (∀ σ2 H2, Pv (i + 1) σ2 H2 → N σ2 H2) → tb { D with nx := N, ct := N, bk := D.nx } (σ'.set j (some x)) H') (hd : ∀ σ' H', Pv xs.length σ' H' → D.nx σ' H') :
    ForB (Itl K a) (gName j) tb D σ H := forLg Pv hl h0 hs hd
theorem forTg {a : Addr} {xs : List V} (Pv : Nat → St → Hp → Prop) (hl : ∀ i σ H, Pv i σ H → SqT K H a xs) (h0 : Pv 0 σ H)
    (hs : ∀ i x σ' H' (N : St → Hp → Prop), xs[i]? = some x → Pv i σ' H' → (∀ σ2 H2, Pv (i + 1) σ2 H2 → N σ2 H2) → g x σ' H' fun σ2 H2 => tb { D with nx := N, ct := N, bk := D.nx } σ2 H2) (hd : ∀ σ' H', Pv xs.length σ' H' → D.nx σ' H') :
    ForB (Itt K a) g tb D σ H :=
  forG (n := xs.length) (Y := fun i x => xs[i]? = some x) Pv (fun i σ H hi p => ⟨fun h => ⟨⟨xs, xs[i], hl i σ H p, by simp [h]⟩, fun x H' ⟨e, y⟩ => ⟨e, y xs (hl i σ H p)⟩⟩, fun e => ⟨xs, hl i σ H p, by omega⟩⟩) h0 (fun i x σ' H' N hi y p k => hs i x σ' H' N y p k) hd
theorem forS {z : Str} (Pv : Nat → St → Hp → Prop) (h0 : Pv 0 σ H)
    (hs : ∀ i c σ' H' (N : St → Hp → Prop), z.cps.toList[i]? = some c → Pv i σ' H' → (∀ σ2 H2, Pv (i + 1) σ2 H2 → N σ2 H2) → tb { D with nx := N, ct := N, bk := D.nx } (σ'.set j (some (.str ⟨#[c]⟩))) H') (hd : ∀ σ' H', Pv z.length σ' H' → D.nx σ' H') :
    ForB (Its z) (gName j) tb D σ H :=
  forG (n := z.length) (Y := fun i x => ∃ c, z.cps.toList[i]? = some c ∧ x = .str ⟨#[c]⟩) Pv (fun i σ H hi p => ⟨fun h => ⟨h, fun x H' ⟨e, c, y, ex⟩ => ⟨e, c, by simpa using y, ex⟩⟩, fun e => by rw [e]; exact Nat.le_refl _⟩) h0 (fun i x σ' H' N hi ⟨c, y, ex⟩ p k => by subst ex; exact hs i c σ' H' N y p k) hd
/-- what a comprehension walks, as long as all but rows stands -/
def Src (J : It) (n : Nat) (Y : Nat → V → Prop) (H : Hp) : Prop := ∀ H', Ext H H' → (∀ i, i < n → J.go i H' ∧ ∀ x H2, J.yld i H' x H2 → H2 = H' ∧ Y i x) ∧ J.stop n H'
theorem src_rng {lo : Int} {n : Nat} : Src (Itr lo n) n (fun i x => x = .int (lo + (i : Int))) H := fun H' _ => ⟨fun i h => ⟨h, fun x H2 y => y⟩, Nat.le_refl n⟩
theorem src_lst {a : Addr} {xs : List V} (h : SqL K H a xs) (n : ¬ RowSh (.lst xs)) : Src (Itl K a) xs.length (fun i x => xs[i]? = some x) H := fun H' e =>
  ⟨fun i h1 => ⟨⟨xs, xs[i], e.seq n h, by simp [h1]⟩, fun x H2 ⟨e2, y⟩ => ⟨e2, y xs (e.seq n h)⟩⟩, ⟨xs, e.seq n h, Nat.le_refl _⟩⟩
theorem src_tup {a : Addr} {xs : List V} (h : SqT K H a xs) : Src (Itt K a) xs.length (fun i x => xs[i]? = some x) H := fun H' e =>
  ⟨fun i h1 => ⟨⟨xs, xs[i], e.tup h, by simp [h1]⟩, fun x H2 ⟨e2, y⟩ => ⟨e2, y xs (e.tup h)⟩⟩, ⟨xs, e.tup h, Nat.le_refl _⟩⟩
theorem src_str {z : Str} : Src (Its z) z.length (fun i x => ∃ c, z.cps.toList[i]? = some c ∧ x = .str ⟨#[c]⟩) H := fun H' e =>
  ⟨fun i h1 => ⟨h1, fun x H2 ⟨e2, c, y, ex⟩ => ⟨e2, c, by simpa using y, ex⟩⟩, Nat.le_refl _⟩
/-- a comprehension with a test; r: what holds of the place and what is made so far -/
theorem lcG {J : It} {n : Nat} {Y : Nat → V → Prop} (src : Src J n Y H) (r : Nat → List V → Prop) (h0 : r 0 []) (hn : ∀ i acc, r i acc → ¬ RowSh (.lst acc)) (hz : n ≤ 100000)
    (hs : ∀ i x acc H' (NT : Bool → Hp → Prop) (NE : VK), i < n → Y i x → r i acc → Ext H H' → (∀ H2, Ext H' H2 → r (i + 1) acc → NT false H2) →
      (∀ y H2, Ext H' H2 → r (i + 1) (acc ++ [y]) → NE y H2) → g x (wipe σ vs) H' fun σ2 H2 => wipe σ2 vs = wipe σ vs ∧ tt σ2 H2 fun b H3 => if b = true then te σ2 H3 NE else NT false H3)
    (hd : ∀ p acc H', r n acc → H p = none → Ext H H' → H' p = some (.lst acc) → acc.length ≤ n → Q (.ref p) H') : LcB J g tt te vs σ H Q := by
  intro D hD
  refine ⟨fun i m H' => m = n - i ∧ i ≤ n ∧ ∃ acc, r i acc ∧ acc.length ≤ i ∧ Ext H H' ∧ H' D = some (.lst acc), ⟨n, by simp, Nat.zero_le _, [], h0, Nat.le_refl _, Ext.new hD, upd_same⟩, ?_⟩
  rintro i m H' ⟨rfl, hi, acc, ha, hl, e, hDa⟩
  obtain ⟨s1, s2⟩ := src H' e
  by_cases hlt : i < n
  · obtain ⟨go, hy⟩ := s1 i hlt
    refine .inr ⟨go, fun H2 => i + 1 ≤ n ∧ ∃ acc, r (i + 1) acc ∧ acc.length ≤ i + 1 ∧ Ext H H2 ∧ H2 D = some (.lst acc), fun H2 ⟨a, b⟩ => ⟨n - (i + 1), by omega, rfl, a, b⟩, fun x H2 y => ?_⟩
    obtain ⟨e2, y2⟩ := hy x H2 y
    subst e2
    refine hs i x acc _ (fun b H3 => i + 1 ≤ n ∧ ∃ acc, r (i + 1) acc ∧ acc.length ≤ i + 1 ∧ Ext H H3 ∧ H3 D = some (.lst acc)) _ hlt y2 ha e (fun H3 e3 h3 => ⟨hlt, acc, h3, by omega, e.trans e3, e3.st _ _ hDa (hn _ _ ha)⟩) fun v H3 e3 h3 =>
      ⟨acc, e3.st _ _ hDa (hn _ _ ha), Nat.lt_of_lt_of_le (Nat.lt_of_le_of_lt (Nat.le_trans hl (Nat.le_trans hi hz)) (by decide : 100000 < 16777216)) (by decide), hlt, _, h3, by simp; omega, (e.trans e3).mut hD, upd_same⟩
  · have e1 : i = n := by omega
    subst e1
    exact .inl ⟨s2, hd D acc H' ha hD e hDa hl⟩
/-- .. the target a name, no test -/
theorem lcN {J : It} {n : Nat} {Y : Nat → V → Prop} (src : Src J n Y H) (r : Nat → List V → Prop) (h0 : r 0 []) (hn : ∀ i acc, r i acc → ¬ RowSh (.lst acc)) (hz : n ≤ 100000) (hw : ∀ x, wipe ((wipe σ vs).set j (some x)) vs = wipe σ vs)
    (hs : ∀ i x acc H' (NE : VK), i < n → Y i x → r i acc → Ext H H' → (∀ y H2, Ext H' H2 → r (i + 1) (acc ++ [y]) → NE y H2) → te ((wipe σ vs).set j (some x)) H' NE)
    (hd : ∀ p acc H', r n acc → H p = none → Ext H H' → H' p = some (.lst acc) → acc.length ≤ n → Q (.ref p) H') : LcB J (gName j) tYes te vs σ H Q :=
  lcG src r h0 hn hz (fun i x acc H' NT NE hi y ha e _ kE => ⟨hw x, by
    show (if true = true then te ((wipe σ vs).set j (some x)) H' NE else NT false H')
    rw [if_pos rfl]
    exact hs i x acc H' NE hi y ha e kE⟩) hd
/-- .. the target a name, a test -/
theorem lcF {J : It} {n : Nat} {Y : Nat → V → Prop} (src : Src J n Y H) (r : Nat → List V → Prop) (h0 : r 0 []) (hn : ∀ i acc, r i acc → ¬ RowSh (.lst acc)) (hz : n ≤ 100000) (hw : ∀ x, wipe ((wipe σ vs).set j (some x)) vs = wipe σ vs)
    (hs : ∀ i x acc H' (NF : Hp → Prop) (NE : VK), i < n → Y i x → r i acc → Ext H H' → (∀ H2, Ext H' H2 → r (i + 1) acc → NF H2) → (∀ y H2, Ext H' H2 → r (i + 1) (acc ++ [y]) → NE y H2) →
      tt ((wipe σ vs).set j (some x)) H' fun b H3 => if b = true then te ((wipe σ vs).set j (some x)) H3 NE else NF H3)
    (hd : ∀ p acc H', r n acc → H p = none → Ext H H' → H' p = some (.lst acc) → acc.length ≤ n → Q (.ref p) H') : LcB J (gName j) tt te vs σ H Q :=
  lcG src r h0 hn hz (fun i x acc H' NT NE hi y ha e kF kE => ⟨hw x, hs i x acc H' (NT false) NE hi y ha e kF kE⟩) hd
end
end Lw
end

section
/-! texts of the signs 0 and 1 -/
namespace Lw
open PySem L2
def bc (b : Bool) : Nat := if b then 49 else 48
def B (l : List Bool) : Str := ⟨(l.map bc).toArray⟩
theorem bc_inj {a b : Bool} (h : bc a = bc b) : a = b := by cases a <;> cases b <;> first | rfl | (exact absurd h (by decide))
theorem B_list (l : List Bool) : (B l).cps.toList = l.map bc := by simp [B]
theorem B_len (l : List Bool) : (B l).length = l.length := by simp [B, Str.length]
theorem str_ext {a b : Str} (h : a.cps.toList = b.cps.toList) : a = b := by
  cases a; cases b
  simpa using h
theorem map_bc_inj : ∀ {a b : List Bool}, a.map bc = b.map bc → a = b
  | [], [], _ => rfl
  | [], _ :: _, h => by simp at h
  | _ :: _, [], h => by simp at h
  | x :: a, y :: b, h => by
    simp only [List.map_cons, List.cons.injEq] at h
    rw [bc_inj h.1, map_bc_inj h.2]
theorem B_inj {a b : List Bool} (h : B a = B b) : a = b := by
  have e := congrArg (fun s : Str => s.cps.toList) h
  simp only [B_list] at e
  exact map_bc_inj e
theorem B_eq {a b : List Bool} : (B a = B b) ↔ a = b := ⟨B_inj, fun h => by rw [h]⟩
theorem B_app (a b : List Bool) : B a ++ B b = B (a ++ b) := by
  apply str_ext
  show ((B a).cps ++ (B b).cps).toList = _
  rw [Array.toList_append, B_list, B_list, B_list, List.map_append]
theorem B_nil : (Str.ofString "" : Str) = B [] := by decide +kernel
theorem B_0 : (Str.ofString "0" : Str) = B [false] := by decide +kernel
theorem B_1 : (Str.ofString "1" : Str) = B [true] := by decide +kernel
theorem B_01 : (Str.ofString "01" : Str) = B [false, true] := by decide +kernel
theorem B_10 : (Str.ofString "10" : Str) = B [true, false] := by decide +kernel
theorem B_one (b : Bool) : (⟨#[bc b]⟩ : Str) = B [b] := rfl
theorem B_at {l : List Bool} {i : Int} {b : Bool} (h : atI l i = some b) : atI (B l).cps.toList i = some (bc b) := by
  unfold atI at h ⊢
  rw [B_list, List.length_map]
  cases e : ixN l.length i with
  | none => rw [e] at h; cases h
  | some j =>
    rw [e] at h
    show (l.map bc)[j]? = some (bc b)
    have h' : l[j]? = some b := h
    rw [List.getElem?_map, h']
    rfl
theorem atI_k {α : Type} {l : List α} {j : Nat} {b : α} (h : l[j]? = some b) : atI l (j : Int) = some b := by
  have hj := (List.getElem?_eq_some_iff.mp h).1
  unfold atI ixN
  rw [if_pos (by omega), if_pos (by omega)]
  simpa using h
theorem atI_int {α : Type} {l : List α} {i : Int} {b : α} (h0 : 0 ≤ i) (h : l[i.toNat]? = some b) : atI l i = some b := by
  have e : i = (i.toNat : Int) := by omega
  rw [e]
  exact atI_k h
/-- a place within bounds -/
theorem atI_in {α : Type} (l : List α) {i : Int} (h0 : 0 ≤ i) (h1 : i < l.length) : ∃ b, atI l i = some b ∧ l[i.toNat]? = some b := by
  have hj : i.toNat < l.length := by omega
  exact ⟨l[i.toNat], atI_int h0 (List.getElem?_eq_getElem hj), List.getElem?_eq_getElem hj⟩
theorem cutS_B (l : List Bool) (lo hi : Option Int) : cutS (B l) lo hi = B ((l.drop (HT.sIx l.length 0 lo)).take (HT.sIx l.length l.length hi - HT.sIx l.length 0 lo)) := by
  apply str_ext
  unfold cutS
  rw [B_len, B_list, B_list]
  simp [List.map_take, List.map_drop]
/-- s[:k] -/
theorem cutS_to (l : List Bool) (k : Nat) : cutS (B l) none (some (k : Int)) = B (l.take k) := by
  rw [cutS_B, HT.sIx_none, HT.sIx_nat, List.drop_zero, Nat.sub_zero]
  congr 1
  by_cases h : k ≤ l.length
  · rw [Nat.min_eq_left h]
  · rw [Nat.min_eq_right (by omega), List.take_of_length_le (Nat.le_refl _), List.take_of_length_le (by omega)]
/-- s[k:] -/
theorem cutS_from (l : List Bool) (k : Nat) : cutS (B l) (some (k : Int)) none = B (l.drop k) := by
  rw [cutS_B, HT.sIx_none, HT.sIx_nat]
  congr 1
  by_cases h : k ≤ l.length
  · rw [Nat.min_eq_left h, List.take_of_length_le (by rw [List.length_drop]; exact Nat.le_refl _)]
  · rw [Nat.min_eq_right (by omega), Nat.sub_self, List.take_zero, List.drop_of_length_le (by omega)]
theorem starts_B (l p : List Bool) : Txt.startswith (B l) (B p) = decide (p <+: l) := by
  unfold Txt.startswith Builtin.Str.subAt
  rw [B_len, B_len]
  have e : (B l).cps.extract 0 (0 + p.length) = ((l.take p.length).map bc).toArray := by
    simp [B, List.map_take]
  rw [e]
  have e2 : (((l.take p.length).map bc).toArray == (B p).cps) = decide (l.take p.length = p) := by
    show (((l.take p.length).map bc).toArray == (p.map bc).toArray) = _
    by_cases h : l.take p.length = p
    · rw [h, decide_eq_true rfl]
      exact beq_self_eq_true _
    · rw [decide_eq_false h]
      apply beq_eq_false_iff_ne.mpr
      intro q
      apply h
      apply map_bc_inj
      simpa using q
  rw [e2]
  by_cases h : p <+: l
  · rw [decide_eq_true h, decide_eq_true (List.prefix_iff_eq_take.mp h).symm]
    have := h.length_le
    simp
    omega
  · rw [decide_eq_false h]
    by_cases h2 : l.take p.length = p
    · exact absurd (by rw [← h2]; exact List.take_prefix _ _) h
    · rw [decide_eq_false h2, Bool.and_false]
/-- the list of texts -/
def bv (l : List Bool) : V := .str (B l)
def bvs (ls : List (List Bool)) : List V := ls.map bv
theorem bvs_strs (ls : List (List Bool)) : bvs ls = (ls.map B).map V.str := by simp [bvs, bv]
theorem bvs_len (ls : List (List Bool)) : (bvs ls).length = ls.length := by simp [bvs]
theorem bvs_get {ls : List (List Bool)} {i : Nat} {v : V} (h : (bvs ls)[i]? = some v) : ∃ l, ls[i]? = some l ∧ v = .str (B l) := by
  unfold bvs at h
  rw [List.getElem?_map] at h
  cases e : ls[i]? with
  | none => rw [e] at h; cases h
  | some l => rw [e] at h; exact ⟨l, rfl, (Option.some.inj h).symm⟩
theorem bvs_at {ls : List (List Bool)} {i : Nat} {l : List Bool} (h : ls[i]? = some l) : (bvs ls)[i]? = some (.str (B l)) := by
  unfold bvs
  rw [List.getElem?_map, h]
  rfl
theorem bvs_flat (ls : List (List Bool)) : (bvs ls).all flatV = true := by
  simp [bvs, bv, flatV]
theorem inV_bvs (l : List Bool) (ls : List (List Bool)) : inV (.str (B l)) (bvs ls) = decide (l ∈ ls) := by
  unfold inV bvs
  rw [List.any_map]
  by_cases h : l ∈ ls
  · rw [decide_eq_true h]
    apply List.any_eq_true.mpr
    exact ⟨l, h, by simp [bv, eqV]⟩
  · rw [decide_eq_false h]
    apply List.any_eq_false.mpr
    intro x hx
    simp only [Function.comp, bv, eqV]
    intro q
    have := B_inj (by simpa using q)
    exact h (this ▸ hx)
theorem toList_foldl_app (ps : List Str) (a : Array Nat) : (ps.foldl (fun acc p => acc ++ (B []).cps ++ p.cps) a).toList = a.toList ++ (ps.map fun p => p.cps.toList).flatten := by
  induction ps generalizing a with
  | nil => simp
  | cons p ps ih =>
    rw [List.foldl_cons, ih]
    simp [B]
theorem join_B (ls : List (List Bool)) : Txt.join (B []) (ls.map B) = B ls.flatten := by
  apply str_ext
  cases ls with
  | nil => simp [Txt.join, Builtin.Str.glued, B, Str.empty]
  | cons l ls =>
    show ((ls.map B).foldl (fun acc p => acc ++ (B []).cps ++ p.cps) (B l).cps).toList = _
    rw [toList_foldl_app, B_list, B_list]
    simp [B, Function.comp_def, List.map_flatten]
theorem join_signs (bs : List Bool) : Txt.join (B []) ((bs.map fun b => [b]).map B) = B bs := by
  rw [join_B]
  congr 1
  induction bs with
  | nil => rfl
  | cons b bs ih => simp [ih]
/-- joined signs -/
theorem digit_int (b : Bool) : PySem.intText? (B [b]) = some (if b then 1 else 0) := by
  cases b <;> decide +kernel
theorem str_digit (b : Bool) : (toString (if b then (1 : Int) else 0) : String) = if b then "1" else "0" := by
  cases b <;> rfl
/-! ### one sign many times -/
def rRepS : R2 := fun x y H Q => ∃ (c : Nat) (n : Int), x = .str ⟨#[c]⟩ ∧ y = .int n ∧ 0 ≤ n ∧ n ≤ 1000 ∧ Q (.str ⟨(List.replicate n.toNat c).toArray⟩) H
theorem rep_fold (c : Nat) : ∀ (n : Nat) (a : Array Nat), ((List.replicate n #[c]).foldl (· ++ ·) a).toList = a.toList ++ List.replicate n c
  | 0, a => by simp
  | n + 1, a => by
    rw [List.replicate_succ, List.foldl_cons, rep_fold c n, List.replicate_succ]
    simp
theorem op_repS {X : Cx} : OpR X (binaryOp .Mult) rRepS := by
  intro pins s σ H x y v u Q I rx ry h
  obtain ⟨c, n, rfl, rfl, h0, h1, q⟩ := h
  obtain ⟨t, rfl⟩ := rx
  obtain ⟨t', rfl⟩ := ry
  have hl1 : (⟨#[c]⟩ : Str).length = 1 := rfl
  refine P.mul_str (by
      have a1 : ¬ n < -(2 ^ 63 : Int) := by omega
      have a2 : ¬ n ≥ 2 ^ 63 := by omega
      rw [decide_eq_false a1, decide_eq_false a2]; rfl) (fun h2 _ => ?_) (fun h2 _ => ?_) ?_
  · rw [hl1]
    have : (1 : Int) ≤ (2 ^ 63 - 1) / n := by
      rw [Int.le_ediv_iff_mul_le (by omega)]
      omega
    omega
  · rw [hl1]
    show decide (1 * n.toNat > sizeLine) = false
    rw [decide_eq_false_iff_not, sizeLine_eq]
    omega
  · by_cases hn : n < 1
    · rw [if_pos hn]
      have e : n = 0 := by omega
      subst e
      refine ⟨by decide, .str Str.empty, H, I.tok _, ⟨_, rfl⟩, ?_⟩
      exact q
    · rw [if_neg hn]
      by_cases hn1 : n = 1
      · subst hn1
        exact ⟨.str ⟨#[c]⟩, H, I, ⟨_, rfl⟩, q⟩
      · rw [if_neg (by rw [hl1]; simp [hn1])]
        have e : (⟨(List.replicate n.toNat (⟨#[c]⟩ : Str).cps).foldl (· ++ ·) #[]⟩ : Str) = ⟨(List.replicate n.toNat c).toArray⟩ := by
          apply str_ext
          show ((List.replicate n.toNat #[c]).foldl (· ++ ·) #[]).toList = _
          rw [rep_fold]
          simp
        rw [e]
        refine ⟨?_, .str _, H, I.tok _, ⟨_, rfl⟩, q⟩
        show (List.replicate n.toNat c).toArray.size ≤ sizeLine
        rw [sizeLine_eq]
        simp
        omega
theorem B_rep (b : Bool) (n : Nat) : (⟨(List.replicate n (bc b)).toArray⟩ : Str) = B (List.replicate n b) := by simp [B]
/-! ### texts of signs 0 and 1, told -/
def bitC (c : Nat) : Bool := c == 48 || c == 49
def bitsS (x : Str) : Bool := x.cps.toList.all bitC
theorem mem_01 (c : Nat) : decide (c ∈ (Str.ofString "01" : Str).cps.toList) = bitC c := by
  rw [B_01, B_list]
  by_cases h : c = 48
  · subst h; decide
  · by_cases h1 : c = 49
    · subst h1; decide
    · simp [bc, bitC, h, h1]
theorem bits_B (l : List Bool) : bitsS (B l) = true := by
  unfold bitsS
  rw [B_list, List.all_eq_true]
  intro c hc
  obtain ⟨b, _, rfl⟩ := List.mem_map.mp hc
  cases b <;> rfl
theorem bits_is {x : Str} (h : bitsS x = true) : ∃ l, x = B l := by
  unfold bitsS at h
  rw [List.all_eq_true] at h
  refine ⟨x.cps.toList.map fun c => c == 49, ?_⟩
  apply str_ext
  rw [B_list, List.map_map]
  have : ∀ cs : List Nat, (∀ c ∈ cs, bitC c = true) → cs = cs.map (bc ∘ fun c => c == 49) := fun cs => by
    induction cs with
    | nil => intro _; rfl
    | cons c cs ih =>
      intro hc
      rw [List.map_cons, ← ih fun d hd => hc d (List.mem_cons_of_mem _ hd)]
      congr 1
      have := hc c List.mem_cons_self
      simp only [bitC, Bool.or_eq_true, beq_iff_eq] at this
      rcases this with rfl | rfl <;> rfl
  exact this _ h
theorem pre_snoc {p l : List Bool} {b : Bool} : p ++ [b] <+: l ↔ p <+: l ∧ l[p.length]? = some b := by
  constructor
  · rintro ⟨t, rfl⟩
    exact ⟨⟨[b] ++ t, by simp⟩, by simp⟩
  · rintro ⟨⟨t, rfl⟩, h⟩
    rw [List.getElem?_append_right (Nat.le_refl _), Nat.sub_self] at h
    cases t with
    | nil => simp at h
    | cons c t =>
      simp at h
      subst h
      exact ⟨t, by simp⟩
/-- what a look tells -/
def lookZ (ls : List (List Bool)) (p : List Bool) (b : Bool) : Bool := ls.any fun l => decide (p ++ [b] <+: l)
theorem lookZ_mem (ls : List (List Bool)) (p : List Bool) (b : Bool) (h : ∀ l ∈ ls, p.length < l.length) : decide ([b] ∈ (ls.filter fun l => decide (p <+: l)).map fun l => [l.getD p.length false]) = lookZ ls p b := by
  unfold lookZ
  rw [Bool.eq_iff_iff, decide_eq_true_iff, List.any_eq_true]
  simp only [List.mem_map, List.mem_filter, decide_eq_true_eq, pre_snoc]
  constructor
  · rintro ⟨l, ⟨hl, hp⟩, e⟩
    refine ⟨l, hl, hp, ?_⟩
    have hlt := h l hl
    simp only [List.cons.injEq, and_true] at e
    rw [← e, List.getD_eq_getElem?_getD, List.getElem?_eq_getElem hlt]
    rfl
  · rintro ⟨l, hl, hp, e⟩
    refine ⟨l, ⟨hl, hp⟩, ?_⟩
    rw [List.getD_eq_getElem?_getD, e]
    rfl
end Lw
end

section
/-! nested data -/
namespace Lw
open PySem L2
theorem lay_all : ∀ {xs : List PyData}, (∀ x ∈ xs, PyData.canLay0 x = true) → PyData.canLayAll0 xs = true
  | [], _ => by simp [PyData.canLayAll0]
  | x :: xs, h => by
    simp only [PyData.canLayAll0, Bool.and_eq_true]
    exact ⟨h x List.mem_cons_self, lay_all fun y hy => h y (List.mem_cons_of_mem _ hy)⟩
theorem dep_all {n : Nat} : ∀ {xs : List PyData}, (∀ x ∈ xs, PyData.depth x ≤ n) → PyData.depthAll xs ≤ n
  | [], _ => by simp [PyData.depthAll]
  | x :: xs, h => by
    simp only [PyData.depthAll]
    have h1 := h x List.mem_cons_self
    have h2 := dep_all (n := n) (xs := xs) fun y hy => h y (List.mem_cons_of_mem _ hy)
    omega
theorem dep_mem {n : Nat} : ∀ {xs : List PyData}, PyData.depthAll xs ≤ n → ∀ x ∈ xs, PyData.depth x ≤ n
  | [], _, x, hx => by cases hx
  | y :: ys, h, x, hx => by
    simp only [PyData.depthAll] at h
    rcases List.mem_cons.mp hx with rfl | hx
    · omega
    · exact dep_mem (xs := ys) (by omega) x hx
theorem lay_mem : ∀ {xs : List PyData}, PyData.canLayAll0 xs = true → ∀ x ∈ xs, PyData.canLay0 x = true
  | [], _, x, hx => by cases hx
  | y :: ys, h, x, hx => by
    simp only [PyData.canLayAll0, Bool.and_eq_true] at h
    rcases List.mem_cons.mp hx with rfl | hx
    · exact h.1
    · exact lay_mem h.2 x hx
theorem lay_B (l : List Bool) : PyData.canLay0 (.str (B l)) = true := by
  simp only [PyData.canLay0, PyData.strOk]
  rw [Array.all_eq_true]
  intro i hi
  have e : (B l).cps[i] ∈ (B l).cps.toList := by simp
  rw [B_list] at e
  obtain ⟨b, _, hb⟩ := List.mem_map.mp e
  rw [← hb]
  cases b <;> decide
theorem shaped_mk {d : PyData} {n : Nat} (h : PyData.canLay0 d = true) (h2 : PyData.depth d ≤ n) (hn : n ≤ 64) : SeqAt.shaped d = true := by
  unfold SeqAt.shaped
  rw [h, decide_eq_true (Nat.le_trans h2 hn)]
  rfl
/-- values of a type as data -/
structure Nice {α : Type} [DecidableEq α] (f : α → PyData) (n : Nat) : Prop where
  lay : ∀ x, PyData.canLay0 (f x) = true
  dep : ∀ x, PyData.depth (f x) ≤ n
  eq : ∀ x y, PyData.eqv (f x) (f y) = decide (x = y)
theorem Nice.shaped {α : Type} [DecidableEq α] {f : α → PyData} {n : Nat} (h : Nice f n) (hn : n ≤ 64) (x : α) : SeqAt.shaped (f x) = true := shaped_mk (h.lay x) (h.dep x) hn
abbrev db (l : List Bool) : PyData := .str (B l)
theorem nice_bits : Nice db 0 where
  lay := lay_B
  dep := fun x => by simp [db, PyData.depth]
  eq := fun x y => by
    simp only [db, PyData.eqv]
    by_cases h : x = y
    · subst h; simp
    · rw [decide_eq_false h]
      exact beq_eq_false_iff_ne.mpr fun q => h (B_inj q)
theorem nice_bool : Nice PyData.bool 0 where
  lay := fun x => by simp [PyData.canLay0]
  dep := fun x => by simp [PyData.depth]
  eq := fun x y => by
    simp only [PyData.eqv]
    by_cases h : x = y <;> simp [h]
theorem nice_int : Nice PyData.int 0 where
  lay := fun x => by simp [PyData.canLay0]
  dep := fun x => by simp [PyData.depth]
  eq := fun x y => by
    simp only [PyData.eqv]
    by_cases h : x = y <;> simp [h]
theorem nice_all {α : Type} [DecidableEq α] {f : α → PyData} (h : ∀ x y, PyData.eqv (f x) (f y) = decide (x = y)) : ∀ xs ys : List α, PyData.eqvAll (xs.map f) (ys.map f) = decide (xs = ys)
  | [], [] => by simp [PyData.eqvAll]
  | [], _ :: _ => by simp [PyData.eqvAll]
  | _ :: _, [] => by simp [PyData.eqvAll]
  | x :: xs, y :: ys => by
    simp only [List.map_cons, PyData.eqvAll, h, nice_all h xs ys]
    by_cases e : x = y <;> by_cases e2 : xs = ys <;> simp [e, e2]
theorem nice_list {α : Type} [DecidableEq α] {f : α → PyData} {n : Nat} (h : Nice f n) : Nice (fun xs : List α => .list (xs.map f)) (n + 1) where
  lay := fun xs => by
    simp only [PyData.canLay0]
    exact lay_all fun y hy => by
      obtain ⟨x, _, rfl⟩ := List.mem_map.mp hy
      exact h.lay x
  dep := fun xs => by
    simp only [PyData.depth]
    have := dep_all (n := n) (xs := xs.map f) fun y hy => by
      obtain ⟨x, _, rfl⟩ := List.mem_map.mp hy
      exact h.dep x
    omega
  eq := fun xs ys => by
    simp only [PyData.eqv]
    exact nice_all h.eq xs ys
theorem nice_tupl {α : Type} [DecidableEq α] {f : α → PyData} {n : Nat} (h : Nice f n) : Nice (fun xs : List α => .tuple (xs.map f)) (n + 1) where
  lay := fun xs => by
    simp only [PyData.canLay0]
    exact lay_all fun y hy => by
      obtain ⟨x, _, rfl⟩ := List.mem_map.mp hy
      exact h.lay x
  dep := fun xs => by
    simp only [PyData.depth]
    have := dep_all (n := n) (xs := xs.map f) fun y hy => by
      obtain ⟨x, _, rfl⟩ := List.mem_map.mp hy
      exact h.dep x
    omega
  eq := fun xs ys => by
    simp only [PyData.eqv]
    exact nice_all h.eq xs ys
theorem nice_tup2 {α β : Type} [DecidableEq α] [DecidableEq β] {f : α → PyData} {g : β → PyData} {n m : Nat} (h : Nice f n) (h2 : Nice g m) : Nice (fun p : α × β => .tuple [f p.1, g p.2]) (max n m + 1) where
  lay := fun p => by simp [PyData.canLay0, PyData.canLayAll0, h.lay, h2.lay]
  dep := fun p => by
    simp only [PyData.depth, PyData.depthAll]
    have := h.dep p.1
    have := h2.dep p.2
    omega
  eq := fun ⟨a, b⟩ ⟨c, d⟩ => by
    simp only [PyData.eqv, PyData.eqvAll, h.eq, h2.eq]
    by_cases e : a = c <;> by_cases e2 : b = d <;> simp [e, e2]
theorem nice_tup3 {α β γ : Type} [DecidableEq α] [DecidableEq β] [DecidableEq γ] {f : α → PyData} {g : β → PyData} {k : γ → PyData} {n m o : Nat} (h : Nice f n) (h2 : Nice g m) (h3 : Nice k o) : Nice (fun p : α × β × γ => .tuple [f p.1, g p.2.1, k p.2.2]) (max n (max m o) + 1) where
  lay := fun p => by simp [PyData.canLay0, PyData.canLayAll0, h.lay, h2.lay, h3.lay]
  dep := fun p => by
    simp only [PyData.depth, PyData.depthAll]
    have := h.dep p.1
    have := h2.dep p.2.1
    have := h3.dep p.2.2
    omega
  eq := fun ⟨a, b, c⟩ ⟨a2, b2, c2⟩ => by
    simp only [PyData.eqv, PyData.eqvAll, h.eq, h2.eq, h3.eq]
    by_cases e : a = a2 <;> by_cases e2 : b = b2 <;> by_cases e3 : c = c2 <;> simp [e, e2, e3]
/-- data that stands -/
theorem dpAll_map {K : PySem.W.Frag} {H : Hp} {α : Type} {f : α → PyData} {v : α → V} (h : ∀ x, Dp K H (v x) (f x)) : ∀ xs : List α, DpAll K H (xs.map v) (xs.map f)
  | [] => .nil
  | x :: xs => .cons (h x) (dpAll_map h xs)
theorem dp_bits {K : PySem.W.Frag} {H : Hp} {p : Addr} {ls : List (List Bool)} (h : SqL K H p (bvs ls)) : Dp K H (.ref p) (.list (ls.map db)) := .lst h (dpAll_map (fun x => .str _) ls)
theorem dp_nil {K : PySem.W.Frag} {H : Hp} {p : Addr} (h : SqL K H p []) : Dp K H (.ref p) (.list []) := .lst h .nil
theorem w_eqD {K : PySem.W.Frag} {H : Hp} {Q : VK} {x y : V} {d e : PyData} (h1 : Dp K H x d) (h2 : Dp K H y e) (s1 : SeqAt.shaped d = true) (s2 : SeqAt.shaped e = true) (k : Q (.bl (PyData.eqv d e)) H) : rEqD K x y H Q := ⟨d, e, h1, h2, s1, s2, k⟩
theorem w_neD {K : PySem.W.Frag} {H : Hp} {Q : VK} {x y : V} {d e : PyData} (h1 : Dp K H x d) (h2 : Dp K H y e) (s1 : SeqAt.shaped d = true) (s2 : SeqAt.shaped e = true) (k : Q (.bl (!PyData.eqv d e)) H) : rNeD K x y H Q := ⟨d, e, h1, h2, s1, s2, k⟩
/-- two lists of texts -/
theorem w_eqLs {K : PySem.W.Frag} {H : Hp} {Q : VK} {p q : Addr} {ls ms : List (List Bool)} (h1 : SqL K H p (bvs ls)) (h2 : SqL K H q (bvs ms)) (k : Q (.bl (decide (ls = ms))) H) : rEqD K (.ref p) (.ref q) H Q :=
  w_eqD (dp_bits h1) (dp_bits h2) ((nice_list nice_bits).shaped (by decide) ls) ((nice_list nice_bits).shaped (by decide) ms) (by rw [(nice_list nice_bits).eq]; exact k)
theorem w_neLs {K : PySem.W.Frag} {H : Hp} {Q : VK} {p q : Addr} {ls ms : List (List Bool)} (h1 : SqL K H p (bvs ls)) (h2 : SqL K H q (bvs ms)) (k : Q (.bl (!decide (ls = ms))) H) : rNeD K (.ref p) (.ref q) H Q :=
  w_neD (dp_bits h1) (dp_bits h2) ((nice_list nice_bits).shaped (by decide) ls) ((nice_list nice_bits).shaped (by decide) ms) (by rw [(nice_list nice_bits).eq]; exact k)
/-- two datas of one type -/
theorem w_eqN {K : PySem.W.Frag} {H : Hp} {Q : VK} {x y : V} {α : Type} [DecidableEq α] {f : α → PyData} {n : Nat} (N : Nice f n) (hn : n ≤ 64) {a b : α} (h1 : Dp K H x (f a)) (h2 : Dp K H y (f b)) (k : Q (.bl (decide (a = b))) H) : rEqD K x y H Q :=
  w_eqD h1 h2 (N.shaped hn a) (N.shaped hn b) (by rw [N.eq]; exact k)
theorem w_neN {K : PySem.W.Frag} {H : Hp} {Q : VK} {x y : V} {α : Type} [DecidableEq α] {f : α → PyData} {n : Nat} (N : Nice f n) (hn : n ≤ 64) {a b : α} (h1 : Dp K H x (f a)) (h2 : Dp K H y (f b)) (k : Q (.bl (!decide (a = b))) H) : rNeD K x y H Q :=
  w_neD h1 h2 (N.shaped hn a) (N.shaped hn b) (by rw [N.eq]; exact k)
/-! ### order of texts -/
def blt : List Bool → List Bool → Bool
  | [], [] => false
  | [], _ :: _ => true
  | _ :: _, [] => false
  | a :: x, b :: y => if a = b then blt x y else !a
theorem blt_cps : ∀ a b : List Bool, PySem.Spec.ltCps (a.map bc) (b.map bc) = blt a b
  | [], [] => rfl
  | [], _ :: _ => rfl
  | _ :: _, [] => rfl
  | a :: x, b :: y => by
    have ih := blt_cps x y
    simp only [List.map_cons, PySem.Spec.ltCps, blt, ih]
    cases a <;> cases b <;> simp [bc]
theorem blt_irr : ∀ a : List Bool, blt a a = false
  | [] => rfl
  | a :: x => by simp [blt, blt_irr x]
theorem blt_trans : ∀ {a b c : List Bool}, blt a b = true → blt b c = true → blt a c = true
  | [], _, [], _, h => by cases ‹List Bool› <;> simp [blt] at h
  | [], _, _ :: _, _, _ => rfl
  | _ :: _, [], _, h, _ => by simp [blt] at h
  | _ :: _, _ :: _, [], _, h => by simp [blt] at h
  | a :: x, b :: y, c :: z, h1, h2 => by
    simp only [blt] at h1 h2 ⊢
    have ih := @blt_trans x y z
    cases a <;> cases b <;> cases c <;> simp_all
theorem blt_asymm {a b : List Bool} (h : blt a b = true) : blt b a = false := by
  cases e : blt b a with
  | false => rfl
  | true =>
    have := blt_trans h e
    rw [blt_irr] at this
    cases this
theorem blt_tri : ∀ a b : List Bool, blt a b = true ∨ a = b ∨ blt b a = true
  | [], [] => .inr (.inl rfl)
  | [], _ :: _ => .inl rfl
  | _ :: _, [] => .inr (.inr rfl)
  | a :: x, b :: y => by
    have ih := blt_tri x y
    simp only [blt]
    cases a <;> cases b <;> simp_all
theorem blt_of_not {a b : List Bool} (h : blt b a = false) (n : a ≠ b) : blt a b = true := by
  rcases blt_tri a b with e | e | e
  · exact e
  · exact absurd e n
  · rw [h] at e; cases e
/-- a list that rises -/
abbrev Rise (ls : List (List Bool)) : Prop := ls.Pairwise fun a b => blt a b = true
theorem rise_nodup {ls : List (List Bool)} (h : Rise ls) : ls.Nodup := h.imp fun {a b} h e => by
  rw [e, blt_irr] at h
  cases h
theorem risingS_pw : ∀ (ls : List (List Bool)) (p : List Bool), PyProof.Rows.risingS (B p) (ls.map B) = true → (p :: ls).Pairwise fun a b => blt b a = false
  | [], p, _ => by simp
  | x :: r, p, h => by
    simp only [List.map_cons, PyProof.Rows.risingS, Bool.and_eq_true, Bool.not_eq_true', B_list, blt_cps] at h
    have ih := risingS_pw r x h.2
    refine List.pairwise_cons.mpr ⟨fun y hy => ?_, ih⟩
    rcases List.mem_cons.mp hy with rfl | hy
    · exact h.1
    · have h2 := (List.pairwise_cons.mp ih).1 y hy
      cases e : blt y p with
      | false => rfl
      | true =>
        rcases blt_tri p x with q | q | q
        · have := blt_trans e q
          rw [h2] at this
          cases this
        · rw [q, h2] at e
          cases e
        · rw [h.1] at q
          cases q
theorem rise_of {ls : List (List Bool)} (h : PyProof.Rows.sortedS (ls.map B) = true) (n : ls.Nodup) : Rise ls := by
  have pw : ls.Pairwise fun a b => blt b a = false := by
    cases ls with
    | nil => exact List.Pairwise.nil
    | cons x r => exact risingS_pw r x h
  exact (pw.and n).imp fun {a b} h => blt_of_not h.1 h.2
theorem rise_ext : ∀ {a b : List (List Bool)}, Rise a → Rise b → (∀ x, x ∈ a ↔ x ∈ b) → a = b
  | [], [], _, _, _ => rfl
  | [], y :: _, _, _, h => absurd ((h y).mpr List.mem_cons_self) (by simp)
  | x :: _, [], _, _, h => absurd ((h x).mp List.mem_cons_self) (by simp)
  | x :: a, y :: b, ha, hb, h => by
    obtain ⟨hx, ha'⟩ := List.pairwise_cons.mp ha
    obtain ⟨hy, hb'⟩ := List.pairwise_cons.mp hb
    have e : x = y := by
      rcases List.mem_cons.mp ((h x).mp List.mem_cons_self) with e | e
      · exact e
      · rcases List.mem_cons.mp ((h y).mpr List.mem_cons_self) with e2 | e2
        · exact e2.symm
        · have := blt_asymm (hx y e2)
          rw [hy x e] at this
          cases this
    subst e
    congr 1
    refine rise_ext ha' hb' fun z => ⟨fun hz => ?_, fun hz => ?_⟩
    · rcases List.mem_cons.mp ((h z).mp (List.mem_cons_of_mem _ hz)) with e | e
      · subst e
        have := hx z hz
        rw [blt_irr] at this
        cases this
      · exact e
    · rcases List.mem_cons.mp ((h z).mpr (List.mem_cons_of_mem _ hz)) with e | e
      · subst e
        have := hy z hz
        rw [blt_irr] at this
        cases this
      · exact e
/-- a permutation of texts of signs is one of signs -/
theorem perm_B {ys : List Str} {ls : List (List Bool)} (h : ys.Perm (ls.map B)) : ∃ ms : List (List Bool), ys = ms.map B ∧ ms.Perm ls := by
  have hm : ∀ y ∈ ys, ∃ m, B m = y := fun y hy => by
    obtain ⟨m, _, e⟩ := List.mem_map.mp (h.mem_iff.mp hy)
    exact ⟨m, e⟩
  obtain ⟨ms, e⟩ : ∃ ms : List (List Bool), ys = ms.map B := by
    clear h
    induction ys with
    | nil => exact ⟨[], rfl⟩
    | cons y ys ih =>
      obtain ⟨m, e⟩ := hm y List.mem_cons_self
      obtain ⟨ms, e2⟩ := ih fun z hz => hm z (List.mem_cons_of_mem _ hz)
      exact ⟨m :: ms, by rw [List.map_cons, e, ← e2]⟩
  subst e
  refine ⟨ms, rfl, ?_⟩
  rw [List.perm_iff_count]
  intro a
  have q := h.count_eq (B a)
  have c : ∀ l : List (List Bool), (l.map B).count (B a) = l.count a := fun l => by
    induction l with
    | nil => rfl
    | cons x l ih =>
      rw [List.map_cons, List.count_cons, List.count_cons, ih]
      by_cases e : x = a
      · subst e; simp
      · have : ¬ B x = B a := fun q => e (B_inj q)
        simp [e, this]
  rw [c, c] at q
  exact q
theorem cutV_to (xs : List V) (k : Nat) : cutV xs none (some (k : Int)) = xs.take k := by
  unfold cutV
  rw [HT.sIx_none, HT.sIx_nat, List.drop_zero, Nat.sub_zero]
  by_cases h : k ≤ xs.length
  · rw [Nat.min_eq_left h]
  · rw [Nat.min_eq_right (by omega), List.take_of_length_le (Nat.le_refl _), List.take_of_length_le (by omega)]
theorem cutV_from (xs : List V) (k : Nat) : cutV xs (some (k : Int)) none = xs.drop k := by
  unfold cutV
  rw [HT.sIx_none, HT.sIx_nat]
  by_cases h : k ≤ xs.length
  · rw [Nat.min_eq_left h, List.take_of_length_le (by rw [List.length_drop]; exact Nat.le_refl _)]
  · rw [Nat.min_eq_right (by omega), Nat.sub_self, List.take_zero, List.drop_of_length_le (by omega)]
theorem nsh_bvs (ls : List (List Bool)) : ¬ RowSh (.lst (bvs ls)) := by
  rw [bvs_strs]
  exact nsh_strs _
theorem w_sortS {K : PySem.W.Frag} {H : Hp} {Q : VK} {p : Addr} {ls : List (List Bool)} (h : SqL K H p (bvs ls)) (hn : ls.length < 64) (nd : ls.Nodup) (k : ∀ ms l H', ms.Perm ls → Rise ms → H l = none → Ext H H' → H' l = some (.lst (bvs ms)) → Q (.ref l) H') : rSortedS K [.ref p] H Q := by
  refine ⟨p, ls.map B, rfl, by rw [← bvs_strs]; exact h, by rw [List.length_map]; exact hn, fun ys l hp hs hl => ?_⟩
  obtain ⟨ms, rfl, hm⟩ := perm_B hp
  refine k ms l _ hm (rise_of hs (hm.nodup_iff.mpr nd)) hl (Ext.new hl) ?_
  rw [upd_same, bvs_strs]
theorem bvs_append (a b : List (List Bool)) : bvs a ++ bvs b = bvs (a ++ b) := by simp [bvs]
theorem bvs_take (a : List (List Bool)) (k : Nat) : (bvs a).take k = bvs (a.take k) := by simp [bvs, List.map_take]
theorem bvs_drop (a : List (List Bool)) (k : Nat) : (bvs a).drop k = bvs (a.drop k) := by simp [bvs, List.map_drop]
theorem bvs_snoc (a : List (List Bool)) (l : List Bool) : bvs a ++ [.str (B l)] = bvs (a ++ [l]) := by simp [bvs, bv]
theorem bvs_atI {ls : List (List Bool)} {i : Int} {l : List Bool} (h : atI ls i = some l) : atI (bvs ls) i = some (.str (B l)) := by
  unfold atI at h ⊢
  rw [bvs_len]
  cases e : ixN ls.length i with
  | none => rw [e] at h; cases h
  | some j =>
    rw [e] at h
    exact bvs_at h
/-- numbers that part from one at each sign -/
def Parts (base : List Bool) (ms : List (List Bool)) : Prop := ∀ (k : Nat) (m : List Bool), ms[k]? = some m → m.length = base.length ∧ m.take k = base.take k ∧ ∃ b, base[k]? = some b ∧ m[k]? = some (!b)
theorem Parts.snoc {base : List Bool} {ms : List (List Bool)} {t : List Bool} {b : Bool} (h : Parts base ms) (hb : base[ms.length]? = some b) (ht : ms.length + 1 + t.length = base.length) : Parts base (ms ++ [base.take ms.length ++ [!b] ++ t]) := by
  intro k m hk
  have hl := (List.getElem?_eq_some_iff.mp hb).1
  have tl : (base.take ms.length).length = ms.length := by simp; omega
  by_cases hlt : k < ms.length
  · rw [List.getElem?_append_left hlt] at hk
    exact h k m hk
  · rw [List.getElem?_append_right (by omega)] at hk
    have e : k = ms.length := by
      have := (List.getElem?_eq_some_iff.mp hk).1
      simp at this
      omega
    subst e
    simp at hk
    subst hk
    refine ⟨by simp; omega, ?_, b, hb, ?_⟩
    · rw [List.take_append_of_le_length (by rw [tl]; exact Nat.le_refl _), List.take_of_length_le (by rw [tl]; exact Nat.le_refl _)]
    · rw [List.getElem?_append_right (by rw [tl]; exact Nat.le_refl _), tl, Nat.sub_self]
      rfl
theorem Parts.nodup {base : List Bool} {ms : List (List Bool)} (h : Parts base ms) (k : Nat) : (ms.take k ++ [base]).Nodup := by
  have key : ∀ i j a b, ms[i]? = some a → ms[j]? = some b → i < j → a ≠ b := fun i j a b ha hb hij e => by
    subst e
    obtain ⟨_, _, c, hc, hc2⟩ := h i a ha
    obtain ⟨_, t2, _⟩ := h j a hb
    have : (a.take j)[i]? = (base.take j)[i]? := by rw [t2]
    rw [List.getElem?_take_of_lt hij, List.getElem?_take_of_lt hij, hc, hc2] at this
    cases c <;> simp at this
  have key2 : ∀ a ∈ ms, a ≠ base := fun a ha e => by
    obtain ⟨i, hi⟩ := List.mem_iff_getElem?.mp ha
    obtain ⟨_, _, c, hc, hc2⟩ := h i a hi
    rw [e, hc] at hc2
    cases c <;> simp at hc2
  refine List.nodup_append.mpr ⟨?_, by simp, fun a ha b hb e => ?_⟩
  · refine List.Pairwise.sublist (List.take_sublist k ms) ?_
    rw [List.pairwise_iff_getElem]
    intro i j hi hj hij
    exact key i j _ _ (List.getElem?_eq_getElem hi) (List.getElem?_eq_getElem hj) hij
  · simp at hb
    subst hb
    exact key2 a (List.mem_of_mem_take ha) e
end Lw
end

section
/-! data that stands whatever is drawn -/
namespace Lw
open PySem L2
mutual
inductive Dq (K : PySem.W.Frag) (H : Hp) : V → PyData → Prop
  | non : Dq K H .non .none
  | bl (b : Bool) : Dq K H (.bl b) (.bool b)
  | int (i : Int) : Dq K H (.int i) (.int i)
  | str (x : Str) : Dq K H (.str x) (.str x)
  | lst {a : Addr} {xs : List V} {ds : List PyData} (h : SqL K H a xs) (n : ¬ RowSh (.lst xs)) (hz : xs.length ≤ 100000) (hs : DqAll K H xs ds) : Dq K H (.ref a) (.list ds)
  | tup {a : Addr} {xs : List V} {ds : List PyData} (h : SqT K H a xs) (hz : xs.length ≤ 100000) (hs : DqAll K H xs ds) : Dq K H (.ref a) (.tuple ds)
inductive DqAll (K : PySem.W.Frag) (H : Hp) : List V → List PyData → Prop
  | nil : DqAll K H [] []
  | cons {v : V} {vs : List V} {d : PyData} {ds : List PyData} (h : Dq K H v d) (hs : DqAll K H vs ds) : DqAll K H (v :: vs) (d :: ds)
end
section
variable {K : PySem.W.Frag} {H H1 : Hp}
mutual
theorem Dq.dp : ∀ (d : PyData) {v : V}, Dq K H v d → Dp K H v d
  | .none, _, .non => .non
  | .bool _, _, .bl b => .bl b
  | .int _, _, .int i => .int i
  | .str _, _, .str x => .str x
  | .list ds, _, .lst h n _ hs => .lst h (DqAll.dp ds hs)
  | .tuple ds, _, .tup h _ hs => .tup h (DqAll.dp ds hs)
theorem DqAll.dp : ∀ (ds : List PyData) {vs : List V}, DqAll K H vs ds → DpAll K H vs ds
  | [], _, .nil => .nil
  | d :: ds, _, .cons h hs => .cons (Dq.dp d h) (DqAll.dp ds hs)
end
mutual
theorem Dq.ext (e : Ext H H1) : ∀ (d : PyData) {v : V}, Dq K H v d → Dq K H1 v d
  | .none, _, .non => .non
  | .bool _, _, .bl b => .bl b
  | .int _, _, .int i => .int i
  | .str _, _, .str x => .str x
  | .list ds, _, .lst h n hz hs => .lst (e.seq n h) n hz (DqAll.ext e ds hs)
  | .tuple ds, _, .tup h hz hs => .tup (e.tup h) hz (DqAll.ext e ds hs)
theorem DqAll.ext (e : Ext H H1) : ∀ (ds : List PyData) {vs : List V}, DqAll K H vs ds → DqAll K H1 vs ds
  | [], _, .nil => .nil
  | d :: ds, _, .cons h hs => .cons (Dq.ext e d h) (DqAll.ext e ds hs)
end
theorem DqAll.len {vs : List V} {ds : List PyData} (h : DqAll K H vs ds) : vs.length = ds.length := by
  induction ds generalizing vs with
  | nil => cases h; rfl
  | cons d ds ih =>
    cases h with
    | cons h hs => simp [ih hs]
theorem DqAll.get {vs : List V} {ds : List PyData} {i : Nat} {d : PyData} (h : DqAll K H vs ds) (e : ds[i]? = some d) : ∃ v, vs[i]? = some v ∧ Dq K H v d := by
  induction ds generalizing vs i with
  | nil => simp at e
  | cons d' ds ih =>
    cases h with
    | cons h hs =>
      cases i with
      | zero =>
        simp at e
        subst e
        exact ⟨_, rfl, h⟩
      | succ i =>
        obtain ⟨v, h1, h2⟩ := ih hs (i := i) (by simpa using e)
        exact ⟨v, by simpa using h1, h2⟩
theorem dqAll_map {α : Type} {f : α → PyData} {v : α → V} (xs : List α) (h : ∀ x ∈ xs, Dq K H (v x) (f x)) : DqAll K H (xs.map v) (xs.map f) := by
  induction xs with
  | nil => exact .nil
  | cons x xs ih => exact .cons (h x List.mem_cons_self) (ih fun y hy => h y (List.mem_cons_of_mem _ hy))
theorem dq_bits {p : Addr} {ls : List (List Bool)} (h : SqL K H p (bvs ls)) (hz : ls.length ≤ 100000) : Dq K H (.ref p) (.list (ls.map db)) := .lst h (nsh_bvs _) (by rw [bvs_len]; exact hz) (dqAll_map ls fun x _ => .str _)
theorem dq_bv (l : List Bool) : Dq K H (.str (B l)) (db l) := .str _
theorem Dq.list_inv {v : V} {ds : List PyData} (h : Dq K H v (.list ds)) : ∃ a xs, v = .ref a ∧ SqL K H a xs ∧ ¬ RowSh (.lst xs) ∧ xs.length ≤ 100000 ∧ DqAll K H xs ds := by
  cases h with
  | lst h n hz hs => exact ⟨_, _, rfl, h, n, hz, hs⟩
theorem Dq.tup_inv {v : V} {ds : List PyData} (h : Dq K H v (.tuple ds)) : ∃ a xs, v = .ref a ∧ SqT K H a xs ∧ xs.length ≤ 100000 ∧ DqAll K H xs ds := by
  cases h with
  | tup h hz hs => exact ⟨_, _, rfl, h, hz, hs⟩
/-! ### isinstance of data -/
def tyNm : PyData → String
  | .none => "NoneType"
  | .bool _ => "bool"
  | .int _ => "int"
  | .str _ => "str"
  | .list _ => "list"
  | .tuple _ => "tuple"
  | .dict _ => "dict"
theorem tyx_sql {a : Addr} {xs : List V} (h : SqL K H a xs) : TyX K H (.ref a) (.type "list") := by
  rcases h with (h | ⟨o, h⟩) | ⟨o, its, n, h, hc, _⟩
  · exact .base (.lst h)
  · exact .base (.frz h)
  · exact .kList h hc
theorem tyx_sqt {a : Addr} {xs : List V} (h : SqT K H a xs) : TyX K H (.ref a) (.type "tuple") := by
  rcases h with (h | ⟨o, h⟩) | ⟨o, its, n, h, hc, _⟩
  · exact .base (.tup h)
  · exact .fTuple h
  · exact .kTuple h hc
theorem Dq.ty {v : V} {d : PyData} (h : Dq K H v d) : TyX K H v (.type (tyNm d)) := by
  cases h with
  | non => exact .base .non
  | bl b => exact .base (.bl b)
  | int i => exact .base (.int i)
  | str x => exact .base (.str x)
  | lst h n hz hs => exact tyx_sql h
  | tup h hz hs => exact tyx_sqt h
/-- an answer of isinstance for a class of these -/
def isiN (c t : String) : Bool := t == c || (t == "bool" && c == "int")
abbrev isiB (c : String) (d : PyData) : Bool := isiN c (tyNm d)
theorem isi_names {c t : String} (hc : c ∈ ["tuple", "list", "bool", "int", "str"]) (ht : t ∈ ["NoneType", "bool", "int", "str", "list", "tuple", "dict"]) : PySem.W.kitOne K (.type t) (.type c) = some (isiN c t) := by
  simp only [List.mem_cons, List.mem_nil_iff, or_false] at hc ht
  rcases hc with rfl | rfl | rfl | rfl | rfl <;> rcases ht with rfl | rfl | rfl | rfl | rfl | rfl | rfl <;> exact kit_ty (by decide +kernel)
theorem tyNm_mem (d : PyData) : tyNm d ∈ ["NoneType", "bool", "int", "str", "list", "tuple", "dict"] := by
  cases d <;> simp [tyNm]
theorem isi_kit {c : String} (hc : c ∈ ["tuple", "list", "bool", "int", "str"]) (d : PyData) : PySem.W.kitOne K (.type (tyNm d)) (.type c) = some (isiB c d) := isi_names hc (tyNm_mem d)
theorem w_isi {Q : VK} {v : V} {d : PyData} {c : String} (h : Dq K H v d) (k : Q (.bl (isiB c d)) H) (hc : c ∈ ["tuple", "list", "bool", "int", "str"] := by decide) : rIsi K [v, .ty c] H Q :=
  ⟨v, .ty c, _, _, _, rfl, .ty c, h.ty, isi_kit hc d, k⟩
theorem w_isi2 {Q : VK} {v : V} {d : PyData} {c1 c2 : String} {p : Addr} (h : Dq K H v d) (hp : H p = some (.tup [.ty c1, .ty c2])) (k : Q (.bl (isiB c1 d || isiB c2 d)) H) (hc : c1 ∈ ["tuple", "list", "bool", "int", "str"] := by decide) (hc2 : c2 ∈ ["tuple", "list", "bool", "int", "str"] := by decide) :
    rIsiT K [v, .ref p] H Q := by
  have ka : PySem.W.kitAny K (.type (tyNm d)) [.type c1, .type c2] = some (isiB c1 d || isiB c2 d) := by
    refine kitAny_cons (isi_kit hc d) (fun h => ?_) fun h => by rw [h]; rfl
    rw [h, Bool.false_or]
    exact kitAny_cons (isi_kit hc2 d) (fun h2 => by rw [h2]; exact kitAny_nil) fun h2 => h2
  exact ⟨v, p, _, _, _, _, rfl, hp, .cons (.ty c1) (.cons (.ty c2) .nil), h.ty, ka, k⟩
end
end Lw
end

section
open PySem L2 Lw
local macro_rules | `(tactic| tm_at "s") => `(tactic| first
  | with_reducible refine w_seq ?_ | with_reducible refine w_asg ?_ | with_reducible refine w_gname ?_ | with_reducible refine w_ret ?_ | with_reducible refine w_drop ?_ | with_reducible refine w_ifS ?_ | with_reducible refine w_next ?_ | with_reducible refine w_retN ?_
  | with_reducible refine w_c ?_ | ((with_reducible refine w_var (v := ?vv) ?hh ?kk); (case hh => exact rfl)) | with_reducible refine w_op ?_ | with_reducible refine w_un ?_ | with_reducible refine w_cons ?_ | with_reducible refine w_nil ?_ | with_reducible refine w_test ?_ | with_reducible refine w_B ?_
  | with_reducible refine w_isbl ?_ | with_reducible refine w_not ?_ | with_reducible refine w_and ?_ | with_reducible refine w_or ?_ | with_reducible refine w_andV ?_ | with_reducible refine w_orV ?_ | with_reducible refine w_notV ?_ | with_reducible refine w_if ?_ | with_reducible refine w_chain ?_
  | with_reducible refine w_isN ?_ | with_reducible refine w_notN ?_ | with_reducible refine w_yes ?_ | with_reducible refine w_call ?_ | with_reducible refine w_CB ?_ | with_reducible refine w_tup ?_ | with_reducible refine w_lst ?_ | with_reducible refine w_sl ?_ | with_reducible refine w_noPart ?_
  | with_reducible refine w_part ?_ | with_reducible refine w_isint ?_ | with_reducible refine w_gSub ?_ | with_reducible refine w_break ?_ | with_reducible refine w_cont ?_
  | with_reducible refine w_I0 ?_ | with_reducible refine w_eqI ?_ | with_reducible refine w_neI ?_ | with_reducible refine w_eqS ?_ | with_reducible refine w_neS ?_ | with_reducible refine w_eqB ?_ | with_reducible refine w_neB ?_ | ((with_reducible refine w_isi (d := ?dd) ?hh ?kk); (case hh => assumption))
  | with_reducible refine w_sg ?_ | with_reducible refine w_notSg ?_ | with_reducible refine w_starts ?_ | with_reducible refine w_max2 ?_ | with_reducible refine w_min2 ?_ | with_reducible refine w_intB ?_ | with_reducible refine w_intI ?_ | with_reducible refine w_bm ?_ | with_reducible refine w_bm0 ?_ | with_reducible refine w_m1 ?_ | with_reducible refine w_m0 ?_ | with_reducible refine w_isstr ?_
  | with_reducible refine w_for ?_ | with_reducible refine w_lc ?_ | with_reducible refine w_rng ?_ | with_reducible refine w_rng2 ?_ | with_reducible refine w_ilist ?_ | with_reducible refine w_itup ?_ | with_reducible refine w_istr ?_ | with_reducible refine w_strOk ?_
  | ((with_reducible refine w_rngOk ?hh ?h2 ?kk); (case hh => omega); (case h2 => omega)) | ((with_reducible refine w_lstOk (xs := ?xx) ?hh ?kk); (case hh => assumption))
  | ((with_reducible refine w_alL ?hh ?kk); (case hh => exact Nat.le_of_ble_eq_true rfl)) | ((with_reducible refine w_alT ?hh ?kk); (case hh => exact Nat.le_of_ble_eq_true rfl))
  | ((with_reducible refine w_lenL (xs := ?xx) ?hh ?kk); (case hh => assumption)) | ((with_reducible refine w_lenT (xs := ?xx) ?hh ?kk); (case hh => assumption))
  | ((with_reducible refine w_I ?hh ?kk); (case hh => first | (show _ ≠ (0 : Int); omega) | (show (0 : Int) < _; omega) | exact ⟨by omega, by omega⟩ | exact .inl ⟨by omega, by omega⟩ | exact .inr ⟨by omega, by omega⟩ | exact ⟨by decide, by decide, by decide⟩))
  | with_reducible refine w_din ?_ | with_reducible refine w_dnot ?_ | with_reducible refine w_dget ?_ | with_reducible refine w_dput ?_ | with_reducible refine w_fld ?_ | with_reducible refine w_sto ?_ | with_reducible refine w_meth ?_ | with_reducible refine w_pop1 ?_ | with_reducible refine w_pop2 ?_ | with_reducible refine w_ikeys ?_
  | ((with_reducible refine f_width (CW := ?v1) (dx := ?v2) (t := ?v3) (l := ?v4) (w := ?v5) (told := ?v6) (many := ?v7) ?tw ?hh ?kk); (case tw => assumption); (case hh => assumption))
  | ((with_reducible refine f_things (CW := ?v1) (dx := ?v2) (t := ?v3) (l := ?v4) (w := ?v5) (told := ?v6) (many := ?v7) ?tw ?hh ?kk); (case tw => assumption); (case hh => assumption))
  | ((with_reducible refine f_listening (CW := ?v1) (dx := ?v2) (t := ?v3) (l := ?v4) (w := ?v5) (told := ?v6) (many := ?v7) ?tw ?hh ?kk); (case tw => assumption); (case hh => assumption))
  | ((with_reducible refine f_tolds (CW := ?v1) (dx := ?v2) (t := ?v3) (l := ?v4) (w := ?v5) (b := ?v6) (many := ?v7) ?tw ?hh ?kk); (case tw => assumption); (case hh => assumption))
  | ((with_reducible refine f_told (CW := ?v1) (dx := ?v2) (t := ?v3) (l := ?v4) (w := ?v5) (told := ?v6) (many := ?v7) ?tw ?hh ?kk); (case tw => assumption); (case hh => assumption))
  | ((with_reducible refine f_many (CW := ?v1) (dx := ?v2) (t := ?v3) (l := ?v4) (w := ?v5) (told := ?v6) (many := ?v7) ?tw ?hh ?kk); (case tw => assumption); (case hh => assumption))
  | ((with_reducible refine w_ixL (v := ?vv) (xs := ?xx) ?hh ?h2 ?kk); (case hh => assumption); (case h2 => exact rfl)) | ((with_reducible refine w_ixT (v := ?vv) (xs := ?xx) ?hh ?h2 ?kk); (case hh => assumption); (case h2 => exact rfl)))
local macro_rules | `(tactic| tm_at "r") => `(tactic| repeat tm_at "s")
local macro_rules | `(tactic| tm_at "b") => `(tactic| first | refine w_iteT (by with_reducible rfl) ?_ | refine w_iteF (by with_reducible rfl) ?_ | refine w_iteT (by rfl) ?_ | refine w_iteF (by rfl) ?_)
local macro_rules | `(tactic| tm_at "e") => `(tactic| repeat (first | tm_at "s" | tm_at "b"))
namespace My
open PySem L2 Lw
def top (i : Nat) : Stmt := PySem.Challenge.pw_busfind_k02_wires_deed_by_deed.main.body.getD i (.Pass ⟨0, 0, 0, 0⟩)
structure TxB (mg : Str → Option Value) : Prop where
  n_len : mg "len" = none
  n_range : mg "range" = none
  n_int : mg "int" = none
  n_bool : mg "bool" = none
  n_str : mg "str" = none
  n_tuple : mg "tuple" = none
  n_list : mg "list" = none
  n_set : mg "set" = none
  n_sorted : mg "sorted" = none
  n_max : mg "max" = none
  n_min : mg "min" = none
  n_isinstance : mg "isinstance" = none
  n_enumerate : mg "enumerate" = none
  n_ValueError : mg "ValueError" = none
abbrev s_law_taken : Stmt := top 29
theorem sc_law_taken : FnScope ["_law_row", "_law_many", "_law_found", "_law_cell"] ["_law_row", "_law_many"] (defScope s_law_taken) := ⟨rfl, rfl, rfl, by decide +kernel, rfl, by decide +kernel, by decide +kernel⟩
/-- a draw: some int from 0 up to many; the row goes on -/
def sp_taken (K : PySem.W.Frag) : Sp := fun vs H Q _ => ∃ (r : Addr) (many : Int), vs = [.ref r, .int many] ∧ RowOk K H r ∧ 0 < many ∧ many < 1073741824 ∧ ∀ (x : Int) (H' : Hp), 0 ≤ x → x < many → Ext H H' → Q (.int x) H'
section
variable {P : Program} {w : World} {K : PySem.W.Frag} {mg : Str → Option Value} {base : Heap}
theorem ok_taken {f : Addr} {fd : FuncData} (F : Fun K "_law_taken" "_law_taken" s_law_taken f fd) (T : TxB mg) : FnOk P w K mg base (L2.CX P w) 1 f fd ["_law_row", "_law_many"] (sp_taken K) := by
  refine F.okX sc_law_taken (fun vs H Q E h => ?_) (fun cdv A outer s H vs Q E hr h => ⟨_, (pss_cons (ps_if (pt_cmpR op_gt (pe_ix (ixL (K := K) rfl) (pv 0) pe_int (fun _ _ => rfl)) pe_int (nomark _))
 (pss_cons (ps_set (i := 2) sc_law_taken.nd rfl (by first | exact Or.inl rfl | exact Or.inr rfl) (pe_op op_modN (pe_ix (ixL (K := K) rfl) (pv 0) pe_int (fun _ _ => rfl)) (pv 1)))
 (pss_cons (ps_asg (pe_op op_fdivN (pe_ix (ixL (K := K) rfl) (pv 0) pe_int (fun _ _ => rfl)) (pv 1)) (pg_sub (pv 0) pe_int set_list))
 (pss_one (ps_ret (pv 2)))))
 pss_nil)
 (pss_cons (ps_asg (pe_op op_add (pe_ix (ixL (K := K) rfl) (pv 0) pe_int (fun _ _ => rfl)) pe_int) (pg_sub (pv 0) pe_int set_list))
 (pss_cons (ps_if (pt_cmpR op_gt (pe_ix (ixL (K := K) rfl) (pv 0) pe_int (fun _ _ => rfl)) (pe_callB (cLen (K := K) rfl) (by rfl) T.n_len (by decide +kernel) (pa_cons (pe_ix (ixL (K := K) rfl) (pv 0) pe_int (fun _ _ => rfl)) pa_nil)) (nomark _))
 (pss_cons (ps_asg (pe_op op_mod (pe_op op_add (pe_op op_mul (pe_ix (ixL (K := K) rfl) (pv 0) pe_int (fun _ _ => rfl)) pe_int) pe_int) pe_int) (pg_sub (pv 0) pe_int set_list))
 (pss_one (ps_ret (pe_op op_modN (pe_op op_fdiv (pe_ix (ixL (K := K) rfl) (pv 0) pe_int (fun _ _ => rfl)) pe_int) (pv 1)))))
 pss_nil)
 (pss_cons (ps_set (i := 3) sc_law_taken.nd rfl (by first | exact Or.inl rfl | exact Or.inr rfl) (pe_ix (ixL (K := K) rfl) (pe_ix (ixL (K := K) rfl) (pv 0) pe_int (fun _ _ => rfl)) (pe_op op_sub (pe_ix (ixL (K := K) rfl) (pv 0) pe_int (fun _ _ => rfl)) pe_int) (fun _ _ => rfl)))
 (pss_cons (ps_asg (pe_op op_mod (pe_op op_add (pe_op op_add (pe_op op_mul (pe_ix (ixL (K := K) rfl) (pv 0) pe_int (fun _ _ => rfl)) pe_int) (pv 3)) pe_int) pe_int) (pg_sub (pv 0) pe_int set_list))
 (pss_cons (ps_if (pt_cmpR op_ge (pv 3) (pe_op op_pow pe_int pe_int) (nomark _))
 (pss_one (ps_asg (pe_op op_fdivN (pv 3) (pv 1)) (pg_sub (pv 0) pe_int set_list)))
 pss_nil)
 (pss_one (ps_ret (pe_op op_modN (pv 3) (pv 1)))))))))), ?_⟩)
  · obtain ⟨r, many, rfl, _⟩ := h
    rfl
  · obtain ⟨r, many, rfl, ⟨a, i, m, z, ns, h0, hi, hs⟩, hm, hm2, k⟩ := h
    have hs := hs.sq
    have hR : SqL K H r [.ref a, .int i, .int m, .int z] := SqL.of h0
    have hR : SqL K H r [.ref a, .int i, .int m, .int z] := SqL.of h0
    tm_at "r"
    refine w_iteD (fun c => ?_) fun c => ?_
    · tm_at "r"
      refine w_row3 h0 hi fun H1 h1 e1 => ?_
      tm_at "r"
      exact k _ _ (Int.fmod_nonneg_of_pos _ hm) (Int.fmod_lt_of_pos _ hm) e1
    · tm_at "r"
      refine w_row1 h0 (by omega) fun H1 h1 e1 => ?_
      have hR1 : SqL K H1 r _ := SqL.of h1
      have hs1 : SqL K H1 a (ns.map V.int) := e1.seq (nsh_ints ns) hs
      tm_at "r"
      refine w_iteD (fun c2 => ?_) fun c2 => ?_
      · tm_at "r"
        refine w_row2 h1 (by omega) fun H2 h2 e2 => ?_
        have hR2 : SqL K H2 r _ := SqL.of h2
        tm_at "r"
        exact k _ _ (Int.fmod_nonneg_of_pos _ hm) (Int.fmod_lt_of_pos _ hm) (e1.trans e2)
      · tm_at "r"
        rw [List.length_map] at c2
        obtain ⟨y, hy1, hy2⟩ := atI_in ns (i := i + 1 - 1) (by omega) (by omega)
        refine w_ixL (v := .int y) hs1 (atI_int (by omega) (by rw [List.getElem?_map, hy2]; rfl)) ?_
        tm_at "r"
        refine w_row2 h1 (by omega) fun H2 h2 e2 => ?_
        have hR2 : SqL K H2 r _ := SqL.of h2
        tm_at "r"
        refine w_iteD (fun c3 => ?_) fun c3 => ?_
        · tm_at "r"
          refine w_row3 h2 (by omega) fun H3 h3 e3 => ?_
          tm_at "r"
          exact k _ _ (Int.fmod_nonneg_of_pos _ hm) (Int.fmod_lt_of_pos _ hm) ((e1.trans e2).trans e3)
        · tm_at "r"
          exact k _ _ (Int.fmod_nonneg_of_pos _ hm) (Int.fmod_lt_of_pos _ hm) (e1.trans e2)
end
end My
namespace My
abbrev s_law_number : Stmt := top 32
theorem sc_law_number : FnScope ["_law_row", "_law_width_here", "_law_k"] ["_law_row", "_law_width_here"] (defScope s_law_number) := ⟨rfl, rfl, rfl, by decide +kernel, rfl, by decide +kernel, by decide +kernel⟩
abbrev s_law_width : Stmt := top 35
theorem sc_law_width : FnScope ["_law_row"] ["_law_row"] (defScope s_law_width) := ⟨rfl, rfl, rfl, by decide +kernel, rfl, by decide +kernel, by decide +kernel⟩
abbrev s_law_near : Stmt := top 33
theorem sc_law_near : FnScope ["_law_row", "_law_width_here", "_law_some", "_law_number_here", "_law_many"] ["_law_row", "_law_width_here", "_law_some"] (defScope s_law_near) := ⟨rfl, rfl, rfl, by decide +kernel, rfl, by decide +kernel, by decide +kernel⟩
theorem u_taken {K : PySem.W.Frag} {H : Hp} {Q : VK} {E : XK} {r : Addr} {many : Int} (h : RowOk K H r) (h1 : 0 < many) (h2 : many < 1073741824) (k : ∀ (x : Int) (H' : Hp), 0 ≤ x → x < many → Ext H H' → Q (.int x) H') :
    sp_taken K ([.ref r, .int many] ++ []) H Q E := ⟨r, many, rfl, h, h1, h2, k⟩
/-- a number: some signs -/
def sp_number (K : PySem.W.Frag) : Sp := fun vs H Q _ => ∃ (r : Addr) (n : Int), vs = [.ref r, .int n] ∧ RowOk K H r ∧ 0 ≤ n ∧ n ≤ 1000 ∧ ∀ (l : List Bool) (H' : Hp), (l.length : Int) = n → Ext H H' → Q (.str (B l)) H'
theorem u_number {K : PySem.W.Frag} {H : Hp} {Q : VK} {E : XK} {r : Addr} {n : Int} (h : RowOk K H r) (h1 : 0 ≤ n) (h2 : n ≤ 1000) (k : ∀ (l : List Bool) (H' : Hp), (l.length : Int) = n → Ext H H' → Q (.str (B l)) H') :
    sp_number K ([.ref r, .int n] ++ []) H Q E := ⟨r, n, rfl, h, h1, h2, k⟩
def sp_width (K : PySem.W.Frag) : Sp := fun vs H Q _ => ∃ (r : Addr), vs = [.ref r] ∧ RowOk K H r ∧ ∀ (w : Nat) (H' : Hp), 1 ≤ w → w ≤ 12 → Ext H H' → Q (.int (w : Int)) H'
theorem u_width {K : PySem.W.Frag} {H : Hp} {Q : VK} {E : XK} {r : Addr} (h : RowOk K H r) (k : ∀ (w : Nat) (H' : Hp), 1 ≤ w → w ≤ 12 → Ext H H' → Q (.int (w : Int)) H') :
    sp_width K ([.ref r] ++ []) H Q E := ⟨r, rfl, h, k⟩
section
variable {P : Program} {w : World} {K : PySem.W.Frag} {mg : Str → Option Value} {base : Heap}
theorem ok_number {f : Addr} {fd : FuncData} (F : Fun K "_law_number" "_law_number" s_law_number f fd) (T : TxB mg) (C_law_taken : Cal P w K mg base 1 "_law_taken" ["_law_row", "_law_many"] (sp_taken K)) : FnOk P w K mg base (L2.CX P w) 2 f fd ["_law_row", "_law_width_here"] (sp_number K) := by
  refine F.okX sc_law_number (fun vs H Q E h => ?_) (fun cdv A outer s H vs Q E hr h => ⟨_, (pss_one (ps_ret (pe_m1 PySem.F.slot_str_join PySem.F.type_str_join (mJoin (K := K) rfl) pe_str (pe_lc (own := [("_law_k", 2)]) (g := gName 2) (tt := tYes) rfl sc_law_number.nd (pi_range1 rfl T.n_range (pa_cons (pv 1) pa_nil)) (blkOk_by (own := [("_law_k", 2)]) (N := ["_law_row", "_law_width_here", "_law_k"]) (sc := defScope s_law_number) (by decide +kernel)) (fun _ _ _ _ _ => pg_name (i := 2) sc_law_number.nd rfl (Or.inl rfl)) (fun _ _ _ _ _ => pts_nil) (fun _ _ _ _ _ => (pe_ix ix_str pe_str (pe_cal (E := E0) C_law_taken (hr.mono (by first | decide | omega)) passL (pa_cons (pv 0) (pa_cons pe_int pa_nil))) (fun _ _ => rfl))))))), ?_⟩)
  · obtain ⟨r, many, rfl, _⟩ := h
    rfl
  · obtain ⟨r, n, rfl, hrow, hn, hn2, k⟩ := h
    tm_at "r"
    refine lcN src_rng (fun i acc => ∃ bs : List Bool, bs.length = i ∧ acc = bvs (bs.map fun b => [b])) ⟨[], rfl, rfl⟩ (fun i acc ⟨bs, _, e⟩ => by rw [e]; exact nsh_bvs _) (by omega) (fun _ => rfl) (fun i x acc H' NE hi hx ha e kE => ?_) fun p acc H' ha hp e hpa hl => ?_
    · subst hx
      obtain ⟨bs, hb, rfl⟩ := ha
      have hrow := e.rowOk hrow
      tm_at "r"
      refine u_taken hrow (by omega) (by omega) fun x H2 h0 h1 e2 => ?_
      obtain ⟨b, hb2⟩ : ∃ b : Bool, atI [false, true] x = some b := (atI_in [false, true] h0 h1).imp fun b h => h.1
      refine w_ixS (c := bc b) (by decide) (by rw [B_01]; exact B_at hb2) ?_
      exact kE _ _ e2 ⟨bs ++ [b], by simp [hb], by simp [bvs, bv]; rfl⟩
    · obtain ⟨bs, hb, rfl⟩ := ha
      tm_at "r"
      refine ⟨_, p, (bs.map fun b => [b]).map B, rfl, rfl, .inl (by rw [← bvs_strs]; exact SqL.of hpa), ?_, ?_⟩
      · have e1 : (((bs.map fun b => [b]).map B).map (·.length)).sum = bs.length := by
          clear hb hpa hl
          induction bs with
          | nil => rfl
          | cons b bs ih => simp only [List.map_cons, List.sum_cons, ih, B_len, List.length_cons, List.length_nil]; omega
        rw [e1, B_nil, B_len]
        simp
        omega
      · rw [B_nil, join_signs]
        exact k bs H' (by omega) e
theorem ok_width {f : Addr} {fd : FuncData} (F : Fun K "_law_width" "_law_width" s_law_width f fd) (T : TxB mg) (C_law_taken : Cal P w K mg base 1 "_law_taken" ["_law_row", "_law_many"] (sp_taken K)) : FnOk P w K mg base (L2.CX P w) 2 f fd ["_law_row"] (sp_width K) := by
  refine F.okX sc_law_width (fun vs H Q E h => ?_) (fun cdv A outer s H vs Q E hr h => ⟨_, (pss_one (ps_ret (pe_op op_add pe_int (pe_cal (E := E0) C_law_taken (hr.mono (by first | decide | omega)) passL (pa_cons (pv 0) (pa_cons (pe_ix (ixL (K := K) rfl) (pe_lst (pa_cons pe_int (pa_cons pe_int (pa_cons pe_int pa_nil)))) (pe_cal (E := E0) C_law_taken (hr.mono (by first | decide | omega)) passL (pa_cons (pv 0) (pa_cons pe_int pa_nil))) (fun _ _ => rfl)) pa_nil)))))), ?_⟩)
  · obtain ⟨r, rfl, _⟩ := h
    rfl
  · obtain ⟨r, rfl, hrow, k⟩ := h
    tm_at "r"
    intro p H1 hp e1 hp1
    have hrow := e1.rowOk hrow
    tm_at "r"
    refine u_taken hrow (by omega) (by omega) fun x H2 h0 h1 e2 => ?_
    have hrow := e2.rowOk hrow
    obtain ⟨y, hy, hy2⟩ := atI_in [(4 : Int), 7, 12] h0 h1
    have hyb : 1 ≤ y ∧ y ≤ 12 := by
      have := List.mem_of_getElem? hy2
      simp at this
      omega
    refine w_ixL (v := .int y) (xs := [(4 : Int), 7, 12].map V.int) (e2.seq (nsh_ints _) (SqL.of hp1)) (atI_int h0 (by rw [List.getElem?_map, hy2]; rfl)) ?_
    tm_at "r"
    refine u_taken hrow (by omega) (by omega) fun x3 H3 h30 h31 e3 => ?_
    tm_at "r"
    have e : (1 + x3 : Int) = ((1 + x3).toNat : Int) := by omega
    rw [e]
    exact k _ _ (by omega) (by omega) ((e1.trans e2).trans e3)
end
end My
namespace My
abbrev s_law_things : Stmt := top 34
theorem sc_law_things : FnScope ["_law_row", "_law_width_here", "_law_most", "_law_found", "_law_base", "_law_k", "_law_number_here"] ["_law_row", "_law_width_here", "_law_most"] (defScope s_law_things) := ⟨rfl, rfl, rfl, by decide +kernel, rfl, by decide +kernel, by decide +kernel⟩
/-- a number near some -/
def sp_near (K : PySem.W.Frag) : Sp := fun vs H Q _ => ∃ (r p : Addr) (w : Nat) (ls : List (List Bool)), vs = [.ref r, .int (w : Int), .ref p] ∧ RowOk K H r ∧ w ≤ 1000 ∧ SqL K H p (bvs ls) ∧ (∀ l ∈ ls, l.length = w) ∧ ls.length ≤ 1000 ∧ ∀ (l : List Bool) (H' : Hp), l.length = w → Ext H H' → Q (.str (B l)) H'
theorem u_near {K : PySem.W.Frag} {H : Hp} {Q : VK} {E : XK} {r p : Addr} {w : Nat} {ls : List (List Bool)} (h : RowOk K H r) (h1 : w ≤ 1000) (h2 : SqL K H p (bvs ls)) (h3 : ∀ l ∈ ls, l.length = w) (h4 : ls.length ≤ 1000) (k : ∀ (l : List Bool) (H' : Hp), l.length = w → Ext H H' → Q (.str (B l)) H') :
    sp_near K ([.ref r, .int (w : Int), .ref p] ++ []) H Q E := ⟨r, p, w, ls, rfl, h, h1, h2, h3, h4, k⟩
/-- some unlike numbers, rising -/
def sp_things (K : PySem.W.Frag) : Sp := fun vs H Q _ => ∃ (r : Addr) (w most : Nat), vs = [.ref r, .int (w : Int), .int (most : Int)] ∧ RowOk K H r ∧ 1 ≤ w ∧ w ≤ 12 ∧ most ≤ 40 ∧
  ∀ (p : Addr) (ls : List (List Bool)) (H' : Hp), H p = none → Ext H H' → H' p = some (.lst (bvs ls)) → Rise ls → (∀ l ∈ ls, l.length = w) → ls.length ≤ 40 → (most ≤ 11 → ls.length ≤ most) → Q (.ref p) H'
theorem u_things {K : PySem.W.Frag} {H : Hp} {Q : VK} {E : XK} {r : Addr} {w most : Nat} (h : RowOk K H r) (h1 : 1 ≤ w) (h2 : w ≤ 12) (h3 : most ≤ 40)
    (k : ∀ (p : Addr) (ls : List (List Bool)) (H' : Hp), H p = none → Ext H H' → H' p = some (.lst (bvs ls)) → Rise ls → (∀ l ∈ ls, l.length = w) → ls.length ≤ 40 → (most ≤ 11 → ls.length ≤ most) → Q (.ref p) H') :
    sp_things K ([.ref r, .int (w : Int), .int (most : Int)] ++ []) H Q E := ⟨r, w, most, rfl, h, h1, h2, h3, k⟩
section
variable {P : Program} {w : World} {K : PySem.W.Frag} {mg : Str → Option Value} {base : Heap}
theorem ok_near {f : Addr} {fd : FuncData} (F : Fun K "_law_near" "_law_near" s_law_near f fd) (T : TxB mg) (C_law_taken : Cal P w K mg base 1 "_law_taken" ["_law_row", "_law_many"] (sp_taken K)) (C_law_number : Cal P w K mg base 2 "_law_number" ["_law_row", "_law_width_here"] (sp_number K)) :
    FnOk P w K mg base (L2.CX P w) 3 f fd ["_law_row", "_law_width_here", "_law_some"] (sp_near K) := by
  refine F.okX sc_law_near (fun vs H Q E h => ?_) (fun cdv A outer s H vs Q E hr h => ⟨_, (pss_cons (ps_set (i := 3) sc_law_near.nd rfl (by first | exact Or.inl rfl | exact Or.inr rfl) (pe_cal (E := E0) C_law_number (hr.mono (by first | decide | omega)) passL (pa_cons (pv 0) (pa_cons (pv 1) pa_nil))))
 (pss_cons (ps_if (PW.pt (pw_or (pt_cmpR (oEqD (K := K) rfl hr.units) (pv 2) (pe_lst pa_nil) (nomark _)) (pw_or1 (pt_cmpR op_eq (pe_cal (E := E0) C_law_taken (hr.mono (by first | decide | omega)) passL (pa_cons (pv 0) (pa_cons pe_int pa_nil))) pe_int (nomark _)))))
 (pss_one (ps_ret (pv 3)))
 pss_nil)
 (pss_cons (ps_set (i := 4) sc_law_near.nd rfl (by first | exact Or.inl rfl | exact Or.inr rfl) (pe_cal (E := E0) C_law_taken (hr.mono (by first | decide | omega)) passL (pa_cons (pv 0) (pa_cons (pe_op op_add (pv 1) pe_int) pa_nil))))
 (pss_one (ps_ret (pe_op o_addS (pe_slice sl_str (pe_ix (ixL (K := K) rfl) (pv 2) (pe_cal (E := E0) C_law_taken (hr.mono (by first | decide | omega)) passL (pa_cons (pv 0) (pa_cons (pe_callB (cLen (K := K) rfl) (by rfl) T.n_len (by decide +kernel) (pa_cons (pv 2) pa_nil)) pa_nil))) (fun _ _ => rfl)) po_none (po_some (pv 4))) (pe_slice sl_str (pv 3) (po_some (pv 4)) po_none))))))), ?_⟩)
  · obtain ⟨r, p, w, ls, rfl, _⟩ := h
    rfl
  · obtain ⟨r, p, w, ls, rfl, hrow, hw, hp, hl, hl2, k⟩ := h
    tm_at "r"
    refine u_number hrow (by omega) (by omega) fun num H1 hnum e1 => ?_
    have hrow := e1.rowOk hrow
    have hp := e1.seq (nsh_bvs _) hp
    tm_at "r"
    intro q H2 hq e2 hq2
    have hp := e2.seq (nsh_bvs _) hp
    have hrow := e2.rowOk hrow
    refine w_eqLs (ms := []) hp (SqL.of hq2) ?_
    tm_at "r"
    refine w_iteD (fun c => ?_) fun c => ?_
    · refine w_iteT rfl ?_
      tm_at "r"
      exact k num _ (by omega) (e1.trans e2)
    · tm_at "r"
      refine u_taken hrow (by omega) (by omega) fun x H3 hx0 hx1 e3 => ?_
      have hp := e3.seq (nsh_bvs _) hp
      have hrow := e3.rowOk hrow
      tm_at "r"
      refine w_iteD (fun c2 => ?_) fun c2 => ?_
      · tm_at "r"
        exact k num _ (by omega) ((e1.trans e2).trans e3)
      · tm_at "r"
        refine u_taken hrow (by omega) (by omega) fun many H4 hm0 hm1 e4 => ?_
        have hp := e4.seq (nsh_bvs _) hp
        have hrow := e4.rowOk hrow
        tm_at "r"
        have hpos : 0 < ls.length := List.length_pos_iff.mpr c
        refine u_taken hrow (by rw [bvs_len]; omega) (by rw [bvs_len]; omega) fun y H5 hy0 hy1 e5 => ?_
        have hp := e5.seq (nsh_bvs _) hp
        rw [bvs_len] at hy1
        obtain ⟨l, hl0, hl1⟩ := atI_in ls hy0 hy1
        have hlw := hl l (List.mem_of_getElem? hl1)
        refine w_ixL hp (bvs_atI hl0) ?_
        tm_at "r"
        obtain ⟨m, rfl⟩ : ∃ m : Nat, many = (m : Int) := ⟨many.toNat, by omega⟩
        refine w_slS (by rw [B_len]; omega) ?_
        tm_at "r"
        refine w_slS (by rw [B_len]; omega) ?_
        rw [cutS_to, cutS_from]
        refine w_addS (by rw [B_len, B_len, List.length_take, List.length_drop]; omega) ?_
        rw [B_app]
        exact k _ _ (by rw [List.length_append, List.length_take, List.length_drop]; omega) ((((e1.trans e2).trans e3).trans e4).trans e5)
theorem ok_things {f : Addr} {fd : FuncData} (F : Fun K "_law_things" "_law_things" s_law_things f fd) (T : TxB mg) (C_law_taken : Cal P w K mg base 1 "_law_taken" ["_law_row", "_law_many"] (sp_taken K)) (C_law_number : Cal P w K mg base 2 "_law_number" ["_law_row", "_law_width_here"] (sp_number K))
    (C_law_near : Cal P w K mg base 3 "_law_near" ["_law_row", "_law_width_here", "_law_some"] (sp_near K)) : FnOk P w K mg base (L2.CX P w) 4 f fd ["_law_row", "_law_width_here", "_law_most"] (sp_things K) := by
  refine F.okX sc_law_things (fun vs H Q E h => ?_) (fun cdv A outer s H vs Q E hr h => ⟨_, (pss_cons (ps_set (i := 3) sc_law_things.nd rfl (by first | exact Or.inl rfl | exact Or.inr rfl) (pe_lst pa_nil))
 (C8.pss_cut (ps_if (PW.pt (pw_and (pt_cmpR op_gt (pv 2) pe_int (nomark _)) (pw_and1 (pt_cmpR op_eq (pe_cal (E := E0) C_law_taken (hr.mono (by first | decide | omega)) passL (pa_cons (pv 0) (pa_cons pe_int pa_nil))) pe_int (nomark _)))))
 (pss_cons (ps_set (i := 4) sc_law_things.nd rfl (by first | exact Or.inl rfl | exact Or.inr rfl) (pe_ix (ixL (K := K) rfl) (pe_lst (pa_cons (pe_cal (E := E0) C_law_number (hr.mono (by first | decide | omega)) passL (pa_cons (pv 0) (pa_cons (pv 1) pa_nil))) (pa_cons (pe_op op_repS pe_str (pv 1)) pa_nil))) (pe_cal (E := E0) C_law_taken (hr.mono (by first | decide | omega)) passL (pa_cons (pv 0) (pa_cons pe_int pa_nil))) (fun _ _ => rfl)))
 (pss_cons (ps_for (passes_of rfl) rfl (pi_range1 rfl T.n_range (pa_cons (pv 1) pa_nil)) (pg_name (i := 5) sc_law_things.nd rfl (by first | exact Or.inl rfl | exact Or.inr rfl))
 (pss_one (ps_expr (pBm (K := K) rfl PySem.F.plainAttrs_list PySem.F.slot_list_append PySem.F.type_list_append mt_append (pv 3) (pa_cons (pe_op o_addS (pe_op o_addS (pe_slice sl_str (pv 4) po_none (po_some (pv 5))) (pe_ix ix_str pe_str (pe_callTy c_intS (by rfl) T.n_int (by decide +kernel) (pa_cons (pe_ix ix_str (pv 4) (pv 5) (fun _ _ => rfl)) pa_nil)) (fun _ _ => rfl))) (pe_slice sl_str (pe_cal (E := E0) C_law_number (hr.mono (by first | decide | omega)) passL (pa_cons (pv 0) (pa_cons (pv 1) pa_nil))) (po_some (pe_op op_add (pv 5) pe_int)) po_none)) pa_nil)))))
 (pss_one (ps_ret (pe_callB (cSortS (K := K) rfl) (by rfl) T.n_sorted (by decide +kernel) (pa_cons (pe_op op_cat (pe_slice (slL (K := K) rfl) (pv 3) po_none (po_some (pe_callB (c_max2 rfl) (by rfl) T.n_max (by decide +kernel) (pa_cons (pe_op op_sub (pv 1) (pe_cal (E := E0) C_law_taken (hr.mono (by first | decide | omega)) passL (pa_cons (pv 0) (pa_cons pe_int pa_nil)))) (pa_cons (pe_cal (E := E0) C_law_taken (hr.mono (by first | decide | omega)) passL (pa_cons (pv 0) (pa_cons (pe_op op_add (pv 1) pe_int) pa_nil))) pa_nil))))) (pe_lst (pa_cons (pv 4) pa_nil))) pa_nil))))))
 pss_nil)
 (pss_cons (ps_for (passes_of rfl) rfl (pi_range1 rfl T.n_range (pa_cons (pe_cal (E := E0) C_law_taken (hr.mono (by first | decide | omega)) passL (pa_cons (pv 0) (pa_cons (pe_op op_add (pv 2) pe_int) pa_nil))) pa_nil)) (pg_name (i := 5) sc_law_things.nd rfl (by first | exact Or.inl rfl | exact Or.inr rfl))
 (pss_cons (ps_set (i := 6) sc_law_things.nd rfl (by first | exact Or.inl rfl | exact Or.inr rfl) (pe_cal (E := E0) C_law_near (hr.mono (by first | decide | omega)) passL (pa_cons (pv 0) (pa_cons (pv 1) (pa_cons (pv 3) pa_nil)))))
 (pss_one (ps_if (pt_cmpR (oNotIn (K := K) rfl) (pv 6) (pv 3) (by rfl))
 (pss_one (ps_expr (pBm (K := K) rfl PySem.F.plainAttrs_list PySem.F.slot_list_append PySem.F.type_list_append mt_append (pv 3) (pa_cons (pv 6) pa_nil))))
 pss_nil))))
 (pss_one (ps_ret (pe_callB (cSortS (K := K) rfl) (by rfl) T.n_sorted (by decide +kernel) (pa_cons (pv 3) pa_nil))))))), ?_⟩)
  · obtain ⟨r, w, most, rfl, _⟩ := h
    rfl
  · obtain ⟨r, w, most, rfl, hrow0, hw1, hw2, hmost, k⟩ := h
    tm_at "r"
    intro p H1 hp e1 hp1
    have hrow := e1.rowOk hrow0
    tm_at "r"
    refine ⟨fun σ2 H2 => ∃ v4 : Option V, σ2 = [some (.ref r), some (.int (w : Int)), some (.int (most : Int)), some (.ref p), v4, none, none] ∧ Ext H H2 ∧ H2 p = some (.lst []), ?_, ?_⟩
    · tm_at "r"
      refine w_iteD (fun c => ?_) fun c => ?_
      · tm_at "r"
        refine u_taken hrow (by omega) (by omega) fun x H2 hx0 hx1 e2 => ?_
        have hrow := e2.rowOk hrow
        have hp1 := e2.lst hp1 nsh_nil
        tm_at "r"
        refine w_iteD (fun c2 => ?_) fun c2 => ?_
        · tm_at "r"
          refine u_number hrow (by omega) (by omega) fun num H3 hnum e3 => ?_
          have hrow := e3.rowOk hrow
          have hp1 := e3.lst hp1 nsh_nil
          tm_at "r"
          refine ⟨48, (w : Int), by decide +kernel, rfl, by omega, by omega, ?_⟩
          have erep : (⟨(List.replicate ((w : Int)).toNat 48).toArray⟩ : Str) = B (List.replicate w false) := B_rep false w
          rw [erep]
          tm_at "r"
          intro q H4 hq e4 hq4
          have hp1 := e4.lst hp1 nsh_nil
          have hrow := e4.rowOk hrow
          tm_at "r"
          refine u_taken hrow (by omega) (by omega) fun x H5 hx0 hx1 e5 => ?_
          have hq4 : SqL K H4 q (bvs [num, List.replicate w false]) := SqL.of hq4
          have hq4 := e5.seq (nsh_bvs _) hq4
          have hp1 := e5.lst hp1 nsh_nil
          have hrow := e5.rowOk hrow
          obtain ⟨bs, hb0, hb1⟩ := atI_in [num, List.replicate w false] hx0 hx1
          have hbw : bs.length = w := by
            have := List.mem_of_getElem? hb1
            simp at this
            rcases this with rfl | rfl
            · omega
            · simp
          refine w_ixL hq4 (bvs_atI hb0) ?_
          tm_at "r"
          have eH : Ext H H5 := (((e1.trans e2).trans e3).trans e4).trans e5
          refine forR (fun i σ2 H2 => ∃ (ms : List (List Bool)) (v : Option V), σ2 = [some (.ref r), some (.int (w : Int)), some (.int (most : Int)), some (.ref p), some (.str (B bs)), v, none] ∧ Ext H H2 ∧ H2 p = some (.lst (bvs ms)) ∧ ms.length = i ∧ Parts bs ms)
            ⟨[], none, rfl, eH, hp1, rfl, fun k m hk => by simp at hk⟩ ?_ ?_
          · rintro i σ2 H6 N hi ⟨ms, v, rfl, eH, hp6, hms, hP⟩ kN
            have hrow := eH.rowOk hrow0
            have hiw : i < w := by omega
            tm_at "r"
            refine w_tyL (SqL.of hp6) ?_
            tm_at "r"
            refine w_slS (by rw [B_len]; omega) ?_
            have e0 : (0 : Int) + (i : Int) = (i : Int) := by omega
            rw [e0, cutS_to]
            tm_at "r"
            obtain ⟨b, hb⟩ : ∃ b, bs[i]? = some b := ⟨bs[i], List.getElem?_eq_getElem (by omega)⟩
            refine w_ixS (by rw [B_len]; omega) (B_at (atI_k hb)) ?_
            tm_at "r"
            rw [B_one]
            refine w_intS (digit_int b) (by rw [B_len]; exact Nat.le_of_ble_eq_true rfl) ?_
            have hx : atI [true, false] (if b then (1 : Int) else 0) = some (!b) := by cases b <;> rfl
            refine w_ixS (c := bc (!b)) (by decide) (by rw [B_10]; exact B_at hx) ?_
            rw [B_one]
            refine w_addS (by rw [B_len, B_len, List.length_take]; simp; omega) ?_
            rw [B_app]
            tm_at "r"
            refine u_number hrow (by omega) (by omega) fun num2 H7 hnum2 e7 => ?_
            tm_at "r"
            refine w_slS (by rw [B_len]; omega) ?_
            have e2 : (i : Int) + 1 = ((i + 1 : Nat) : Int) := by omega
            rw [e2, cutS_from]
            refine w_addS (by rw [B_len, B_len, List.length_append, List.length_take, List.length_drop]; simp; omega) ?_
            rw [B_app]
            tm_at "r"
            have hp7 := e7.lst hp6 (nsh_bvs _)
            refine w_append hp7 (by rw [bvs_len]; omega) ?_
            refine kN _ _ ⟨ms ++ [bs.take i ++ [!b] ++ num2.drop (i + 1)], _, rfl, (eH.trans e7).mut hp, ?_, by simp [hms], ?_⟩
            · rw [upd_same, bvs_snoc]
            · subst hms
              exact hP.snoc hb (by rw [List.length_drop]; omega)
          · rintro σ2 H6 ⟨ms, v, rfl, eH, hp6, hms, hP⟩
            have hrow := eH.rowOk hrow0
            tm_at "r"
            refine u_taken hrow (by omega) (by omega) fun x H7 hx0 hx1 e7 => ?_
            have hrow := e7.rowOk hrow
            tm_at "r"
            refine u_taken hrow (by omega) (by omega) fun y H8 hy0 hy1 e8 => ?_
            have hp8 := e8.lst (e7.lst hp6 (nsh_bvs _)) (nsh_bvs _)
            tm_at "r"
            obtain ⟨m, hm⟩ : ∃ m : Nat, (if y > (w : Int) - x then y else (w : Int) - x) = (m : Int) := ⟨(if y > (w : Int) - x then y else (w : Int) - x).toNat, by split <;> omega⟩
            rw [hm]
            refine w_slL (SqL.of hp8) fun c1 H9 hc1 e9 hc9 => ?_
            rw [cutV_to, bvs_take] at hc9
            tm_at "r"
            intro c2 H10 hc2 e10 hc10
            have hc9 := e10.lst hc9 (nsh_bvs _)
            refine w_cat (ys := bvs [bs]) hc9 hc10 (by rw [bvs_len, List.length_take, bvs_len]; simp; omega) fun c3 H11 hc3 e11 hc11 => ?_
            rw [bvs_append] at hc11
            tm_at "r"
            have hw : ∀ l ∈ ms.take m ++ [bs], l.length = w := fun l hl => by
              rcases List.mem_append.mp hl with hl | hl
              · obtain ⟨i, hi⟩ := List.mem_iff_getElem?.mp (List.mem_of_mem_take hl)
                rw [(hP i l hi).1, hbw]
              · simp at hl
                rw [hl, hbw]
            refine w_sortS (SqL.of hc11) (by rw [List.length_append, List.length_take]; simp; omega) (hP.nodup m) fun zs l H12 hz rz hl e12 hl12 => ?_
            have eA : Ext H H12 := (((((eH.trans e7).trans e8).trans e9).trans e10).trans e11).trans e12
            refine k l zs H12 ?_ eA hl12 rz (fun z hz2 => hw z (hz.mem_iff.mp hz2)) ?_ (fun h => by omega)
            · exact (((((eH.trans e7).trans e8).trans e9).trans e10).trans e11).free hl
            · rw [hz.length_eq, List.length_append, List.length_take]; simp; omega
        · tm_at "r"
          exact ⟨none, rfl, e1.trans e2, hp1⟩
      · tm_at "r"
        exact ⟨none, rfl, e1, hp1⟩
    · rintro σ2 H2 ⟨v4, rfl, e2, hp2⟩
      have hrow := e2.rowOk hrow0
      tm_at "r"
      refine u_taken hrow (by omega) (by omega) fun x H3 hx0 hx1 e3 => ?_
      tm_at "r"
      refine forR (fun i σ2 H2 => ∃ (ms : List (List Bool)) (v v2 : Option V), σ2 = [some (.ref r), some (.int (w : Int)), some (.int (most : Int)), some (.ref p), v4, v, v2] ∧ Ext H H2 ∧ H2 p = some (.lst (bvs ms)) ∧ ms.length ≤ i ∧ ms.Nodup ∧ (∀ l ∈ ms, l.length = w))
        ⟨[], none, none, rfl, e2.trans e3, e3.lst hp2 nsh_nil, Nat.le_refl _, List.nodup_nil, fun l hl => by simp at hl⟩ ?_ ?_
      · rintro i σ2 H6 N hi ⟨ms, v, v2, rfl, eH, hp6, hms, nd, hw⟩ kN
        have hrow := eH.rowOk hrow0
        tm_at "r"
        refine u_near hrow (by omega) (SqL.of hp6) hw (by omega) fun l H7 hl e7 => ?_
        have hp7 := e7.lst hp6 (nsh_bvs _)
        tm_at "r"
        refine w_in (SqL.of hp7) rfl (bvs_flat _) ?_
        rw [inV_bvs]
        tm_at "r"
        refine w_iteN (fun c => ?_) fun c => ?_
        · tm_at "r"
          refine w_tyL (SqL.of hp7) ?_
          tm_at "r"
          refine w_append hp7 (by rw [bvs_len]; omega) ?_
          refine kN _ _ ⟨ms ++ [l], _, _, rfl, (eH.trans e7).mut hp, by rw [upd_same, bvs_snoc], by simp; omega, ?_, fun z hz => ?_⟩
          · exact List.nodup_append.mpr ⟨nd, by simp, fun a ha b hb e => by simp at hb; subst hb; subst e; exact c ha⟩
          · rcases List.mem_append.mp hz with hz | hz
            · exact hw z hz
            · simp at hz
              rw [hz, hl]
        · tm_at "r"
          exact kN _ _ ⟨ms, _, _, rfl, eH.trans e7, hp7, by omega, nd, hw⟩
      · rintro σ2 H6 ⟨ms, v, v2, rfl, eH, hp6, hms, nd, hw⟩
        tm_at "r"
        refine w_sortS (SqL.of hp6) (by omega) nd fun zs l H7 hz rz hl e7 hl7 => ?_
        exact k l zs H7 (eH.free hl) (eH.trans e7) hl7 rz (fun z hz2 => hw z (hz.mem_iff.mp hz2)) (by rw [hz.length_eq]; omega) (fun h => by rw [hz.length_eq]; omega)
end
end My
end

section
open PySem L2 Lw
local macro_rules | `(tactic| tm_at "s") => `(tactic| first
  | with_reducible refine w_seq ?_ | with_reducible refine w_asg ?_ | with_reducible refine w_gname ?_ | with_reducible refine w_ret ?_ | with_reducible refine w_drop ?_ | with_reducible refine w_ifS ?_ | with_reducible refine w_next ?_ | with_reducible refine w_retN ?_
  | with_reducible refine w_c ?_ | ((with_reducible refine w_var (v := ?vv) ?hh ?kk); (case hh => exact rfl)) | with_reducible refine w_op ?_ | with_reducible refine w_un ?_ | with_reducible refine w_cons ?_ | with_reducible refine w_nil ?_ | with_reducible refine w_test ?_ | with_reducible refine w_B ?_
  | with_reducible refine w_isbl ?_ | with_reducible refine w_not ?_ | with_reducible refine w_and ?_ | with_reducible refine w_or ?_ | with_reducible refine w_andV ?_ | with_reducible refine w_orV ?_ | with_reducible refine w_notV ?_ | with_reducible refine w_if ?_ | with_reducible refine w_chain ?_
  | with_reducible refine w_isN ?_ | with_reducible refine w_notN ?_ | with_reducible refine w_yes ?_ | with_reducible refine w_call ?_ | with_reducible refine w_CB ?_ | with_reducible refine w_tup ?_ | with_reducible refine w_lst ?_ | with_reducible refine w_sl ?_ | with_reducible refine w_noPart ?_
  | with_reducible refine w_part ?_ | with_reducible refine w_isint ?_ | with_reducible refine w_gSub ?_ | with_reducible refine w_break ?_ | with_reducible refine w_cont ?_
  | with_reducible refine w_I0 ?_ | with_reducible refine w_eqI ?_ | with_reducible refine w_neI ?_ | with_reducible refine w_eqS ?_ | with_reducible refine w_neS ?_ | with_reducible refine w_eqB ?_ | with_reducible refine w_neB ?_ | ((with_reducible refine w_isi (d := ?dd) ?hh ?kk); (case hh => assumption))
  | with_reducible refine w_sg ?_ | with_reducible refine w_notSg ?_ | with_reducible refine w_starts ?_ | with_reducible refine w_max2 ?_ | with_reducible refine w_min2 ?_ | with_reducible refine w_intB ?_ | with_reducible refine w_intI ?_ | with_reducible refine w_bm ?_ | with_reducible refine w_bm0 ?_ | with_reducible refine w_m1 ?_ | with_reducible refine w_m0 ?_ | with_reducible refine w_isstr ?_
  | with_reducible refine w_for ?_ | with_reducible refine w_lc ?_ | with_reducible refine w_rng ?_ | with_reducible refine w_rng2 ?_ | with_reducible refine w_ilist ?_ | with_reducible refine w_itup ?_ | with_reducible refine w_istr ?_ | with_reducible refine w_strOk ?_
  | ((with_reducible refine w_rngOk ?hh ?h2 ?kk); (case hh => omega); (case h2 => omega)) | ((with_reducible refine w_lstOk (xs := ?xx) ?hh ?kk); (case hh => assumption))
  | ((with_reducible refine w_alL ?hh ?kk); (case hh => exact Nat.le_of_ble_eq_true rfl)) | ((with_reducible refine w_alT ?hh ?kk); (case hh => exact Nat.le_of_ble_eq_true rfl))
  | ((with_reducible refine w_lenL (xs := ?xx) ?hh ?kk); (case hh => assumption)) | ((with_reducible refine w_lenT (xs := ?xx) ?hh ?kk); (case hh => assumption))
  | ((with_reducible refine w_I ?hh ?kk); (case hh => first | (show _ ≠ (0 : Int); omega) | (show (0 : Int) < _; omega) | exact ⟨by omega, by omega⟩ | exact .inl ⟨by omega, by omega⟩ | exact .inr ⟨by omega, by omega⟩ | exact ⟨by decide, by decide, by decide⟩))
  | with_reducible refine w_din ?_ | with_reducible refine w_dnot ?_ | with_reducible refine w_dget ?_ | with_reducible refine w_dput ?_ | with_reducible refine w_fld ?_ | with_reducible refine w_sto ?_ | with_reducible refine w_meth ?_ | with_reducible refine w_pop1 ?_ | with_reducible refine w_pop2 ?_ | with_reducible refine w_ikeys ?_
  | ((with_reducible refine f_width (CW := ?v1) (dx := ?v2) (t := ?v3) (l := ?v4) (w := ?v5) (told := ?v6) (many := ?v7) ?tw ?hh ?kk); (case tw => assumption); (case hh => assumption))
  | ((with_reducible refine f_things (CW := ?v1) (dx := ?v2) (t := ?v3) (l := ?v4) (w := ?v5) (told := ?v6) (many := ?v7) ?tw ?hh ?kk); (case tw => assumption); (case hh => assumption))
  | ((with_reducible refine f_listening (CW := ?v1) (dx := ?v2) (t := ?v3) (l := ?v4) (w := ?v5) (told := ?v6) (many := ?v7) ?tw ?hh ?kk); (case tw => assumption); (case hh => assumption))
  | ((with_reducible refine f_tolds (CW := ?v1) (dx := ?v2) (t := ?v3) (l := ?v4) (w := ?v5) (b := ?v6) (many := ?v7) ?tw ?hh ?kk); (case tw => assumption); (case hh => assumption))
  | ((with_reducible refine f_told (CW := ?v1) (dx := ?v2) (t := ?v3) (l := ?v4) (w := ?v5) (told := ?v6) (many := ?v7) ?tw ?hh ?kk); (case tw => assumption); (case hh => assumption))
  | ((with_reducible refine f_many (CW := ?v1) (dx := ?v2) (t := ?v3) (l := ?v4) (w := ?v5) (told := ?v6) (many := ?v7) ?tw ?hh ?kk); (case tw => assumption); (case hh => assumption))
  | ((with_reducible refine w_ixL (v := ?vv) (xs := ?xx) ?hh ?h2 ?kk); (case hh => assumption); (case h2 => exact rfl)) | ((with_reducible refine w_ixT (v := ?vv) (xs := ?xx) ?hh ?h2 ?kk); (case hh => assumption); (case h2 => exact rfl)))
local macro_rules | `(tactic| tm_at "r") => `(tactic| repeat tm_at "s")
local macro_rules | `(tactic| tm_at "b") => `(tactic| first | refine w_iteT (by with_reducible rfl) ?_ | refine w_iteF (by with_reducible rfl) ?_ | refine w_iteT (by rfl) ?_ | refine w_iteF (by rfl) ?_)
local macro_rules | `(tactic| tm_at "e") => `(tactic| repeat (first | tm_at "s" | tm_at "b"))
namespace My
abbrev s_law_alike : Stmt := top 30
theorem sc_law_alike : FnScope ["_law_found", "_law_due", "_law_k"] ["_law_found", "_law_due"] (defScope s_law_alike) := ⟨rfl, rfl, rfl, by decide +kernel, rfl, by decide +kernel, by decide +kernel⟩
/-- equal data are alike -/
def sp_alike (K : PySem.W.Frag) (n : Nat) : Sp := fun vs H Q _ => ∃ (x y : V) (d : PyData), vs = [x, y] ∧ Dq K H x d ∧ Dq K H y d ∧ PyData.depth d < n ∧ ∀ H', Ext H H' → Q (.bl true) H'
theorem u_alike {K : PySem.W.Frag} {n : Nat} {H : Hp} {Q : VK} {E : XK} {x y : V} {d : PyData} (h1 : Dq K H x d) (h2 : Dq K H y d) (h3 : PyData.depth d < n) (k : ∀ H', Ext H H' → Q (.bl true) H') : sp_alike K n ([x, y] ++ []) H Q E := ⟨x, y, d, rfl, h1, h2, h3, k⟩
section
variable {P : Program} {w : World} {K : PySem.W.Frag} {mg : Str → Option Value} {base : Heap}
theorem ok_alike {f : Addr} {fd : FuncData} (F : Fun K "_law_alike" "_law_alike" s_law_alike f fd) (T : TxB mg) (hm : mg "_law_alike" = some (.ref f)) (hb : Binds K fd ["_law_found", "_law_due"] []) : ∀ n : Nat, FnOk P w K mg base (L2.CX P w) n f fd ["_law_found", "_law_due"] (sp_alike K n)
  | 0 => by
    have no : ∀ vs H Q E, ¬ sp_alike K 0 vs H Q E := fun vs H Q E h => by
      obtain ⟨_, _, _, _, _, _, h, _⟩ := h
      omega
    exact ⟨fun vs H Q E h => absurd h (no vs H Q E), fun A outer s H args us vs Q E _ _ _ _ h => absurd h (no vs H Q E)⟩
  | n + 1 => by
    have C_law_alike : Cal P w K mg base n "_law_alike" ["_law_found", "_law_due"] (sp_alike K n) := ⟨f, fd, ok_alike F T hm hb n, hm, F.kp, hb⟩
    refine F.okX sc_law_alike (fun vs H Q E h => ?_) (fun cdv A outer s H vs Q E hr h => ⟨_, (pss_cons (ps_if (PW.pt (pw_or (pt_val (pe_callB (cIsi (K := K) rfl) (by rfl) T.n_isinstance (by decide +kernel) (pa_cons (pv 1) (pa_cons (pe_bltn (v := .ty "tuple") rfl T.n_tuple (by decide +kernel) rfl) pa_nil)))) (pw_or1 (pt_val (pe_callB (cIsi (K := K) rfl) (by rfl) T.n_isinstance (by decide +kernel) (pa_cons (pv 1) (pa_cons (pe_bltn (v := .ty "list") rfl T.n_list (by decide +kernel) rfl) pa_nil)))))))
 (pss_cons (ps_if (PW.pt (pw_or (pt_cmpR op_ne (pe_callB (cIsi (K := K) rfl) (by rfl) T.n_isinstance (by decide +kernel) (pa_cons (pv 0) (pa_cons (pe_bltn (v := .ty "tuple") rfl T.n_tuple (by decide +kernel) rfl) pa_nil))) (pe_callB (cIsi (K := K) rfl) (by rfl) T.n_isinstance (by decide +kernel) (pa_cons (pv 1) (pa_cons (pe_bltn (v := .ty "tuple") rfl T.n_tuple (by decide +kernel) rfl) pa_nil))) (nomark _)) (pw_or1 (pt_not (pt_val (pe_callB (cIsiT (K := K) rfl) (by rfl) T.n_isinstance (by decide +kernel) (pa_cons (pv 0) (pa_cons (pe_tup (pa_cons (pe_bltn (v := .ty "tuple") rfl T.n_tuple (by decide +kernel) rfl) (pa_cons (pe_bltn (v := .ty "list") rfl T.n_list (by decide +kernel) rfl) pa_nil))) pa_nil))))))))
 (pss_one (ps_ret pe_bl))
 pss_nil)
 (pss_cons (ps_if (pt_cmpR op_ne (pe_callB (cLen (K := K) rfl) (by rfl) T.n_len (by decide +kernel) (pa_cons (pv 0) pa_nil)) (pe_callB (cLen (K := K) rfl) (by rfl) T.n_len (by decide +kernel) (pa_cons (pv 1) pa_nil)) (nomark _))
 (pss_one (ps_ret pe_bl))
 pss_nil)
 (pss_one (ps_ret (pe_cmpR (oEqD (K := K) rfl hr.units) (pe_lc (own := [("_law_k", 2)]) (g := gName 2) rfl sc_law_alike.nd (pi_range1 rfl T.n_range (pa_cons (pe_callB (cLen (K := K) rfl) (by rfl) T.n_len (by decide +kernel) (pa_cons (pv 1) pa_nil)) pa_nil)) (blkOk_by (own := [("_law_k", 2)]) (N := ["_law_found", "_law_due", "_law_k"]) (sc := defScope s_law_alike) (by decide +kernel)) (fun _ _ _ _ _ => pg_name (i := 2) sc_law_alike.nd rfl (Or.inl rfl)) (fun _ _ _ _ _ => pts_one (pt_not (pt_val (pe_cal (E := E0) C_law_alike (hr.mono (by first | decide | omega)) passL (pa_cons (pe_ix (ixA (K := K) rfl) (pv 0) (pv 2) (fun _ _ => rfl)) (pa_cons (pe_ix (ixA (K := K) rfl) (pv 1) (pv 2) (fun _ _ => rfl)) pa_nil)))))) (fun _ _ _ _ _ => (pv 2))) (pe_lst pa_nil) (nomark _))))))
 pss_nil)
 (pss_cons (ps_if (PW.pt (pw_or (pt_cmp (pc_isN (pv 1))) (pw_or1 (pt_cmp (pc_isN (pv 0))))))
 (pss_one (ps_ret (pe_and (pe_cmp (pc_isN (pv 1))) (pe_one (pe_cmp (pc_isN (pv 0)))))))
 pss_nil)
 (pss_cons (ps_if (PW.pt (pw_or (pt_val (pe_callB (cIsi (K := K) rfl) (by rfl) T.n_isinstance (by decide +kernel) (pa_cons (pv 1) (pa_cons (pe_bltn (v := .ty "bool") rfl T.n_bool (by decide +kernel) rfl) pa_nil)))) (pw_or1 (pt_val (pe_callB (cIsi (K := K) rfl) (by rfl) T.n_isinstance (by decide +kernel) (pa_cons (pv 0) (pa_cons (pe_bltn (v := .ty "bool") rfl T.n_bool (by decide +kernel) rfl) pa_nil)))))))
 (pss_one (ps_ret (pe_and (pe_callB (cIsi (K := K) rfl) (by rfl) T.n_isinstance (by decide +kernel) (pa_cons (pv 1) (pa_cons (pe_bltn (v := .ty "bool") rfl T.n_bool (by decide +kernel) rfl) pa_nil))) (pe_and (pe_callB (cIsi (K := K) rfl) (by rfl) T.n_isinstance (by decide +kernel) (pa_cons (pv 0) (pa_cons (pe_bltn (v := .ty "bool") rfl T.n_bool (by decide +kernel) rfl) pa_nil))) (pe_one (pe_cmpR op_eq (pv 0) (pv 1) (nomark _)))))))
 pss_nil)
 (pss_cons (ps_if (pt_val (pe_callB (cIsi (K := K) rfl) (by rfl) T.n_isinstance (by decide +kernel) (pa_cons (pv 1) (pa_cons (pe_bltn (v := .ty "str") rfl T.n_str (by decide +kernel) rfl) pa_nil))))
 (pss_one (ps_ret (pe_and (pe_callB (cIsi (K := K) rfl) (by rfl) T.n_isinstance (by decide +kernel) (pa_cons (pv 0) (pa_cons (pe_bltn (v := .ty "str") rfl T.n_str (by decide +kernel) rfl) pa_nil))) (pe_one (pe_cmpR op_eq (pv 0) (pv 1) (nomark _))))))
 pss_nil)
 (pss_one (ps_ret (pe_and (pe_callB (cIsi (K := K) rfl) (by rfl) T.n_isinstance (by decide +kernel) (pa_cons (pv 0) (pa_cons (pe_bltn (v := .ty "int") rfl T.n_int (by decide +kernel) rfl) pa_nil))) (pe_one (pe_cmpR op_eq (pv 0) (pv 1) (nomark _)))))))))), ?_⟩)
    · obtain ⟨x, y, d, rfl, _⟩ := h
      rfl
    · obtain ⟨x, y, d, rfl, hx, hy, hd, k⟩ := h
      -- the part for lists and tuples
      cases d with
      | none =>
        cases hx
        cases hy
        have hx : Dq K H .non .none := .non
        tm_at "e"
        exact k _ (Ext.refl _)
      | bool b =>
        cases hx
        cases hy
        have hx : Dq K H (.bl b) (.bool b) := .bl b
        tm_at "e"
        rw [decide_eq_true rfl]
        exact k _ (Ext.refl _)
      | int b =>
        cases hx
        cases hy
        have hx : Dq K H (.int b) (.int b) := .int b
        tm_at "e"
        rw [decide_eq_true rfl]
        exact k _ (Ext.refl _)
      | str b =>
        cases hx
        cases hy
        have hx : Dq K H (.str b) (.str b) := .str b
        tm_at "e"
        rw [decide_eq_true rfl]
        exact k _ (Ext.refl _)
      | list ds =>
        obtain ⟨p, xs, rfl, hp, np, hz, hs⟩ := hx.list_inv
        obtain ⟨q, ys, rfl, hq, nq, hz2, hs2⟩ := hy.list_inv
        have lx := hs.len
        have ly := hs2.len
        tm_at "e"
        intro t H1 ht e1 ht1
        tm_at "e"
        refine w_isi2 (hx.ext e1) ht1 ?_
        have hp := e1.seq np hp
        have hq := e1.seq nq hq
        tm_at "e"
        rw [show xs.length = ys.length by omega]
        rw [decide_eq_true rfl]
        tm_at "e"
        have hss := DqAll.ext e1 ds hs
        have hss2 := DqAll.ext e1 ds hs2
        refine lcF src_rng (fun i acc => acc = []) rfl (fun i acc e => by rw [e]; exact nsh_nil) (by omega) (fun _ => rfl) (fun i z acc H2 NF NE hi hzz ha e2 kF kE => ?_) fun D acc H2 ha hD e2 hDa hl => ?_
        · subst hzz
          obtain ⟨dd, hdd⟩ : ∃ dd, ds[i]? = some dd := ⟨ds[i]'(by omega), List.getElem?_eq_getElem (by omega)⟩
          obtain ⟨v1, hv1, dq1⟩ := hss.get hdd
          obtain ⟨v2, hv2, dq2⟩ := hss2.get hdd
          have e0 : (0 : Int) + (i : Int) = (i : Int) := by omega
          rw [e0]
          tm_at "r"
          refine w_ixAL (e2.seq np hp) (atI_k hv1) ?_
          tm_at "r"
          refine w_ixAL (e2.seq nq hq) (atI_k hv2) ?_
          tm_at "r"
          have hdep : PyData.depth dd < n := by
            have := dep_mem (n := n - 1) (xs := ds) (by simp only [PyData.depth] at hd; omega) dd (List.mem_of_getElem? hdd)
            simp only [PyData.depth] at hd
            omega
          refine u_alike (dq1.ext e2) (dq2.ext e2) hdep fun H3 e3 => ?_
          tm_at "e"
          exact kF _ e3 ha
        · subst ha
          tm_at "r"
          intro t2 H3 ht2 e3 ht3
          refine w_eqLs (ls := []) (ms := []) (e3.seq nsh_nil (SqL.of hDa)) (SqL.of ht3) ?_
          exact k _ ((e1.trans e2).trans e3)
      | tuple ds =>
        obtain ⟨p, xs, rfl, hp, hz, hs⟩ := hx.tup_inv
        obtain ⟨q, ys, rfl, hq, hz2, hs2⟩ := hy.tup_inv
        have lx := hs.len
        have ly := hs2.len
        tm_at "e"
        intro t H1 ht e1 ht1
        tm_at "e"
        refine w_isi2 (hx.ext e1) ht1 ?_
        have hp := e1.tup hp
        have hq := e1.tup hq
        tm_at "e"
        rw [show xs.length = ys.length by omega]
        rw [decide_eq_true rfl]
        tm_at "e"
        have hss := DqAll.ext e1 ds hs
        have hss2 := DqAll.ext e1 ds hs2
        refine lcF src_rng (fun i acc => acc = []) rfl (fun i acc e => by rw [e]; exact nsh_nil) (by omega) (fun _ => rfl) (fun i z acc H2 NF NE hi hzz ha e2 kF kE => ?_) fun D acc H2 ha hD e2 hDa hl => ?_
        · subst hzz
          obtain ⟨dd, hdd⟩ : ∃ dd, ds[i]? = some dd := ⟨ds[i]'(by omega), List.getElem?_eq_getElem (by omega)⟩
          obtain ⟨v1, hv1, dq1⟩ := hss.get hdd
          obtain ⟨v2, hv2, dq2⟩ := hss2.get hdd
          have e0 : (0 : Int) + (i : Int) = (i : Int) := by omega
          rw [e0]
          tm_at "r"
          refine w_ixAT (e2.tup hp) (atI_k hv1) ?_
          tm_at "r"
          refine w_ixAT (e2.tup hq) (atI_k hv2) ?_
          tm_at "r"
          have hdep : PyData.depth dd < n := by
            have := dep_mem (n := n - 1) (xs := ds) (by simp only [PyData.depth] at hd; omega) dd (List.mem_of_getElem? hdd)
            simp only [PyData.depth] at hd
            omega
          refine u_alike (dq1.ext e2) (dq2.ext e2) hdep fun H3 e3 => ?_
          tm_at "e"
          exact kF _ e3 ha
        · subst ha
          tm_at "r"
          intro t2 H3 ht2 e3 ht3
          refine w_eqLs (ls := []) (ms := []) (e3.seq nsh_nil (SqL.of hDa)) (SqL.of ht3) ?_
          exact k _ ((e1.trans e2).trans e3)
      | dict kvs => cases hx
end
end My
end

section
/-! things that stand apart: each with the places it owns -/
namespace Lw
open PySem L2
/-- what may be owned: no row, nothing known -/
def Ownd (o : HO) : Prop := ¬ RowSh o ∧ (∀ ob u, o ≠ .frz ob u) ∧ (∀ ps, o ≠ .tbl ps) ∧ ∀ x, o ≠ .ext x
/-- from H to H': the places F (then F', of which some are new) may have changed -/
structure Step (F F' : List Addr) (H H' : Hp) : Prop where
  st : ∀ b o, H b = some o → b ∉ F → ¬ RowSh o → H' b = some o
  rw_ : ∀ b a i m z, H b = some (row a i m z) → b ∉ F → 0 ≤ i → ∃ i' m' z', H' b = some (row a i' m' z') ∧ 0 ≤ i'
  th : ∀ b o, H b = some o → ∃ o', H' b = some o'
  nw : ∀ b, b ∈ F' → b ∈ F ∨ H b = none
section
variable {F F1 F2 F' : List Addr} {H H1 H2 H' : Hp} {K : PySem.W.Frag} {r : Addr}
theorem Step.of (e : Ext H H') : Step F F H H' := ⟨fun b o h _ n => e.st b o h n, fun b a i m z h _ hi => e.rw_ b a i m z h hi, e.th, fun b h => .inl h⟩
theorem Step.not (s : Step F F' H H') {b : Addr} {o : HO} (h : H b = some o) (n : b ∉ F) : b ∉ F' := fun q => by
  rcases s.nw b q with z | z
  · exact n z
  · rw [h] at z
    cases z
theorem Step.free (s : Step F F' H H') {b : Addr} (h : H' b = none) : H b = none := by
  cases q : H b with
  | none => rfl
  | some o =>
    obtain ⟨o', z⟩ := s.th _ _ q
    rw [h] at z
    cases z
theorem Step.trans (s : Step F F1 H H1) (t : Step F1 F2 H1 H2) : Step F F2 H H2 where
  st := fun b o h n ns => t.st b o (s.st b o h n ns) (s.not h n) ns
  rw_ := fun b a i m z h n hi => by
    obtain ⟨i', m', z', h1, hi'⟩ := s.rw_ b a i m z h n hi
    exact t.rw_ b a i' m' z' h1 (s.not h n) hi'
  th := fun b o h => by
    obtain ⟨o', h1⟩ := s.th b o h
    exact t.th b o' h1
  nw := fun b h => by
    rcases t.nw b h with z | z
    · exact s.nw b z
    · exact .inr (s.free z)
/-- a place of F is written -/
theorem Step.wr {p : Addr} {o u : HO} (hp : H p = some u) (h : p ∈ F) : Step F F H (upd H p o) where
  st := fun b v hb n _ => by
    rw [upd_ne (fun e => n (by rw [e]; exact h))]
    exact hb
  rw_ := fun b a i m z hb n hi => by
    rw [upd_ne (fun e => n (by rw [e]; exact h))]
    exact ⟨i, m, z, hb, hi⟩
  th := fun b v hb => by
    by_cases e : b = p
    · rw [e]
      exact ⟨_, upd_same⟩
    · rw [upd_ne e]
      exact ⟨_, hb⟩
  nw := fun b h => .inl h
/-- other places are told -/
theorem Step.to (s : Step F F1 H H') (h : ∀ b, b ∈ F' → b ∈ F1 ∨ H b = none) : Step F F' H H' := ⟨s.st, s.rw_, s.th, fun b hb => (h b hb).elim (s.nw b) .inr⟩
/-- the row stands -/
theorem RowOk.step (s : Step F F' H H') (ho : ∀ b ∈ F, ∃ o, H b = some o ∧ Ownd o) (h : RowOk K H r) : RowOk K H' r := by
  obtain ⟨a, i, m, z, ns, h0, hi, hs⟩ := h
  have nr : r ∉ F := fun q => by
    obtain ⟨o, e, n, _⟩ := ho r q
    rw [h0] at e
    cases e
    exact n ⟨_, _, _, _, rfl⟩
  obtain ⟨i', m', z', h1, hi'⟩ := s.rw_ r a i m z h0 nr hi
  refine ⟨a, i', m', z', ns, h1, hi', ?_⟩
  rcases hs with ⟨o, hs⟩ | hs
  · have na : a ∉ F := fun q => by
      obtain ⟨u, e, _, n, _⟩ := ho a q
      rw [hs] at e
      cases e
      exact n _ _ rfl
    exact .inl ⟨o, s.st a _ hs na nsh_frz⟩
  · exact .inr hs
end
/-- a thing and its places -/
structure Own where
  S : Hp → Prop
  F : List Addr
  loc : ∀ {H H' : Hp}, (∀ b ∈ F, ∀ o, H b = some o → H' b = some o) → S H → S H'
  al : ∀ {H : Hp}, S H → ∀ b ∈ F, ∃ o, H b = some o ∧ Ownd o
/-- these things stand, apart from one another -/
def Sts (H : Hp) (l : List Own) : Prop := (∀ o ∈ l, o.S H) ∧ l.Pairwise fun a b => ∀ x ∈ a.F, x ∉ b.F
section
variable {H H' : Hp} {l l1 l2 : List Own} {W W' : Own} {K : PySem.W.Frag} {r : Addr}
theorem Own.ext (W : Own) (e : Ext H H') (h : W.S H) : W.S H' := W.loc (fun b hb o ho => by
  obtain ⟨o', e1, n, _⟩ := W.al h b hb
  rw [ho] at e1
  cases e1
  exact e.st b o ho n) h
theorem Sts.ext (s : Sts H l) (e : Ext H H') : Sts H' l := ⟨fun o ho => o.ext e (s.1 o ho), s.2⟩
theorem Sts.nil : Sts H [] := ⟨fun o ho => absurd ho (by simp), List.Pairwise.nil⟩
theorem Sts.get (s : Sts H (l1 ++ W :: l2)) : W.S H := s.1 W (List.mem_append_right _ List.mem_cons_self)
theorem Sts.step (s : Sts H (l1 ++ W :: l2)) (w : W'.S H') (t : Step W.F W'.F H H') : Sts H' (l1 ++ W' :: l2) := by
  obtain ⟨h1, h2⟩ := s
  obtain ⟨p1, p2, p3⟩ := List.pairwise_append.mp h2
  obtain ⟨q1, q2⟩ := List.pairwise_cons.mp p2
  have ap : ∀ V : Own, V ∈ l1 ∨ V ∈ l2 → (∀ x ∈ V.F, x ∉ W.F) ∧ V.S H := fun V hV => by
    rcases hV with hV | hV
    · exact ⟨fun x hx hw => p3 V hV W List.mem_cons_self x hx hw, h1 V (List.mem_append_left _ hV)⟩
    · exact ⟨fun x hx hw => q1 V hV x hw hx, h1 V (List.mem_append_right _ (List.mem_cons_of_mem _ hV))⟩
  have st : ∀ V : Own, V ∈ l1 ∨ V ∈ l2 → V.S H' ∧ ∀ x ∈ V.F, x ∉ W'.F := fun V hV => by
    obtain ⟨na, hS⟩ := ap V hV
    refine ⟨V.loc (fun b hb o ho => ?_) hS, fun x hx hw => ?_⟩
    · obtain ⟨o', e1, n, _⟩ := V.al hS b hb
      rw [ho] at e1
      cases e1
      exact t.st b o ho (na b hb) n
    · obtain ⟨o, e1, _⟩ := V.al hS x hx
      exact t.not e1 (na x hx) hw
  refine ⟨fun V hV => ?_, List.pairwise_append.mpr ⟨p1, List.pairwise_cons.mpr ⟨fun V hV x hx hy => (st V (.inr hV)).2 x hy hx, q2⟩, fun V hV U hU x hx hy => ?_⟩⟩
  · rcases List.mem_append.mp hV with hV | hV
    · exact (st V (.inl hV)).1
    · rcases List.mem_cons.mp hV with rfl | hV
      · exact w
      · exact (st V (.inr hV)).1
  · rcases List.mem_cons.mp hU with rfl | hU
    · exact (st V (.inl hV)).2 x hx hy
    · exact p3 V hV U (List.mem_cons_of_mem _ hU) x hx hy
theorem Sts.new (s : Sts H l) (e : Ext H H') (hn : ∀ b ∈ W.F, H b = none) (w : W.S H') : Sts H' (W :: l) := by
  refine ⟨fun V hV => ?_, List.pairwise_cons.mpr ⟨fun V hV x hx hy => ?_, s.2⟩⟩
  · rcases List.mem_cons.mp hV with rfl | hV
    · exact w
    · exact V.ext e (s.1 V hV)
  · obtain ⟨o, h, _⟩ := V.al (s.1 V hV) x hy
    rw [hn x hx] at h
    cases h
theorem Sts.drop (s : Sts H (l1 ++ W :: l2)) : Sts H (l1 ++ l2) :=
  ⟨fun V hV => s.1 V (by
    rcases List.mem_append.mp hV with h | h
    · exact List.mem_append_left _ h
    · exact List.mem_append_right _ (List.mem_cons_of_mem _ h)), s.2.sublist (List.Sublist.append (List.Sublist.refl _) (List.sublist_cons_self W l2))⟩
theorem Sts.row (s : Sts H (l1 ++ W :: l2)) (t : Step W.F W'.F H H') (h : RowOk K H r) : RowOk K H' r := RowOk.step t (W.al s.get) h
end
/-- a list of texts as a thing of its own -/
def oList (p : Addr) (ls : List (List Bool)) : Own where
  S := fun H => H p = some (.lst (bvs ls))
  F := [p]
  loc := fun h hS => h p List.mem_cons_self _ hS
  al := fun hS b hb => by
    rw [List.mem_singleton.mp hb]
    exact ⟨_, hS, nsh_bvs _, fun _ _ q => (by cases q), fun _ q => (by cases q), fun _ q => (by cases q)⟩
end Lw
end

section
open PySem L2 Lw
local macro_rules | `(tactic| tm_at "s") => `(tactic| first
  | with_reducible refine w_seq ?_ | with_reducible refine w_asg ?_ | with_reducible refine w_gname ?_ | with_reducible refine w_ret ?_ | with_reducible refine w_drop ?_ | with_reducible refine w_ifS ?_ | with_reducible refine w_next ?_ | with_reducible refine w_retN ?_
  | with_reducible refine w_c ?_ | ((with_reducible refine w_var (v := ?vv) ?hh ?kk); (case hh => exact rfl)) | with_reducible refine w_op ?_ | with_reducible refine w_un ?_ | with_reducible refine w_cons ?_ | with_reducible refine w_nil ?_ | with_reducible refine w_test ?_ | with_reducible refine w_B ?_
  | with_reducible refine w_isbl ?_ | with_reducible refine w_not ?_ | with_reducible refine w_and ?_ | with_reducible refine w_or ?_ | with_reducible refine w_andV ?_ | with_reducible refine w_orV ?_ | with_reducible refine w_notV ?_ | with_reducible refine w_if ?_ | with_reducible refine w_chain ?_
  | with_reducible refine w_isN ?_ | with_reducible refine w_notN ?_ | with_reducible refine w_yes ?_ | with_reducible refine w_call ?_ | with_reducible refine w_CB ?_ | with_reducible refine w_tup ?_ | with_reducible refine w_lst ?_ | with_reducible refine w_sl ?_ | with_reducible refine w_noPart ?_
  | with_reducible refine w_part ?_ | with_reducible refine w_isint ?_ | with_reducible refine w_gSub ?_ | with_reducible refine w_break ?_ | with_reducible refine w_cont ?_
  | with_reducible refine w_I0 ?_ | with_reducible refine w_eqI ?_ | with_reducible refine w_neI ?_ | with_reducible refine w_eqS ?_ | with_reducible refine w_neS ?_ | with_reducible refine w_eqB ?_ | with_reducible refine w_neB ?_ | ((with_reducible refine w_isi (d := ?dd) ?hh ?kk); (case hh => assumption))
  | with_reducible refine w_sg ?_ | with_reducible refine w_notSg ?_ | with_reducible refine w_starts ?_ | with_reducible refine w_max2 ?_ | with_reducible refine w_min2 ?_ | with_reducible refine w_intB ?_ | with_reducible refine w_intI ?_ | with_reducible refine w_bm ?_ | with_reducible refine w_bm0 ?_ | with_reducible refine w_m1 ?_ | with_reducible refine w_m0 ?_ | with_reducible refine w_isstr ?_
  | with_reducible refine w_for ?_ | with_reducible refine w_lc ?_ | with_reducible refine w_rng ?_ | with_reducible refine w_rng2 ?_ | with_reducible refine w_ilist ?_ | with_reducible refine w_itup ?_ | with_reducible refine w_istr ?_ | with_reducible refine w_strOk ?_
  | ((with_reducible refine w_rngOk ?hh ?h2 ?kk); (case hh => omega); (case h2 => omega)) | ((with_reducible refine w_lstOk (xs := ?xx) ?hh ?kk); (case hh => assumption))
  | ((with_reducible refine w_alL ?hh ?kk); (case hh => exact Nat.le_of_ble_eq_true rfl)) | ((with_reducible refine w_alT ?hh ?kk); (case hh => exact Nat.le_of_ble_eq_true rfl))
  | ((with_reducible refine w_lenL (xs := ?xx) ?hh ?kk); (case hh => assumption)) | ((with_reducible refine w_lenT (xs := ?xx) ?hh ?kk); (case hh => assumption))
  | ((with_reducible refine w_I ?hh ?kk); (case hh => first | (show _ ≠ (0 : Int); omega) | (show (0 : Int) < _; omega) | exact ⟨by omega, by omega⟩ | exact .inl ⟨by omega, by omega⟩ | exact .inr ⟨by omega, by omega⟩ | exact ⟨by decide, by decide, by decide⟩))
  | with_reducible refine w_din ?_ | with_reducible refine w_dnot ?_ | with_reducible refine w_dget ?_ | with_reducible refine w_dput ?_ | with_reducible refine w_fld ?_ | with_reducible refine w_sto ?_ | with_reducible refine w_meth ?_ | with_reducible refine w_pop1 ?_ | with_reducible refine w_pop2 ?_ | with_reducible refine w_ikeys ?_
  | ((with_reducible refine f_width (CW := ?v1) (dx := ?v2) (t := ?v3) (l := ?v4) (w := ?v5) (told := ?v6) (many := ?v7) ?tw ?hh ?kk); (case tw => assumption); (case hh => assumption))
  | ((with_reducible refine f_things (CW := ?v1) (dx := ?v2) (t := ?v3) (l := ?v4) (w := ?v5) (told := ?v6) (many := ?v7) ?tw ?hh ?kk); (case tw => assumption); (case hh => assumption))
  | ((with_reducible refine f_listening (CW := ?v1) (dx := ?v2) (t := ?v3) (l := ?v4) (w := ?v5) (told := ?v6) (many := ?v7) ?tw ?hh ?kk); (case tw => assumption); (case hh => assumption))
  | ((with_reducible refine f_tolds (CW := ?v1) (dx := ?v2) (t := ?v3) (l := ?v4) (w := ?v5) (b := ?v6) (many := ?v7) ?tw ?hh ?kk); (case tw => assumption); (case hh => assumption))
  | ((with_reducible refine f_told (CW := ?v1) (dx := ?v2) (t := ?v3) (l := ?v4) (w := ?v5) (told := ?v6) (many := ?v7) ?tw ?hh ?kk); (case tw => assumption); (case hh => assumption))
  | ((with_reducible refine f_many (CW := ?v1) (dx := ?v2) (t := ?v3) (l := ?v4) (w := ?v5) (told := ?v6) (many := ?v7) ?tw ?hh ?kk); (case tw => assumption); (case hh => assumption))
  | ((with_reducible refine w_ixL (v := ?vv) (xs := ?xx) ?hh ?h2 ?kk); (case hh => assumption); (case h2 => exact rfl)) | ((with_reducible refine w_ixT (v := ?vv) (xs := ?xx) ?hh ?h2 ?kk); (case hh => assumption); (case h2 => exact rfl)))
local macro_rules | `(tactic| tm_at "r") => `(tactic| repeat tm_at "s")
local macro_rules | `(tactic| tm_at "b") => `(tactic| first | refine w_iteT (by with_reducible rfl) ?_ | refine w_iteF (by with_reducible rfl) ?_ | refine w_iteT (by rfl) ?_ | refine w_iteF (by rfl) ?_)
local macro_rules | `(tactic| tm_at "e") => `(tactic| repeat (first | tm_at "s" | tm_at "b"))
namespace My
abbrev s_are_bits : Stmt := top 20
theorem sc_are_bits : FnScope ["part", "sign"] ["part"] (defScope s_are_bits) := ⟨rfl, rfl, rfl, by decide +kernel, rfl, by decide +kernel, by decide +kernel⟩
abbrev s_is_number : Stmt := top 21
theorem sc_is_number : FnScope ["width", "part"] ["width", "part"] (defScope s_is_number) := ⟨rfl, rfl, rfl, by decide +kernel, rfl, by decide +kernel, by decide +kernel⟩
abbrev s_need_number : Stmt := top 22
theorem sc_need_number : FnScope ["width", "part"] ["width", "part"] (defScope s_need_number) := ⟨rfl, rfl, rfl, by decide +kernel, rfl, by decide +kernel, by decide +kernel⟩
abbrev s_need_width : Stmt := top 19
theorem sc_need_width : FnScope ["width"] ["width"] (defScope s_need_width) := ⟨rfl, rfl, rfl, by decide +kernel, rfl, by decide +kernel, by decide +kernel⟩
abbrev s_look_at : Stmt := top 23
theorem sc_look_at : FnScope ["numbers", "beginning", "some", "number"] ["numbers", "beginning"] (defScope s_look_at) := ⟨rfl, rfl, rfl, by decide +kernel, rfl, by decide +kernel, by decide +kernel⟩
abbrev s_need_kind : Stmt := top 26
theorem sc_need_kind : FnScope ["kind"] ["kind"] (defScope s_need_kind) := ⟨rfl, rfl, rfl, by decide +kernel, rfl, by decide +kernel, by decide +kernel⟩
def bitsD : PyData → Bool
  | .str x => bitsS x
  | _ => false
def numD (w : Int) : PyData → Bool
  | .str x => bitsS x && decide ((x.length : Int) = w)
  | _ => false
def OkD (d : PyData) : Prop := PyData.canLay0 d = true ∧ ∀ x, d = .str x → x.length ≤ 100000
theorem okD_bits {l : List Bool} (h : l.length ≤ 100000) : OkD (.str (B l)) := ⟨lay_B l, fun x e => by cases e; rw [B_len]; exact h⟩
theorem numD_bits (l : List Bool) (w : Nat) : numD (w : Int) (.str (B l)) = decide (l.length = w) := by
  simp only [numD, bits_B, Bool.true_and, B_len]
  by_cases h : l.length = w
  · simp [h]
  · rw [decide_eq_false h]
    exact decide_eq_false (by omega)
def sp_are_bits (K : PySem.W.Frag) : Sp := fun vs H Q _ => ∃ (v : V) (d : PyData), vs = [v] ∧ Dq K H v d ∧ OkD d ∧ ∀ H', Ext H H' → Q (.bl (bitsD d)) H'
def sp_is_number (K : PySem.W.Frag) : Sp := fun vs H Q _ => ∃ (w : Int) (v : V) (d : PyData), vs = [.int w, v] ∧ Dq K H v d ∧ OkD d ∧ ∀ H', Ext H H' → Q (.bl (numD w d)) H'
def sp_need_number (K : PySem.W.Frag) (c : Addr) : Sp := fun vs H Q E => ∃ (w : Int) (v : V) (d : PyData), vs = [.int w, v] ∧ Dq K H v d ∧ OkD d ∧ (numD w d = true → ∀ H', Ext H H' → Q .non H') ∧ (numD w d = false → ∀ H', Ext H H' → E (.ref c) none H')
def sp_need_width (c : Addr) : Sp := fun vs H Q E => ∃ (w : Int), vs = [.int w] ∧ (1 ≤ w ∧ w ≤ 12 → Q .non H) ∧ (¬ (1 ≤ w ∧ w ≤ 12) → E (.ref c) none H)
theorem u_are_bits {K : PySem.W.Frag} {H : Hp} {Q : VK} {E : XK} {v : V} {d : PyData} (h : Dq K H v d) (h2 : OkD d) (k : ∀ H', Ext H H' → Q (.bl (bitsD d)) H') : sp_are_bits K ([v] ++ []) H Q E := ⟨v, d, rfl, h, h2, k⟩
theorem u_is_number {K : PySem.W.Frag} {H : Hp} {Q : VK} {E : XK} {w : Int} {v : V} {d : PyData} (h : Dq K H v d) (h2 : OkD d) (k : ∀ H', Ext H H' → Q (.bl (numD w d)) H') : sp_is_number K ([.int w, v] ++ []) H Q E := ⟨w, v, d, rfl, h, h2, k⟩
/-- a number of the width -/
theorem u_need_number {K : PySem.W.Frag} {H : Hp} {Q : VK} {E : XK} {c : Addr} {w : Int} {v : V} {d : PyData} (h : Dq K H v d) (h2 : OkD d) (k : numD w d = true → ∀ H', Ext H H' → Q .non H') (k2 : numD w d = false → ∀ H', Ext H H' → E (.ref c) none H') :
    sp_need_number K c ([.int w, v] ++ []) H Q E := ⟨w, v, d, rfl, h, h2, k, k2⟩
def sp_look_at (K : PySem.W.Frag) : Sp := fun vs H Q _ => ∃ (a : Addr) (ls : List (List Bool)) (p : List Bool), vs = [.ref a, .str (B p)] ∧ SqL K H a (bvs ls) ∧ ls.length ≤ 1000 ∧ (∀ l ∈ ls, p.length < l.length ∧ l.length ≤ 1000) ∧
  ∀ (t : Addr) (H' : Hp), H t = none → Ext H H' → H' t = some (.tup [.bl (lookZ ls p false), .bl (lookZ ls p true)]) → Q (.ref t) H'
theorem u_look_at {K : PySem.W.Frag} {H : Hp} {Q : VK} {E : XK} {a : Addr} {ls : List (List Bool)} {p : List Bool} (h1 : SqL K H a (bvs ls)) (h2 : ls.length ≤ 1000) (h3 : ∀ l ∈ ls, p.length < l.length ∧ l.length ≤ 1000)
    (k : ∀ (t : Addr) (H' : Hp), H t = none → Ext H H' → H' t = some (.tup [.bl (lookZ ls p false), .bl (lookZ ls p true)]) → Q (.ref t) H') : sp_look_at K ([.ref a, .str (B p)] ++ []) H Q E := ⟨a, ls, p, rfl, h1, h2, h3, k⟩
/-- the kinds -/
def sp_need_kind (c : Addr) : Sp := fun vs H Q E => ∃ (x : Str), vs = [.str x] ∧ (x = "all" ∨ x = "alarm" → Q .non H) ∧ (¬ (x = "all" ∨ x = "alarm") → E (.ref c) none H)
section
variable {P : Program} {w : World} {K : PySem.W.Frag} {mg : Str → Option Value} {base : Heap}
theorem ok_are_bits {f : Addr} {fd : FuncData} (F : Fun K "are_bits" "are_bits" s_are_bits f fd) (T : TxB mg) : FnOk P w K mg base (L2.CX P w) 1 f fd ["part"] (sp_are_bits K) := by
  refine F.okX sc_are_bits (fun vs H Q E h => ?_) (fun cdv A outer s H vs Q E hr h => ⟨_, (pss_one (ps_ret (pe_and (pe_callB (cIsi (K := K) rfl) (by rfl) T.n_isinstance (by decide +kernel) (pa_cons (pv 0) (pa_cons (pe_bltn (v := .ty "str") rfl T.n_str (by decide +kernel) rfl) pa_nil))) (pe_one (pe_cmpR (oEqD (K := K) rfl hr.units) (pe_lc (own := [("sign", 1)]) (g := gName 1) rfl sc_are_bits.nd (pi_str (pv 0)) (blkOk_by (own := [("sign", 1)]) (N := ["part", "sign"]) (sc := defScope s_are_bits) (by decide +kernel)) (fun _ _ _ _ _ => pg_name (i := 1) sc_are_bits.nd rfl (Or.inl rfl)) (fun _ _ _ _ _ => pts_one (pt_cmpR o_notSg (pv 1) pe_str rfl)) (fun _ _ _ _ _ => (pv 1))) (pe_lst pa_nil) (nomark _)))))), ?_⟩)
  · obtain ⟨v, d, rfl, _⟩ := h
    rfl
  · obtain ⟨v, d, rfl, hv, hd, k⟩ := h
    cases hv with
    | str x =>
      have hv : Dq K H (.str x) (.str x) := .str x
      tm_at "e"
      refine lcF src_str (fun i acc => acc = ((x.cps.toList.take i).filter fun c => !bitC c).map fun c => V.str ⟨#[c]⟩) rfl (fun i acc e => by
          rw [e]
          have := nsh_strs (((x.cps.toList.take i).filter fun c => !bitC c).map fun c => (⟨#[c]⟩ : Str))
          rw [List.map_map] at this
          exact this) (hd.2 x rfl) (fun _ => rfl) (fun i z acc H2 NF NE hi hz ha e2 kF kE => ?_) fun D acc H2 ha hD e2 hDa hl => ?_
      · obtain ⟨c, hc, rfl⟩ := hz
        have et : x.cps.toList.take (i + 1) = x.cps.toList.take i ++ [c] := by
          rw [List.take_succ, hc]
          rfl
        tm_at "r"
        rw [mem_01]
        tm_at "r"
        refine w_iteB (fun hb => ?_) fun hb => ?_
        · tm_at "r"
          refine kE _ _ (Ext.refl _) ?_
          rw [et, List.filter_append, List.map_append, ha]
          simp [hb]
        · refine kF _ (Ext.refl _) ?_
          rw [et, List.filter_append, List.map_append, ha]
          simp [hb]
      · have el : x.cps.toList.take x.length = x.cps.toList := List.take_of_length_le (by simp [Str.length])
        rw [el] at ha
        tm_at "r"
        intro t H3 ht e3 ht3
        have hb : (decide (((x.cps.toList).filter fun c => !bitC c) = []) : Bool) = bitsS x := by
          unfold bitsS
          rw [Bool.eq_iff_iff, decide_eq_true_iff, List.all_eq_true, List.filter_eq_nil_iff]
          simp
        have hDa3 : SqL K H3 D acc := by
          refine e3.seq ?_ (SqL.of hDa)
          rw [ha]
          have := nsh_strs (((x.cps.toList).filter fun c => !bitC c).map fun c => (⟨#[c]⟩ : Str))
          rw [List.map_map] at this
          exact this
        have hdp : Dp K H3 (.ref D) (.list (((x.cps.toList).filter fun c => !bitC c).map fun c => PyData.str ⟨#[c]⟩)) := by
          refine .lst hDa3 ?_
          rw [ha]
          exact dpAll_map (fun c => .str _) _
        have hlay : ∀ c ∈ x.cps.toList, PyData.canLay0 (.str ⟨#[c]⟩) = true := fun c hc => by
          have h0 := hd.1
          simp only [PyData.canLay0, PyData.strOk] at h0 ⊢
          rw [Array.all_eq_true'] at h0
          have := h0 c (by simpa using hc)
          simpa using this
        refine w_eqD hdp (dp_nil (SqL.of ht3)) (shaped_mk (n := 1) ?_ ?_ (by decide)) (shaped_mk (n := 1) (by simp [PyData.canLay0, PyData.canLayAll0]) (by simp [PyData.depth, PyData.depthAll]) (by decide)) ?_
        · simp only [PyData.canLay0]
          refine lay_all fun y hy => ?_
          obtain ⟨c, hc, rfl⟩ := List.mem_map.mp hy
          exact hlay c (List.mem_filter.mp hc).1
        · simp only [PyData.depth]
          have := dep_all (n := 0) (xs := ((x.cps.toList).filter fun c => !bitC c).map fun c => PyData.str ⟨#[c]⟩) fun y hy => by
            obtain ⟨c, hc, rfl⟩ := List.mem_map.mp hy
            simp [PyData.depth]
          omega
        · have ee : PyData.eqv (.list (((x.cps.toList).filter fun c => !bitC c).map fun c => PyData.str ⟨#[c]⟩)) (.list []) = bitsS x := by
            rw [← hb]
            cases h : (x.cps.toList).filter fun c => !bitC c with
            | nil => simp [PyData.eqv, PyData.eqvAll]
            | cons c cs => simp [PyData.eqv, PyData.eqvAll]
          rw [ee]
          exact k _ (e2.trans e3)
    | non =>
      have hv : Dq K H .non .none := .non
      tm_at "e"
      exact k _ (Ext.refl _)
    | bl b =>
      have hv : Dq K H (.bl b) (.bool b) := .bl b
      tm_at "e"
      exact k _ (Ext.refl _)
    | int i =>
      have hv : Dq K H (.int i) (.int i) := .int i
      tm_at "e"
      exact k _ (Ext.refl _)
    | lst h n hz hs =>
      have hv : Dq K H _ _ := .lst h n hz hs
      tm_at "e"
      exact k _ (Ext.refl _)
    | tup h hz hs =>
      have hv : Dq K H _ _ := .tup h hz hs
      tm_at "e"
      exact k _ (Ext.refl _)
theorem ok_is_number {f : Addr} {fd : FuncData} (F : Fun K "is_number" "is_number" s_is_number f fd) (T : TxB mg) (C_are_bits : Cal P w K mg base 1 "are_bits" ["part"] (sp_are_bits K)) : FnOk P w K mg base (L2.CX P w) 2 f fd ["width", "part"] (sp_is_number K) := by
  refine F.okX sc_is_number (fun vs H Q E h => ?_) (fun cdv A outer s H vs Q E hr h => ⟨_, (pss_one (ps_ret (pe_and (pe_cal (E := E0) C_are_bits (hr.mono (by first | decide | omega)) passL (pa_cons (pv 1) pa_nil)) (pe_one (pe_cmpR op_eq (pe_callB c_lenT (by rfl) T.n_len (by decide +kernel) (pa_cons (pv 1) pa_nil)) (pv 0) (nomark _)))))), ?_⟩)
  · obtain ⟨w, v, d, rfl, _⟩ := h
    rfl
  · obtain ⟨n, v, d, rfl, hv, hd, k⟩ := h
    tm_at "r"
    refine u_are_bits hv hd fun H1 e1 => ?_
    tm_at "r"
    refine w_iteB (fun hb => ?_) fun hb => ?_
    · cases hv with
      | str x =>
        tm_at "r"
        refine w_lenS (hd.2 x rfl) ?_
        tm_at "r"
        have : decide ((x.length : Int) = n) = numD n (.str x) := by
          simp only [bitsD] at hb
          simp only [numD, hb, Bool.true_and]
        rw [this]
        exact k _ e1
      | _ => simp [bitsD] at hb
    · have : false = numD n d := by
        cases d <;> simp_all [bitsD, numD]
      rw [this]
      exact k _ e1
theorem ok_need_number {f c : Addr} {fd : FuncData} (F : Fun K "need_number" "need_number" s_need_number f fd) (T : TxB mg) (C_is_number : Cal P w K mg base 2 "is_number" ["width", "part"] (sp_is_number K)) (X_BadNumber : ExcC K mg "BadNumber" c) :
    FnOk P w K mg base (L2.CX P w) 3 f fd ["width", "part"] (sp_need_number K c) := by
  refine F.okX sc_need_number (fun vs H Q E h => ?_) (fun cdv A outer s H vs Q E hr h => ⟨_, (pss_one (ps_if (pt_not (pt_val (pe_cal (E := E) C_is_number (hr.mono (by first | decide | omega)) (passes_call (takes_of rfl rfl rfl rfl) (fun _ _ _ _ h => h)) (pa_cons (pv 0) (pa_cons (pv 1) pa_nil)))))
 (pss_one (ps_raise rfl (takes_of rfl rfl rfl rfl) (pmkC X_BadNumber)))
 pss_nil)), ?_⟩)
  · obtain ⟨w, v, d, rfl, _⟩ := h
    rfl
  · obtain ⟨n, v, d, rfl, hv, hd, k, k2⟩ := h
    tm_at "r"
    refine u_is_number hv hd fun H1 e1 => ?_
    tm_at "r"
    refine w_iteB (fun hb => ?_) fun hb => ?_
    · exact k2 (by simpa using hb) _ e1
    · tm_at "r"
      exact k (by simpa using hb) _ e1
theorem ok_need_width {f c : Addr} {fd : FuncData} {tw : Tok} (F : Fun K "need_width" "need_width" s_need_width f fd) (T : TxB mg) (k_MOST_WIDTH : mg "MOST_WIDTH" = some (.int 12 tw)) (X_BadWidth : ExcC K mg "BadWidth" c) :
    FnOk P w K mg base (L2.CX P w) 1 f fd ["width"] (sp_need_width c) := by
  refine F.okX sc_need_width (fun vs H Q E h => ?_) (fun cdv A outer s H vs Q E hr h => ⟨_, (pss_one (ps_if (PW.pt (pw_or (pt_not (pt_val (pe_callB (cIsi (K := K) rfl) (by rfl) T.n_isinstance (by decide +kernel) (pa_cons (pv 0) (pa_cons (pe_bltn (v := .ty "int") rfl T.n_int (by decide +kernel) rfl) pa_nil))))) (pw_or (pt_val (pe_callB (cIsi (K := K) rfl) (by rfl) T.n_isinstance (by decide +kernel) (pa_cons (pv 0) (pa_cons (pe_bltn (v := .ty "bool") rfl T.n_bool (by decide +kernel) rfl) pa_nil)))) (pw_or1 (pt_not (pt_chain op_le op_le pe_int (pv 0) (pe_glob (v := .int 12) rfl k_MOST_WIDTH ⟨_, rfl⟩)))))))
 (pss_one (ps_raise rfl (takes_of rfl rfl rfl rfl) (pmkC X_BadWidth)))
 pss_nil)), ?_⟩)
  · obtain ⟨w, rfl, _⟩ := h
    rfl
  · obtain ⟨n, rfl, k, k2⟩ := h
    have hv : Dq K H (.int n) (.int n) := .int n
    tm_at "r"
    tm_at "b"
    tm_at "r"
    tm_at "b"
    tm_at "r"
    refine w_iteD (fun c1 => ?_) fun c1 => ?_
    · tm_at "r"
      by_cases c2 : n ≤ 12
      · rw [decide_eq_true c2]
        tm_at "r"
        tm_at "b"
        tm_at "r"
        exact k ⟨c1, c2⟩
      · rw [decide_eq_false c2]
        tm_at "r"
        tm_at "b"
        exact k2 fun h => c2 h.2
    · tm_at "r"
      tm_at "b"
      exact k2 fun h => c1 h.1
theorem ok_look_at {f : Addr} {fd : FuncData} (F : Fun K "look_at" "look_at" s_look_at f fd) (T : TxB mg) : FnOk P w K mg base (L2.CX P w) 1 f fd ["numbers", "beginning"] (sp_look_at K) := by
  refine F.okX sc_look_at (fun vs H Q E h => ?_) (fun cdv A outer s H vs Q E hr h => ⟨_, (pss_cons (ps_setLc (i := 2) (own := [("number", 3)]) (g := gName 3) rfl sc_look_at.nd rfl rfl (sw_true rfl rfl rfl (by decide +kernel)) (piL (K := K) rfl (pv 0)) (blkOk_by (own := [("number", 3)]) (N := ["numbers", "beginning", "some", "number"]) (sc := defScope s_look_at) (by decide +kernel)) (fun _ _ _ _ _ => pg_name (i := 3) sc_look_at.nd rfl (Or.inl rfl)) (fun _ _ _ _ _ => pts_one (pt_val (pe_m1 PySem.F.slot_str_startswith PySem.F.type_str_startswith m_starts (pv 3) (pv 1)))) (fun _ _ _ _ _ => (pe_ix ix_str (pv 3) (pe_callB c_lenT (by rfl) T.n_len (by decide +kernel) (pa_cons (pv 1) pa_nil)) (fun _ _ => rfl))))
 (pss_one (ps_ret (pe_tup (pa_cons (pe_cmpR (oIn (K := K) rfl) pe_str (pv 2) (by rfl)) (pa_cons (pe_cmpR (oIn (K := K) rfl) pe_str (pv 2) (by rfl)) pa_nil)))))), ?_⟩)
  · obtain ⟨a, ls, p, rfl, _⟩ := h
    rfl
  · obtain ⟨a, ls, p, rfl, ha, hz, hl, k⟩ := h
    tm_at "r"
    refine lcF (src_lst ha (nsh_bvs _)) (fun i acc => acc = bvs (((ls.take i).filter fun l => decide (p <+: l)).map fun l => [l.getD p.length false])) rfl (fun i acc e => by rw [e]; exact nsh_bvs _) (by rw [bvs_len]; omega) (fun _ => rfl) (fun i z acc H2 NF NE hi hx hacc e2 kF kE => ?_) fun D acc H2 hacc hD e2 hDa _ => ?_
    · obtain ⟨l, hl1, rfl⟩ := bvs_get hx
      have et : ls.take (i + 1) = ls.take i ++ [l] := by
        rw [List.take_succ, hl1]
        rfl
      have hlen := hl l (List.mem_of_getElem? hl1)
      tm_at "r"
      rw [starts_B]
      tm_at "r"
      refine w_iteD (fun hb => ?_) fun hb => ?_
      · tm_at "r"
        refine w_lenS (by rw [B_len]; omega) ?_
        rw [B_len]
        obtain ⟨b, hb1⟩ : ∃ b, l[p.length]? = some b := ⟨l[p.length]'hlen.1, List.getElem?_eq_getElem hlen.1⟩
        refine w_ixS (by rw [B_len]; omega) (B_at (atI_k hb1)) ?_
        refine kE _ _ (Ext.refl _) ?_
        rw [et, List.filter_append, List.map_append, hacc, ← bvs_append]
        congr 1
        simp [hb, bvs, bv, List.getD_eq_getElem?_getD, hb1]
        rfl
      · refine kF _ (Ext.refl _) ?_
        rw [et, List.filter_append, List.map_append, hacc]
        simp [hb]
    · rw [bvs_len, List.take_length] at hacc
      subst hacc
      tm_at "r"
      refine w_in (SqL.of hDa) rfl (bvs_flat _) ?_
      rw [B_0, inV_bvs, lookZ_mem _ _ _ fun l hl2 => (hl l hl2).1]
      tm_at "r"
      refine w_in (SqL.of hDa) rfl (bvs_flat _) ?_
      rw [B_1, inV_bvs, lookZ_mem _ _ _ fun l hl2 => (hl l hl2).1]
      tm_at "r"
      intro t H3 ht e3 ht3
      exact k t H3 (e2.free ht) (e2.trans e3) ht3
theorem ok_need_kind {f c a_KINDS : Addr} {fd : FuncData} (F : Fun K "need_kind" "need_kind" s_need_kind f fd) (T : TxB mg) (k_KINDS : mg "KINDS" = some (.ref a_KINDS)) (t_KINDS : ∀ H, SqT K H a_KINDS [.str "all", .str "alarm"]) (X_BadKind : ExcC K mg "BadKind" c) :
    FnOk P w K mg base (L2.CX P w) 1 f fd ["kind"] (sp_need_kind c) := by
  refine F.okX sc_need_kind (fun vs H Q E h => ?_) (fun cdv A outer s H vs Q E hr h => ⟨_, (pss_one (ps_if (pt_cmpR (oNotIn (K := K) rfl) (pv 0) (pe_glob (v := .ref a_KINDS) rfl k_KINDS rfl) (by rfl))
 (pss_one (ps_raise rfl (takes_of rfl rfl rfl rfl) (pmkC X_BadKind)))
 pss_nil)), ?_⟩)
  · obtain ⟨w, rfl, _⟩ := h
    rfl
  · obtain ⟨x, rfl, k, k2⟩ := h
    tm_at "r"
    refine w_inT (t_KINDS H) rfl rfl ?_
    have e : inV (.str x) [V.str "all", V.str "alarm"] = decide (x = "all" ∨ x = "alarm") := by
      simp only [inV, List.any_cons, List.any_nil, Bool.or_false, eqV]
      rw [Bool.eq_iff_iff]
      simp only [Bool.or_eq_true, beq_iff_eq, decide_eq_true_eq]
      constructor
      · rintro (h | h)
        · exact .inl h.symm
        · exact .inr h.symm
      · rintro (h | h)
        · exact .inl h.symm
        · exact .inr h.symm
    rw [e]
    tm_at "r"
    refine w_iteN (fun h => ?_) fun h => ?_
    · exact k2 h
    · tm_at "r"
      exact k h
end
end My
end

section
/-! dicts whose keys are texts of signs 0 and 1; fields of instances; for over a dict -/
namespace Lw
open PySem L2
abbrev Bits := List Bool
def tK {α : Type} (f : α → V) (ts : List (Bits × α)) : List (Key × V) := ts.map fun p => (Sum.inr (B p.1), f p.2)
def alook {α : Type} (ts : List (Bits × α)) (l : Bits) : Option α := (ts.find? fun p => decide (p.1 = l)).map (·.2)
def aput {α : Type} (ts : List (Bits × α)) (l : Bits) (v : α) : List (Bits × α) := if l ∈ ts.map (·.1) then ts.map (fun p => if p.1 = l then (p.1, v) else p) else ts ++ [(l, v)]
def adrop {α : Type} (ts : List (Bits × α)) (l : Bits) : List (Bits × α) := ts.filter fun p => decide (p.1 ≠ l)
section
variable {α : Type} {f : α → V} {ts : List (Bits × α)} {l : Bits} {v : α}
theorem tK_len : (tK f ts).length = ts.length := by simp [tK]
theorem key_dec (a b : Bits) : decide ((Sum.inr (B a) : Key) = Sum.inr (B b)) = decide (a = b) := by
  by_cases h : a = b
  · subst h; simp
  · have : ¬ (Sum.inr (B a) : Key) = Sum.inr (B b) := fun e => h (B_inj (Sum.inr.inj e))
    simp [h, this]
theorem val_tK : valV (tK f ts) (Sum.inr (B l)) = (alook ts l).map f := by
  unfold valV alook tK
  induction ts with
  | nil => rfl
  | cons p r ih =>
    rw [List.map_cons, List.find?_cons, List.find?_cons]
    simp only [key_dec]
    by_cases h : p.1 = l
    · rw [decide_eq_true h]
      rfl
    · rw [decide_eq_false h]
      exact ih
theorem alook_mem : (alook ts l).isSome = decide (l ∈ ts.map (·.1)) := by
  unfold alook
  induction ts with
  | nil => rfl
  | cons p r ih =>
    rw [List.find?_cons]
    by_cases h : p.1 = l
    · rw [decide_eq_true h]
      simp [h]
    · rw [decide_eq_false h, ih]
      have : ¬ l = p.1 := fun e => h e.symm
      simp [this]
theorem put_tK : putK (tK f ts) (Sum.inr (B l)) (f v) = tK f (aput ts l v) := by
  have ha : ((tK f ts).any fun kv => decide (kv.1 = Sum.inr (B l))) = decide (l ∈ ts.map (·.1)) := by
    rw [valV_any, val_tK, Option.isSome_map, alook_mem]
  unfold putK
  rw [ha]
  unfold aput
  by_cases h : l ∈ ts.map (·.1)
  · rw [decide_eq_true h, if_pos rfl, if_pos h]
    unfold tK
    rw [List.map_map, List.map_map]
    apply List.map_congr_left
    intro p _
    show (if (Sum.inr (B p.1) : Key) = Sum.inr (B l) then _ else _) = _
    by_cases e : p.1 = l
    · rw [if_pos (by rw [e])]
      show _ = ((Sum.inr (B (if p.1 = l then (p.1, v) else p).1) : Key), f (if p.1 = l then (p.1, v) else p).2)
      rw [if_pos e]
    · rw [if_neg (fun q => e (B_inj (Sum.inr.inj q)))]
      show _ = ((Sum.inr (B (if p.1 = l then (p.1, v) else p).1) : Key), f (if p.1 = l then (p.1, v) else p).2)
      rw [if_neg e]
  · rw [decide_eq_false h, if_neg Bool.false_ne_true, if_neg h]
    simp [tK]
theorem drop_tK : dropK (tK f ts) (Sum.inr (B l)) = tK f (adrop ts l) := by
  unfold dropK adrop tK
  rw [List.filter_map]
  congr 1
  apply List.filter_congr
  intro p _
  simp only [Function.comp]
  by_cases e : p.1 = l
  · simp [e]
  · have : ¬ (Sum.inr (B p.1) : Key) = Sum.inr (B l) := fun q => e (B_inj (Sum.inr.inj q))
    simp [e, this]
theorem tK_keys : (tK f ts).map (·.1) = ((ts.map (·.1)).map B).map Sum.inr := by simp [tK]
end
/-! ### readings of dicts -/
def DinOk (y x : V) (H : Hp) (Q : VK) : Prop := ∃ a o, x = .ref a ∧ DGet H a y o ∧ Q (.bl o.isSome) H
def DnotOk (y x : V) (H : Hp) (Q : VK) : Prop := ∃ a o, x = .ref a ∧ DGet H a y o ∧ Q (.bl (!o.isSome)) H
def DgetOk (x y : V) (H : Hp) (Q : VK) : Prop := ∃ a v, x = .ref a ∧ DGet H a y (some v) ∧ Q v H
def DputOk (v x y : V) (H : Hp) (S : Hp → Prop) : Prop := ∃ a H4, x = .ref a ∧ DPut H a y v H4 ∧ S H4
def FldOk (K : PySem.W.Frag) (f : Str) (x : V) (H : Hp) (Q : VK) : Prop := ∃ a C dx fs v, x = .ref a ∧ H a = some (.ins C dx fs) ∧ Cls K C ∧ NoAttr K C f ∧ fs.lookup f = some v ∧ Q v H
def StoOk (K : PySem.W.Frag) (f : Str) (y x : V) (H : Hp) (S : Hp → Prop) : Prop := ∃ a C dx fs, x = .ref a ∧ H a = some (.ins C dx fs) ∧ Cls K C ∧ NoAttr K C f ∧ fs.length < 1000 ∧ S (upd H a (.ins C dx (putF f y fs)))
def MeOk (C : Addr) (m : Str) (sp : Sp) (E : XK) (t : TA) (σ : St) (x : V) (H : Hp) (Q : VK) : Prop := ∃ a dx fs, x = .ref a ∧ H a = some (.ins C dx fs) ∧ fs.lookup m = none ∧ t σ H fun vs H2 => sp (x :: (vs ++ [])) H2 Q E
section
variable {K : PySem.W.Frag} {σ : St} {H : Hp} {Q : VK} {D : Ends} {v x y : V} {te td ty tv tx : TE} {t : TA} {E : XK} {sp : Sp} {C : Addr} {m f : Str}
theorem w_din (k : ty σ H fun y H1 => td σ H1 fun x H2 => DinOk y x H2 Q) : tDIn ty td σ H Q := k
theorem w_dnot (k : ty σ H fun y H1 => td σ H1 fun x H2 => DnotOk y x H2 Q) : tDNotIn ty td σ H Q := k
theorem w_dget (k : td σ H fun x H1 => ty σ H1 fun y H2 => DgetOk x y H2 Q) : tDGet td ty σ H Q := k
theorem w_dput (k : tv σ H fun v H1 => td σ H1 fun x H2 => ty σ H2 fun y H3 => DputOk v x y H3 (D.nx σ)) : sDPut td ty tv D σ H := k
theorem w_fld (k : te σ H fun x H1 => FldOk K f x H1 Q) : tFld K te f σ H Q := k
theorem w_sto (k : tv σ H fun y H1 => te σ H1 fun x H2 => StoOk K f y x H2 (D.nx σ)) : sFld K te tv f D σ H := k
theorem w_meth (k : te σ H fun x H1 => MeOk C m sp E t σ x H1 Q) : tMeth C m sp [] E te t σ H Q := k
theorem w_dnew (k : ∀ p H', H p = none → Ext H H' → H' p = some (.dK []) → Q (.ref p) H') : tDNewK σ H Q := fun p hp => k p _ hp (Ext.new hp) upd_same
theorem w_meOk {a dx : Addr} {fs : List (Str × V)} (h : H a = some (.ins C dx fs)) (hn : fs.lookup m = none) (k : t σ H fun vs H2 => sp (.ref a :: (vs ++ [])) H2 Q E) : MeOk C m sp E t σ (.ref a) H Q := ⟨a, dx, fs, rfl, h, hn, k⟩
section
variable {α : Type} {g : α → V} {ts : List (Bits × α)} {l : Bits} {w : α} {d : Addr}
theorem w_dinB (h : Rd H d (.dK (tK g ts))) (k : Q (.bl (decide (l ∈ ts.map (·.1)))) H) : DinOk (.str (B l)) (.ref d) H Q :=
  ⟨d, _, rfl, .inl ⟨_, Sum.inr (B l), h, rfl, rfl⟩, by rw [val_tK, Option.isSome_map, alook_mem]; exact k⟩
theorem w_dnotB (h : Rd H d (.dK (tK g ts))) (k : Q (.bl (!decide (l ∈ ts.map (·.1)))) H) : DnotOk (.str (B l)) (.ref d) H Q :=
  ⟨d, _, rfl, .inl ⟨_, Sum.inr (B l), h, rfl, rfl⟩, by rw [val_tK, Option.isSome_map, alook_mem]; exact k⟩
theorem w_dgetB (h : Rd H d (.dK (tK g ts))) (hl : alook ts l = some w) (k : Q (g w) H) : DgetOk (.ref d) (.str (B l)) H Q :=
  ⟨d, g w, rfl, .inl ⟨_, Sum.inr (B l), h, rfl, by rw [val_tK, hl]; rfl⟩, k⟩
theorem w_dputB {S : Hp → Prop} (h : H d = some (.dK (tK g ts))) (hz : ts.length < 100000) (k : S (upd H d (.dK (tK g (aput ts l w))))) : DputOk (g w) (.ref d) (.str (B l)) H S :=
  ⟨d, _, rfl, .inl ⟨_, Sum.inr (B l), h, rfl, by rw [tK_len]; exact Nat.lt_of_lt_of_le hz (by decide), rfl⟩, by rw [put_tK]; exact k⟩
end
/-- d.pop(k), d.pop(k, x) -/
def PopK (a : Addr) (y : V) (H : Hp) (Q : VK) : Prop := ∃ kvs k v, H a = some (.dK kvs) ∧ y = kV k ∧ valV kvs k = some v ∧ Q v (upd H a (.dK (dropK kvs k)))
def PopK2 (a : Addr) (y z : V) (H : Hp) (Q : VK) : Prop := ∃ kvs k, H a = some (.dK kvs) ∧ y = kV k ∧ (∀ v, valV kvs k = some v → Q v (upd H a (.dK (dropK kvs k)))) ∧ (valV kvs k = none → Q z H)
def PopD (ty : TE) (σ : St) (x : V) (H : Hp) (Q : VK) : Prop := ∃ a, x = .ref a ∧ IsD H a ∧ ty σ H fun y H2 => PopK a y H2 Q
def PopD2 (ty tx : TE) (σ : St) (x : V) (H : Hp) (Q : VK) : Prop := ∃ a, x = .ref a ∧ IsD H a ∧ ty σ H fun y H2 => tx σ H2 fun z H3 => PopK2 a y z H3 Q
theorem w_pop1 (k : td σ H fun x H1 => PopD ty σ x H1 Q) : tDPop1 td ty σ H Q := k
theorem w_pop2 (k : td σ H fun x H1 => PopD2 ty tx σ x H1 Q) : tDPop2 td ty tx σ H Q := k
section
variable {α : Type} {g : α → V} {ts : List (Bits × α)} {l : Bits} {w : α} {d : Addr}
theorem w_popD (h : H d = some (.dK (tK g ts))) (k : ty σ H fun y H2 => PopK d y H2 Q) : PopD ty σ (.ref d) H Q := ⟨d, rfl, .inl ⟨_, .inl h⟩, k⟩
theorem w_popD2 (h : H d = some (.dK (tK g ts))) (k : ty σ H fun y H2 => tx σ H2 fun z H3 => PopK2 d y z H3 Q) : PopD2 ty tx σ (.ref d) H Q := ⟨d, rfl, .inl ⟨_, .inl h⟩, k⟩
theorem w_popK (h : H d = some (.dK (tK g ts))) (hl : alook ts l = some w) (k : Q (g w) (upd H d (.dK (tK g (adrop ts l))))) : PopK d (.str (B l)) H Q :=
  ⟨_, Sum.inr (B l), g w, h, rfl, by rw [val_tK, hl]; rfl, by rw [drop_tK]; exact k⟩
theorem adrop_not (h : l ∉ ts.map (·.1)) : adrop ts l = ts := by
  unfold adrop
  rw [List.filter_eq_self]
  intro p hp
  simp only [ne_eq, decide_not, Bool.not_eq_true', decide_eq_false_iff_not]
  intro e
  exact h (List.mem_map.mpr ⟨p, hp, e⟩)
theorem w_popK2 (h : H d = some (.dK (tK g ts))) (k1 : ∀ w, alook ts l = some w → Q (g w) (upd H d (.dK (tK g (adrop ts l))))) (k2 : alook ts l = none → Q v H) : PopK2 d (.str (B l)) v H Q := by
  refine ⟨_, Sum.inr (B l), h, rfl, fun u hu => ?_, fun hu => ?_⟩
  · rw [val_tK] at hu
    cases e : alook ts l with
    | none => rw [e] at hu; cases hu
    | some w =>
      rw [e] at hu
      have e2 : u = g w := (Option.some.inj hu).symm
      subst e2
      rw [drop_tK]
      exact k1 w e
  · rw [val_tK] at hu
    cases e : alook ts l with
    | none => exact k2 e
    | some w => rw [e] at hu; cases hu
theorem aput_new {v : α} (h : l ∉ ts.map (·.1)) : aput ts l v = ts ++ [(l, v)] := by
  unfold aput
  rw [if_neg h]
theorem aput_keys {v : α} (h : l ∈ ts.map (·.1)) : (aput ts l v).map (·.1) = ts.map (·.1) := by
  unfold aput
  rw [if_pos h, List.map_map]
  apply List.map_congr_left
  intro p _
  simp only [Function.comp]
  split <;> rfl
theorem alook_none : alook ts l = none ↔ l ∉ ts.map (·.1) := by
  have h := alook_mem (ts := ts) (l := l)
  cases e : alook ts l with
  | none => rw [e] at h; simpa using h
  | some w =>
    rw [e] at h
    simp only [Option.isSome_some] at h
    constructor
    · intro q; cases q
    · intro q; exact absurd (of_decide_eq_true h.symm) q
theorem alook_some (h : l ∈ ts.map (·.1)) : ∃ w, alook ts l = some w := by
  cases e : alook ts l with
  | none => exact absurd h (alook_none.mp e)
  | some w => exact ⟨w, rfl⟩
theorem alook_of (nd : (ts.map (·.1)).Nodup) (h : (l, w) ∈ ts) : alook ts l = some w := by
  unfold alook
  induction ts with
  | nil => cases h
  | cons p r ih =>
    rw [List.map_cons, List.nodup_cons] at nd
    rw [List.find?_cons]
    rcases List.mem_cons.mp h with e | h
    · subst e
      simp
    · have : ¬ p.1 = l := fun e => nd.1 (by rw [e]; exact List.mem_map.mpr ⟨_, h, rfl⟩)
      rw [decide_eq_false this]
      exact ih nd.2 h
end
/-! ### for over a dict -/
theorem w_lock {ts : TS} {d : Addr} {kvs : List (Key × V)} (h : H d = some (.dK kvs))
    (k : ∀ od H1, H1 d = some (.frz od (.dK kvs)) → (∀ b, b ≠ d → H1 b = H b) →
      ts ⟨fun σ' H' => H' d = some (.frz od (.dK kvs)) ∧ D.nx σ' (upd H' d (.dK kvs)), fun v H' => H' d = some (.frz od (.dK kvs)) ∧ D.rt v (upd H' d (.dK kvs)), fun σ' H' => H' d = some (.frz od (.dK kvs)) ∧ D.bk σ' (upd H' d (.dK kvs)), fun σ' H' => H' d = some (.frz od (.dK kvs)) ∧ D.ct σ' (upd H' d (.dK kvs))⟩ σ H1) :
    tLock ts D σ H := ⟨d, _, h, True.intro, fun od => k od _ upd_same fun b hb => upd_ne hb⟩
def KeysOk (x : V) (H : Hp) (R : It → Hp → Prop) : Prop := ∃ d o, x = .ref d ∧ ((∃ kvs, H d = some (.frz o (.dK kvs)) ∧ R (Itk d o kvs) H) ∨ ∃ kvs, H d = some (.frz o (.dT kvs)) ∧ R (Itkt d o kvs) H)
theorem w_ikeys {R : It → Hp → Prop} (k : td σ H fun x H1 => KeysOk x H1 R) : iKeys td σ H R := k
theorem w_keysOk {R : It → Hp → Prop} {d : Addr} {o : Obj} {kvs : List (Key × V)} (h : H d = some (.frz o (.dK kvs))) (k : R (Itk d o kvs) H) : KeysOk (.ref d) H R := ⟨d, o, rfl, .inl ⟨kvs, h, k⟩⟩
theorem forK {j : Nat} {tb : TS} {d : Addr} {o : Obj} {α : Type} {g : α → V} {ts : List (Bits × α)} (Pv : Nat → St → Hp → Prop) (hl : ∀ i σ H, Pv i σ H → H d = some (.frz o (.dK (tK g ts)))) (h0 : Pv 0 σ H)
    (hs : ∀ i l w σ' H' (N : St → Hp → Prop), ts[i]? = some (l, w) → Pv i σ' H' → (∀ σ2 H2, Pv (i + 1) σ2 H2 → N σ2 H2) → tb { D with nx := N, ct := N, bk := D.nx } (σ'.set j (some (.str (B l)))) H') (hd : ∀ σ' H', Pv ts.length σ' H' → D.nx σ' H') :
    ForB (Itk d o (tK g ts)) (gName j) tb D σ H :=
  forG (n := ts.length) (Y := fun i x => ∃ l w, ts[i]? = some (l, w) ∧ x = .str (B l)) Pv (fun i σ H hi p => ⟨fun h => ⟨⟨hl i σ H p, by rw [tK_len]; exact h⟩, fun x H' ⟨e, k, v, y, ex⟩ => ⟨e, by
      unfold tK at y
      rw [List.getElem?_map] at y
      cases q : ts[i]? with
      | none => rw [q] at y; cases y
      | some pr =>
        rw [q] at y
        obtain ⟨l, w⟩ := pr
        have y' := Option.some.inj y
        simp only [Prod.mk.injEq] at y'
        exact ⟨l, w, rfl, by rw [ex, ← y'.1]; rfl⟩⟩⟩, fun e => ⟨hl i σ H p, by rw [tK_len]; omega⟩⟩) h0 (fun i x σ' H' N hi ⟨l, w, y, ex⟩ p k => by subst ex; exact hs i l w σ' H' N y p k) hd
/-- list(d), sorted(d) -/
theorem c_listD {X : Cx} (hc : X.calm = true) : CallR X (.type "list") rListD := call_list_dK hc
theorem w_listD {α : Type} {g : α → V} {ts : List (Bits × α)} {d : Addr} (h : H d = some (.dK (tK g ts))) (k : ∀ p H', H p = none → Ext H H' → H' p = some (.lst (bvs (ts.map (·.1)))) → Q (.ref p) H') : rListD [.ref d] H Q :=
  ⟨d, _, rfl, h, fun p hp => k p _ hp (Ext.new hp) (by rw [upd_same]; simp [tK, bvs, bv, kV])⟩
def rSortD : List V → Hp → VK → Prop := fun xs H Q => ∃ (a : Addr) (kvs : List (Key × V)) (ks : List Str), xs = [.ref a] ∧ Rd H a (.dK kvs) ∧ kvs.map (·.1) = ks.map Sum.inr ∧ ks.length < 64 ∧
  ∀ ys p, ys.Perm ks → PyProof.Rows.sortedS ys = true → H p = none → Q (.ref p) (upd H p (.lst (ys.map V.str)))
theorem c_sortD {X : Cx} (hc : X.calm = true) : CallR X (.builtin "sorted") rSortD := call_sortedD hc
theorem w_sortD {α : Type} {g : α → V} {ts : List (Bits × α)} {d : Addr} (h : Rd H d (.dK (tK g ts))) (hn : ts.length < 64) (nd : (ts.map (·.1)).Nodup)
    (k : ∀ ms p H', ms.Perm (ts.map (·.1)) → Rise ms → H p = none → Ext H H' → H' p = some (.lst (bvs ms)) → Q (.ref p) H') : rSortD [.ref d] H Q := by
  refine ⟨d, _, (ts.map (·.1)).map B, rfl, h, tK_keys, by simp; exact hn, fun ys p hp hs hn => ?_⟩
  obtain ⟨ms, rfl, hm⟩ := perm_B hp
  exact k ms p _ hm (rise_of hs (hm.nodup_iff.mpr nd)) hn (Ext.new hn) (by rw [upd_same, bvs_strs])
end
end Lw
end

section
/-! the wire: its model and its places -/
namespace Lw
open PySem L2
structure WM where
  width : Nat
  things : List (Bits × Bool)
  lis : List Bits
  told : Option Bits
  many : Nat
structure WOk (M : WM) : Prop where
  w1 : 1 ≤ M.width
  w2 : M.width ≤ 12
  nd : (M.things.map (·.1)).Nodup
  len : ∀ l, l ∈ M.things.map (·.1) → l.length = M.width
  sz : M.things.length ≤ 60
  lnd : M.lis.Nodup
  llen : ∀ l ∈ M.lis, l.length = M.width
  lsz : M.lis.length ≤ 60
  tl : ∀ b, M.told = some b → b.length ≤ M.width ∧ ∀ l ∈ M.lis, b <+: l
  tn : M.told = none → M.lis = []
def tvo : Option Bits → V
  | none => .non
  | some b => .str (B b)
def wf (w : Nat) (t l : Addr) (told : Option Bits) (many : Nat) : List (Str × V) := [("width", .int (w : Int)), ("things", .ref t), ("listening", .ref l), ("told", tvo told), ("many", .int (many : Int))]
def liK (ls : List Bits) : List (Bits × Bool) := ls.map fun l => (l, true)
theorem liK_keys (ls : List Bits) : (liK ls).map (·.1) = ls := by simp [liK, Function.comp_def]
/-- the wire at a -/
structure WAt (CW a dx t l : Addr) (M : WM) (H : Hp) : Prop where
  ob : H a = some (.ins CW dx (wf M.width t l M.told M.many))
  th : H t = some (.dK (tK V.bl M.things))
  li : H l = some (.dK (tK V.bl (liK M.lis)))
  tl : t ≠ l
theorem own_dK {kvs} : Ownd (.dK kvs) := ⟨nsh_dK, fun _ _ q => (by cases q), fun _ q => (by cases q), fun _ q => (by cases q)⟩
theorem own_ins {C dx fs} : Ownd (.ins C dx fs) := ⟨nsh_ins, fun _ _ q => (by cases q), fun _ q => (by cases q), fun _ q => (by cases q)⟩
theorem own_bvs (ls : List Bits) : Ownd (.lst (bvs ls)) := ⟨nsh_bvs _, fun _ _ q => (by cases q), fun _ q => (by cases q), fun _ q => (by cases q)⟩
theorem own_refs (ls : List Addr) : Ownd (.lst (ls.map V.ref)) := ⟨nsh_refs _, fun _ _ q => (by cases q), fun _ q => (by cases q), fun _ q => (by cases q)⟩
theorem own_tup {xs} : Ownd (.tup xs) := ⟨nsh_tup, fun _ _ q => (by cases q), fun _ q => (by cases q), fun _ q => (by cases q)⟩
def oWire (CW a dx t l : Addr) (M : WM) : Own where
  S := WAt CW a dx t l M
  F := [a, t, l]
  loc := fun h s => ⟨h _ (by simp) _ s.ob, h _ (by simp) _ s.th, h _ (by simp) _ s.li, s.tl⟩
  al := fun s b hb => by
    simp only [List.mem_cons, List.not_mem_nil, or_false] at hb
    rcases hb with rfl | rfl | rfl
    · exact ⟨_, s.ob, own_ins⟩
    · exact ⟨_, s.th, own_dK⟩
    · exact ⟨_, s.li, own_dK⟩
section
variable {CW a dx t l : Addr} {M : WM} {H : Hp}
theorem WAt.at_ (s : WAt CW a dx t l M H) : a ≠ t := ne_of s.ob s.th (fun q => by cases q)
theorem WAt.al (s : WAt CW a dx t l M H) : a ≠ l := ne_of s.ob s.li (fun q => by cases q)
end
/-- the class, as the top has made it -/
structure ClW (K : PySem.W.Frag) (CW : Addr) : Prop where
  cl : Cls K CW
  n_width : NoAttr K CW "width"
  n_things : NoAttr K CW "things"
  n_listening : NoAttr K CW "listening"
  n_told : NoAttr K CW "told"
  n_many : NoAttr K CW "many"
section
variable {K : PySem.W.Frag} {CW a dx t l : Addr} {w many : Nat} {told : Option Bits} {H : Hp} {Q : VK} {S : Hp → Prop}
theorem f_width (T : ClW K CW) (h : H a = some (.ins CW dx (wf w t l told many))) (k : Q (.int (w : Int)) H) : FldOk K "width" (.ref a) H Q := ⟨a, CW, dx, _, _, rfl, h, T.cl, T.n_width, by kernel_rfl, k⟩
theorem f_things (T : ClW K CW) (h : H a = some (.ins CW dx (wf w t l told many))) (k : Q (.ref t) H) : FldOk K "things" (.ref a) H Q := ⟨a, CW, dx, _, _, rfl, h, T.cl, T.n_things, by kernel_rfl, k⟩
theorem f_listening (T : ClW K CW) (h : H a = some (.ins CW dx (wf w t l told many))) (k : Q (.ref l) H) : FldOk K "listening" (.ref a) H Q := ⟨a, CW, dx, _, _, rfl, h, T.cl, T.n_listening, by kernel_rfl, k⟩
theorem f_told (T : ClW K CW) (h : H a = some (.ins CW dx (wf w t l told many))) (k : Q (tvo told) H) : FldOk K "told" (.ref a) H Q := ⟨a, CW, dx, _, _, rfl, h, T.cl, T.n_told, by kernel_rfl, k⟩
theorem f_tolds {b : Bits} (T : ClW K CW) (h : H a = some (.ins CW dx (wf w t l (some b) many))) (k : Q (.str (B b)) H) : FldOk K "told" (.ref a) H Q := f_told T h k
theorem f_many (T : ClW K CW) (h : H a = some (.ins CW dx (wf w t l told many))) (k : Q (.int (many : Int)) H) : FldOk K "many" (.ref a) H Q := ⟨a, CW, dx, _, _, rfl, h, T.cl, T.n_many, by kernel_rfl, k⟩
theorem p_told (b : Bits) : putF "told" (.str (B b)) (wf w t l told many) = wf w t l (some b) many := by kernel_rfl
theorem p_listening (l2 : Addr) : putF "listening" (.ref l2) (wf w t l told many) = wf w t l2 told many := by kernel_rfl
theorem p_many (m : Nat) : putF "many" (.int (m : Int)) (wf w t l told many) = wf w t l told m := by kernel_rfl
theorem s_told {b : Bits} (T : ClW K CW) (h : H a = some (.ins CW dx (wf w t l told many))) (k : S (upd H a (.ins CW dx (wf w t l (some b) many)))) : StoOk K "told" (.str (B b)) (.ref a) H S := ⟨a, CW, dx, _, rfl, h, T.cl, T.n_told, by show 5 < 1000; decide, by rw [p_told]; exact k⟩
theorem s_listening {l2 : Addr} (T : ClW K CW) (h : H a = some (.ins CW dx (wf w t l told many))) (k : S (upd H a (.ins CW dx (wf w t l2 told many)))) : StoOk K "listening" (.ref l2) (.ref a) H S := ⟨a, CW, dx, _, rfl, h, T.cl, T.n_listening, by show 5 < 1000; decide, by rw [p_listening]; exact k⟩
theorem s_many {m : Nat} (T : ClW K CW) (h : H a = some (.ins CW dx (wf w t l told many))) (k : S (upd H a (.ins CW dx (wf w t l told m)))) : StoOk K "many" (.int (m : Int)) (.ref a) H S := ⟨a, CW, dx, _, rfl, h, T.cl, T.n_many, by show 5 < 1000; decide, by rw [p_many]; exact k⟩
end
/-! ### what becomes of a wire -/
def WM.keys (M : WM) : List Bits := M.things.map (·.1)
def WM.hang (M : WM) (l : Bits) : WM := { M with things := M.things ++ [(l, false)] }
def WM.off (M : WM) (l : Bits) : WM := { M with things := adrop M.things l, lis := M.lis.filter fun x => decide (x ≠ l) }
def WM.set (M : WM) (l : Bits) (b : Bool) : WM := { M with things := aput M.things l b }
def WM.begin (M : WM) (all : Bool) : WM := { M with told := some [], lis := (M.things.filter fun p => all || p.2).map (·.1) }
def WM.look (M : WM) : WM := { M with many := M.many + 1 }
def WM.say (M : WM) (b : Bits) (c : Bool) : WM := { M with told := some (b ++ [c]), lis := M.lis.filter fun l => decide (b ++ [c] <+: l) }
section
variable {M : WM} {l b : Bits} {c : Bool}
theorem adrop_keys {α : Type} (ts : List (Bits × α)) (l : Bits) : (adrop ts l).map (·.1) = (ts.map (·.1)).filter fun x => decide (x ≠ l) := by
  unfold adrop
  rw [List.filter_map]
  rfl
theorem WOk.hang (h : WOk M) (hl : l ∉ M.keys) (hw : l.length = M.width) (hz : M.things.length < 60) : WOk (M.hang l) where
  w1 := h.w1
  w2 := h.w2
  nd := by
    show (List.map _ (M.things ++ [(l, false)])).Nodup
    rw [List.map_append]
    exact List.nodup_append.mpr ⟨h.nd, by simp, fun x hx y hy e => by
      simp at hy
      subst hy
      subst e
      exact hl hx⟩
  len := fun x hx => by
    change x ∈ List.map _ (M.things ++ [(l, false)]) at hx
    rw [List.map_append, List.mem_append] at hx
    rcases hx with hx | hx
    · exact h.len x hx
    · simp at hx
      rw [hx]
      exact hw
  sz := by
    show (M.things ++ [(l, false)]).length ≤ 60
    rw [List.length_append]
    simp
    omega
  lnd := h.lnd
  llen := h.llen
  lsz := h.lsz
  tl := h.tl
  tn := h.tn
theorem WOk.off (h : WOk M) : WOk (M.off l) where
  w1 := h.w1
  w2 := h.w2
  nd := by
    show ((adrop M.things l).map (·.1)).Nodup
    rw [adrop_keys]
    exact h.nd.filter _
  len := fun x hx => by
    change x ∈ (adrop M.things l).map (·.1) at hx
    rw [adrop_keys] at hx
    exact h.len x (List.mem_filter.mp hx).1
  sz := Nat.le_trans (List.length_filter_le _ _) h.sz
  lnd := h.lnd.filter _
  llen := fun x hx => h.llen x (List.mem_filter.mp hx).1
  lsz := Nat.le_trans (List.length_filter_le _ _) h.lsz
  tl := fun b hb => ⟨(h.tl b hb).1, fun x hx => (h.tl b hb).2 x (List.mem_filter.mp hx).1⟩
  tn := fun hn => by
    show M.lis.filter _ = []
    rw [h.tn hn]
    rfl
theorem WOk.set (h : WOk M) (hl : l ∈ M.keys) : WOk (M.set l c) where
  w1 := h.w1
  w2 := h.w2
  nd := by
    show ((aput M.things l c).map (·.1)).Nodup
    rw [aput_keys hl]
    exact h.nd
  len := fun x hx => by
    change x ∈ (aput M.things l c).map (·.1) at hx
    rw [aput_keys hl] at hx
    exact h.len x hx
  sz := by
    have : (aput M.things l c).length = M.things.length := by
      rw [← List.length_map (f := (·.1)), aput_keys hl, List.length_map]
    show (aput M.things l c).length ≤ 60
    rw [this]
    exact h.sz
  lnd := h.lnd
  llen := h.llen
  lsz := h.lsz
  tl := h.tl
  tn := h.tn
theorem begin_sub (M : WM) (c : Bool) : ((M.things.filter fun p => c || p.2).map (·.1)).Sublist (M.things.map (·.1)) := (List.filter_sublist).map _
theorem WOk.begin (h : WOk M) : WOk (M.begin c) where
  w1 := h.w1
  w2 := h.w2
  nd := h.nd
  len := h.len
  sz := h.sz
  lnd := h.nd.sublist (begin_sub M c)
  llen := fun x hx => h.len x ((begin_sub M c).subset hx)
  lsz := Nat.le_trans (begin_sub M c).length_le (by rw [List.length_map]; exact h.sz)
  tl := fun b hb => by
    cases hb
    exact ⟨Nat.zero_le _, fun x _ => List.nil_prefix⟩
  tn := fun hn => by cases hn
theorem WOk.look (h : WOk M) : WOk M.look := ⟨h.w1, h.w2, h.nd, h.len, h.sz, h.lnd, h.llen, h.lsz, h.tl, h.tn⟩
theorem WOk.say (h : WOk M) (hb : b.length < M.width) : WOk (M.say b c) where
  w1 := h.w1
  w2 := h.w2
  nd := h.nd
  len := h.len
  sz := h.sz
  lnd := h.lnd.filter _
  llen := fun x hx => h.llen x (List.mem_filter.mp hx).1
  lsz := Nat.le_trans (List.length_filter_le _ _) h.lsz
  tl := fun d hd => by
    cases hd
    exact ⟨by simp; exact hb, fun x hx => of_decide_eq_true (List.mem_filter.mp hx).2⟩
  tn := fun hn => by cases hn
end
end Lw
end

section
open PySem L2 Lw
local macro_rules | `(tactic| tm_at "s") => `(tactic| first
  | with_reducible refine w_seq ?_ | with_reducible refine w_asg ?_ | with_reducible refine w_gname ?_ | with_reducible refine w_ret ?_ | with_reducible refine w_drop ?_ | with_reducible refine w_ifS ?_ | with_reducible refine w_next ?_ | with_reducible refine w_retN ?_
  | with_reducible refine w_c ?_ | ((with_reducible refine w_var (v := ?vv) ?hh ?kk); (case hh => exact rfl)) | with_reducible refine w_op ?_ | with_reducible refine w_un ?_ | with_reducible refine w_cons ?_ | with_reducible refine w_nil ?_ | with_reducible refine w_test ?_ | with_reducible refine w_B ?_
  | with_reducible refine w_isbl ?_ | with_reducible refine w_not ?_ | with_reducible refine w_and ?_ | with_reducible refine w_or ?_ | with_reducible refine w_andV ?_ | with_reducible refine w_orV ?_ | with_reducible refine w_notV ?_ | with_reducible refine w_if ?_ | with_reducible refine w_chain ?_
  | with_reducible refine w_isN ?_ | with_reducible refine w_notN ?_ | with_reducible refine w_yes ?_ | with_reducible refine w_call ?_ | with_reducible refine w_CB ?_ | with_reducible refine w_tup ?_ | with_reducible refine w_lst ?_ | with_reducible refine w_sl ?_ | with_reducible refine w_noPart ?_
  | with_reducible refine w_part ?_ | with_reducible refine w_isint ?_ | with_reducible refine w_gSub ?_ | with_reducible refine w_break ?_ | with_reducible refine w_cont ?_
  | with_reducible refine w_I0 ?_ | with_reducible refine w_eqI ?_ | with_reducible refine w_neI ?_ | with_reducible refine w_eqS ?_ | with_reducible refine w_neS ?_ | with_reducible refine w_eqB ?_ | with_reducible refine w_neB ?_ | ((with_reducible refine w_isi (d := ?dd) ?hh ?kk); (case hh => assumption))
  | with_reducible refine w_sg ?_ | with_reducible refine w_notSg ?_ | with_reducible refine w_starts ?_ | with_reducible refine w_max2 ?_ | with_reducible refine w_min2 ?_ | with_reducible refine w_intB ?_ | with_reducible refine w_intI ?_ | with_reducible refine w_bm ?_ | with_reducible refine w_bm0 ?_ | with_reducible refine w_m1 ?_ | with_reducible refine w_m0 ?_ | with_reducible refine w_isstr ?_
  | with_reducible refine w_for ?_ | with_reducible refine w_lc ?_ | with_reducible refine w_rng ?_ | with_reducible refine w_rng2 ?_ | with_reducible refine w_ilist ?_ | with_reducible refine w_itup ?_ | with_reducible refine w_istr ?_ | with_reducible refine w_strOk ?_
  | ((with_reducible refine w_rngOk ?hh ?h2 ?kk); (case hh => omega); (case h2 => omega)) | ((with_reducible refine w_lstOk (xs := ?xx) ?hh ?kk); (case hh => assumption))
  | ((with_reducible refine w_alL ?hh ?kk); (case hh => exact Nat.le_of_ble_eq_true rfl)) | ((with_reducible refine w_alT ?hh ?kk); (case hh => exact Nat.le_of_ble_eq_true rfl))
  | ((with_reducible refine w_lenL (xs := ?xx) ?hh ?kk); (case hh => assumption)) | ((with_reducible refine w_lenT (xs := ?xx) ?hh ?kk); (case hh => assumption))
  | ((with_reducible refine w_I ?hh ?kk); (case hh => first | (show _ ≠ (0 : Int); omega) | (show (0 : Int) < _; omega) | exact ⟨by omega, by omega⟩ | exact .inl ⟨by omega, by omega⟩ | exact .inr ⟨by omega, by omega⟩ | exact ⟨by decide, by decide, by decide⟩))
  | with_reducible refine w_din ?_ | with_reducible refine w_dnot ?_ | with_reducible refine w_dget ?_ | with_reducible refine w_dput ?_ | with_reducible refine w_fld ?_ | with_reducible refine w_sto ?_ | with_reducible refine w_meth ?_ | with_reducible refine w_pop1 ?_ | with_reducible refine w_pop2 ?_ | with_reducible refine w_ikeys ?_
  | ((with_reducible refine f_width (CW := ?v1) (dx := ?v2) (t := ?v3) (l := ?v4) (w := ?v5) (told := ?v6) (many := ?v7) ?tw ?hh ?kk); (case tw => assumption); (case hh => assumption))
  | ((with_reducible refine f_things (CW := ?v1) (dx := ?v2) (t := ?v3) (l := ?v4) (w := ?v5) (told := ?v6) (many := ?v7) ?tw ?hh ?kk); (case tw => assumption); (case hh => assumption))
  | ((with_reducible refine f_listening (CW := ?v1) (dx := ?v2) (t := ?v3) (l := ?v4) (w := ?v5) (told := ?v6) (many := ?v7) ?tw ?hh ?kk); (case tw => assumption); (case hh => assumption))
  | ((with_reducible refine f_tolds (CW := ?v1) (dx := ?v2) (t := ?v3) (l := ?v4) (w := ?v5) (b := ?v6) (many := ?v7) ?tw ?hh ?kk); (case tw => assumption); (case hh => assumption))
  | ((with_reducible refine f_told (CW := ?v1) (dx := ?v2) (t := ?v3) (l := ?v4) (w := ?v5) (told := ?v6) (many := ?v7) ?tw ?hh ?kk); (case tw => assumption); (case hh => assumption))
  | ((with_reducible refine f_many (CW := ?v1) (dx := ?v2) (t := ?v3) (l := ?v4) (w := ?v5) (told := ?v6) (many := ?v7) ?tw ?hh ?kk); (case tw => assumption); (case hh => assumption))
  | ((with_reducible refine w_ixL (v := ?vv) (xs := ?xx) ?hh ?h2 ?kk); (case hh => assumption); (case h2 => exact rfl)) | ((with_reducible refine w_ixT (v := ?vv) (xs := ?xx) ?hh ?h2 ?kk); (case hh => assumption); (case h2 => exact rfl)))
local macro_rules | `(tactic| tm_at "r") => `(tactic| repeat tm_at "s")
local macro_rules | `(tactic| tm_at "b") => `(tactic| first | refine w_iteT (by with_reducible rfl) ?_ | refine w_iteF (by with_reducible rfl) ?_ | refine w_iteT (by rfl) ?_ | refine w_iteF (by rfl) ?_)
local macro_rules | `(tactic| tm_at "e") => `(tactic| repeat (first | tm_at "s" | tm_at "b"))
namespace My
def bi (c : Bool) : Int := if c then 1 else 0
theorem str_bi (c : Bool) : (Str.ofString (toString (bi c)) : Str) = B [c] := by cases c <;> decide +kernel
abbrev s_Wire_init : Stmt := inClass (top 27) 0
theorem sc_Wire_init : FnScope ["self", "width"] ["self", "width"] (defScope s_Wire_init) := ⟨rfl, rfl, rfl, by decide +kernel, rfl, by decide +kernel, by decide +kernel⟩
abbrev s_Wire_hang : Stmt := inClass (top 27) 1
theorem sc_Wire_hang : FnScope ["self", "number"] ["self", "number"] (defScope s_Wire_hang) := ⟨rfl, rfl, rfl, by decide +kernel, rfl, by decide +kernel, by decide +kernel⟩
abbrev s_Wire_need_thing : Stmt := inClass (top 27) 2
theorem sc_Wire_need_thing : FnScope ["self", "number"] ["self", "number"] (defScope s_Wire_need_thing) := ⟨rfl, rfl, rfl, by decide +kernel, rfl, by decide +kernel, by decide +kernel⟩
abbrev s_Wire_off : Stmt := inClass (top 27) 3
theorem sc_Wire_off : FnScope ["self", "number"] ["self", "number"] (defScope s_Wire_off) := ⟨rfl, rfl, rfl, by decide +kernel, rfl, by decide +kernel, by decide +kernel⟩
abbrev s_Wire_alarm : Stmt := inClass (top 27) 4
theorem sc_Wire_alarm : FnScope ["self", "number"] ["self", "number"] (defScope s_Wire_alarm) := ⟨rfl, rfl, rfl, by decide +kernel, rfl, by decide +kernel, by decide +kernel⟩
abbrev s_Wire_calm : Stmt := inClass (top 27) 5
theorem sc_Wire_calm : FnScope ["self", "number"] ["self", "number"] (defScope s_Wire_calm) := ⟨rfl, rfl, rfl, by decide +kernel, rfl, by decide +kernel, by decide +kernel⟩
abbrev s_Wire_hung : Stmt := inClass (top 27) 6
theorem sc_Wire_hung : FnScope ["self"] ["self"] (defScope s_Wire_hung) := ⟨rfl, rfl, rfl, by decide +kernel, rfl, by decide +kernel, by decide +kernel⟩
abbrev s_Wire_begin : Stmt := inClass (top 27) 8
theorem sc_Wire_begin : FnScope ["self", "kind", "number"] ["self", "kind"] (defScope s_Wire_begin) := ⟨rfl, rfl, rfl, by decide +kernel, rfl, by decide +kernel, by decide +kernel⟩
abbrev s_Wire_need_round : Stmt := inClass (top 27) 9
theorem sc_Wire_need_round : FnScope ["self"] ["self"] (defScope s_Wire_need_round) := ⟨rfl, rfl, rfl, by decide +kernel, rfl, by decide +kernel, by decide +kernel⟩
abbrev s_Wire_look : Stmt := inClass (top 27) 10
theorem sc_Wire_look : FnScope ["self"] ["self"] (defScope s_Wire_look) := ⟨rfl, rfl, rfl, by decide +kernel, rfl, by decide +kernel, by decide +kernel⟩
abbrev s_Wire_say : Stmt := inClass (top 27) 11
theorem sc_Wire_say : FnScope ["self", "bit", "number"] ["self", "bit"] (defScope s_Wire_say) := ⟨rfl, rfl, rfl, by decide +kernel, rfl, by decide +kernel, by decide +kernel⟩
abbrev s_Wire_looks : Stmt := inClass (top 27) 12
theorem sc_Wire_looks : FnScope ["self"] ["self"] (defScope s_Wire_looks) := ⟨rfl, rfl, rfl, by decide +kernel, rfl, by decide +kernel, by decide +kernel⟩
section
variable (K : PySem.W.Frag) (CW cW cN cT cNT cK cR cB : Addr)
def sp_winit : Sp := fun vs H Q E => ∃ (a dx : Addr) (w : Int), vs = [.ref a, .int w] ∧ H a = some (.ins CW dx []) ∧ (¬ (1 ≤ w ∧ w ≤ 12) → E (.ref cW) none H) ∧
  ∀ (n : Nat) (t l : Addr) (H' : Hp), w = (n : Int) → 1 ≤ n → n ≤ 12 → WAt CW a dx t l ⟨n, [], [], none, 0⟩ H' → Step [a] [a, t, l] H H' → Q .non H'
def sp_hang : Sp := fun vs H Q E => ∃ (a dx t l : Addr) (M : WM) (v : V) (d : PyData), vs = [.ref a, v] ∧ WAt CW a dx t l M H ∧ WOk M ∧ M.things.length < 60 ∧ Dq K H v d ∧ OkD d ∧
  (numD M.width d = false → ∀ H', Ext H H' → E (.ref cN) none H') ∧
  (∀ x, d = .str (B x) → x.length = M.width → x ∈ M.keys → ∀ H', Ext H H' → E (.ref cT) none H') ∧
  (∀ x H', d = .str (B x) → x.length = M.width → x ∉ M.keys → WAt CW a dx t l (M.hang x) H' → Step [a, t, l] [a, t, l] H H' → Q .non H')
/-- need_thing; G: what a thing that hangs leads to -/
def sp_thing (G : Addr → Addr → Addr → Addr → WM → Bits → Hp → Hp → Prop) : Sp := fun vs H Q E => ∃ (a dx t l : Addr) (M : WM) (v : V) (d : PyData), vs = [.ref a, v] ∧ WAt CW a dx t l M H ∧ WOk M ∧ Dq K H v d ∧ OkD d ∧
  (numD M.width d = false → ∀ H', Ext H H' → E (.ref cN) none H') ∧
  (∀ x, d = .str (B x) → x.length = M.width → x ∉ M.keys → ∀ H', Ext H H' → E (.ref cNT) none H') ∧
  (∀ x H', d = .str (B x) → x.length = M.width → x ∈ M.keys → G a dx t l M x H H' → Q .non H')
def gThing : Addr → Addr → Addr → Addr → WM → Bits → Hp → Hp → Prop := fun _ _ _ _ _ _ H H' => Ext H H'
def gOff : Addr → Addr → Addr → Addr → WM → Bits → Hp → Hp → Prop := fun a dx t l M x H H' => WAt CW a dx t l (M.off x) H' ∧ Step [a, t, l] [a, t, l] H H'
def gSet (b : Bool) : Addr → Addr → Addr → Addr → WM → Bits → Hp → Hp → Prop := fun a dx t l M x H H' => WAt CW a dx t l (M.set x b) H' ∧ Step [a, t, l] [a, t, l] H H'
def sp_hung : Sp := fun vs H Q _ => ∃ (a dx t l : Addr) (M : WM), vs = [.ref a] ∧ WAt CW a dx t l M H ∧ WOk M ∧
  ∀ (p : Addr) (ls : List Bits) (H' : Hp), H p = none → Ext H H' → H' p = some (.lst (bvs ls)) → Rise ls → ls.Perm M.keys → Q (.ref p) H'
def sp_begin : Sp := fun vs H Q E => ∃ (a dx t l : Addr) (M : WM) (x : Str), vs = [.ref a, .str x] ∧ WAt CW a dx t l M H ∧ WOk M ∧ (¬ (x = "all" ∨ x = "alarm") → E (.ref cK) none H) ∧
  ∀ (l' : Addr) (H' : Hp), (x = "all" ∨ x = "alarm") → WAt CW a dx t l' (M.begin (decide (x = "all"))) H' → Step [a, t, l] [a, t, l'] H H' → Q .non H'
def Under (M : WM) (b : Bits) : Prop := M.told = some b ∧ b.length < M.width
def sp_need_round : Sp := fun vs H Q E => ∃ (a dx t l : Addr) (M : WM), vs = [.ref a] ∧ WAt CW a dx t l M H ∧ WOk M ∧ ((∀ b, ¬ Under M b) → E (.ref cR) none H) ∧ (∀ b, Under M b → Q .non H)
def sp_look : Sp := fun vs H Q E => ∃ (a dx t l : Addr) (M : WM), vs = [.ref a] ∧ WAt CW a dx t l M H ∧ WOk M ∧ ((∀ b, ¬ Under M b) → E (.ref cR) none H) ∧
  ∀ (b : Bits) (p : Addr) (H' : Hp), Under M b → H p = none → WAt CW a dx t l M.look H' → Step [a, t, l] [a, t, l] H H' → H' p = some (.tup [.bl (lookZ M.lis b false), .bl (lookZ M.lis b true)]) → Q (.ref p) H'
def sp_say : Sp := fun vs H Q E => ∃ (a dx t l : Addr) (M : WM) (i : Int), vs = [.ref a, .int i] ∧ WAt CW a dx t l M H ∧ WOk M ∧ ((∀ b, ¬ Under M b) → E (.ref cR) none H) ∧ (∀ b, Under M b → ¬ (i = 0 ∨ i = 1) → ∀ H', Ext H H' → E (.ref cB) none H') ∧
  ∀ (b : Bits) (c : Bool) (H' : Hp), Under M b → i = bi c → WAt CW a dx t l (M.say b c) H' → Step [a, t, l] [a, t, l] H H' → Q .non H'
def sp_looks : Sp := fun vs H Q _ => ∃ (a dx t l : Addr) (M : WM), vs = [.ref a] ∧ WAt CW a dx t l M H ∧ Q (.int (M.many : Int)) H
end
theorem num_is {w : Nat} {d : PyData} (h : numD (w : Int) d = true) : ∃ x, d = .str (B x) ∧ x.length = w := by
  cases d with
  | str s =>
    simp only [numD, Bool.and_eq_true, decide_eq_true_eq] at h
    obtain ⟨x, rfl⟩ := bits_is h.1
    exact ⟨x, rfl, by have := h.2; rw [B_len] at this; omega⟩
  | _ => simp [numD] at h
theorem dq_str {K : PySem.W.Frag} {H : Hp} {v : V} {s : Str} (h : Dq K H v (.str s)) : v = .str s := by
  cases h
  rfl
section
variable {P : Program} {w : World} {K : PySem.W.Frag} {mg : Str → Option Value} {base : Heap} {CW : Addr}
theorem ok_winit {f c : Addr} {fd : FuncData} (F : Fun K "__init__" "Wire.__init__" s_Wire_init f fd) (T : TxB mg) (TW : ClW K CW) (C_need_width : Cal P w K mg base 1 "need_width" ["width"] (sp_need_width c)) :
    FnOk P w K mg base (L2.CX P w) 2 f fd ["self", "width"] (sp_winit CW c) := by
  refine F.okX sc_Wire_init (fun vs H Q E h => ?_) (fun cdv A outer s H vs Q E hr h => ⟨_, (pss_cons (ps_expr (pe_cal (E := E) C_need_width (hr.mono (by first | decide | omega)) (passes_call (takes_of rfl rfl rfl rfl) (fun _ _ _ _ h => h)) (pa_cons (pv 1) pa_nil)))
 (pss_cons (sFldK (K := K) rfl (pv 0) (pv 1) rfl)
 (pss_cons (sFldK (K := K) rfl (pv 0) pe_dnewK rfl)
 (pss_cons (sFldK (K := K) rfl (pv 0) pe_dnewK rfl)
 (pss_cons (sFldK (K := K) rfl (pv 0) pe_non rfl)
 (pss_one (sFldK (K := K) rfl (pv 0) pe_int rfl))))))), ?_⟩)
  · obtain ⟨a, dx, n, rfl, _⟩ := h
    rfl
  · obtain ⟨a, dx, n, rfl, ha, kE, k⟩ := h
    tm_at "r"
    refine ⟨n, rfl, fun hn => ?_, fun hn => kE hn⟩
    obtain ⟨m, rfl⟩ : ∃ m : Nat, n = (m : Int) := ⟨n.toNat, by omega⟩
    tm_at "r"
    refine ⟨a, CW, dx, [], rfl, ha, TW.cl, TW.n_width, Nat.le_of_ble_eq_true (by kernel_rfl), ?_⟩
    have m1 : Step [a] [a] H (upd H a (.ins CW dx (putF "width" (.int (m : Int)) []))) := Step.wr ha (by simp)
    have a1 : upd H a (.ins CW dx (putF "width" (.int (m : Int)) [])) a = some (.ins CW dx (putF "width" (.int (m : Int)) [])) := upd_same
    generalize upd H a (.ins CW dx (putF "width" (.int (m : Int)) [])) = H1 at m1 a1 ⊢
    tm_at "r"
    refine w_dnew fun t H2 ht e2 ht2 => ?_
    have a2 := e2.st _ _ a1 nsh_ins
    have nat : t ≠ a := fun e => by rw [e, a1] at ht; cases ht
    tm_at "r"
    refine ⟨a, CW, dx, _, rfl, a2, TW.cl, TW.n_things, Nat.le_of_ble_eq_true (by kernel_rfl), ?_⟩
    have m3 := (m1.trans (Step.of e2)).trans (Step.wr (o := .ins CW dx (putF "things" (.ref t) (putF "width" (.int (m : Int)) []))) a2 (by simp))
    have t3 : upd H2 a (.ins CW dx (putF "things" (.ref t) (putF "width" (.int (m : Int)) []))) t = some (.dK []) := by rw [upd_ne nat]; exact ht2
    have a3 : upd H2 a (.ins CW dx (putF "things" (.ref t) (putF "width" (.int (m : Int)) []))) a = _ := upd_same
    generalize upd H2 a (.ins CW dx (putF "things" (.ref t) (putF "width" (.int (m : Int)) []))) = H3 at m3 t3 a3 ⊢
    tm_at "r"
    refine w_dnew fun l H4 hl e4 hl4 => ?_
    have a4 := e4.st _ _ a3 nsh_ins
    have t4 := e4.st _ _ t3 nsh_dK
    have nal : l ≠ a := fun e => by rw [e, a3] at hl; cases hl
    have ntl : t ≠ l := fun e => by rw [← e, t3] at hl; cases hl
    tm_at "r"
    refine ⟨a, CW, dx, _, rfl, a4, TW.cl, TW.n_listening, Nat.le_of_ble_eq_true (by kernel_rfl), ?_⟩
    tm_at "r"
    refine ⟨a, CW, dx, _, rfl, upd_same, TW.cl, TW.n_told, Nat.le_of_ble_eq_true (by kernel_rfl), ?_⟩
    rw [upd_upd]
    tm_at "r"
    refine ⟨a, CW, dx, _, rfl, upd_same, TW.cl, TW.n_many, Nat.le_of_ble_eq_true (by kernel_rfl), ?_⟩
    rw [upd_upd]
    have ef : putF "many" (.int 0) (putF "told" V.non (putF "listening" (.ref l) (putF "things" (.ref t) (putF "width" (.int (m : Int)) [])))) = wf m t l none 0 := by kernel_rfl
    rw [ef]
    refine k m t l _ rfl (by omega) (by omega) ⟨upd_same, by rw [upd_ne nat]; exact t4, by rw [upd_ne nal]; exact hl4, ntl⟩ ((m3.trans ((Step.of e4).trans (Step.wr a4 (by simp)))).to fun b hb => ?_)
    simp only [List.mem_cons, List.not_mem_nil, or_false] at hb
    rcases hb with rfl | rfl | rfl
    · exact .inl (by simp)
    · exact .inr (m1.free ht)
    · exact .inr (m3.free hl)
theorem ok_hang {f c cT : Addr} {fd : FuncData} (F : Fun K "hang" "Wire.hang" s_Wire_hang f fd) (T : TxB mg) (TW : ClW K CW) (C_need_number : Cal P w K mg base 3 "need_number" ["width", "part"] (sp_need_number K c)) (X_There : ExcC K mg "There" cT) :
    FnOk P w K mg base (L2.CX P w) 4 f fd ["self", "number"] (sp_hang K CW c cT) := by
  have cl_Wire := TW.cl
  refine F.okX sc_Wire_hang (fun vs H Q E h => ?_) (fun cdv A outer s H vs Q E hr h => ⟨_, (pss_cons (ps_expr (pe_cal (E := E) C_need_number (hr.mono (by first | decide | omega)) (passes_call (takes_of rfl rfl rfl rfl) (fun _ _ _ _ h => h)) (pa_cons (pFld (K := K) rfl (pv 0) rfl) (pa_cons (pv 1) pa_nil))))
 (pss_cons (ps_if (pt_cmp (pc_din (hu_of hr) (pv 1) (pFld (K := K) rfl (pv 0) rfl)))
 (pss_one (ps_raise rfl (takes_of rfl rfl rfl rfl) (pmkC X_There)))
 pss_nil)
 (pss_one (ps_dput (hu_of hr) (pFld (K := K) rfl (pv 0) rfl) (pv 1) pe_bl rfl)))), ?_⟩)
  · obtain ⟨a, dx, t, l, M, v, d, rfl, _⟩ := h
    rfl
  · obtain ⟨a, dx, t, l, M, v, d, rfl, W, ok, hz, hv, hd, kN, kT, k⟩ := h
    have ob := W.ob
    tm_at "r"
    refine u_need_number hv hd (fun hn H1 e1 => ?_) (fun hn H1 e1 => kN hn H1 e1)
    obtain ⟨x, rfl, hx⟩ := num_is hn
    have W1 : WAt CW a dx t l M H1 := (oWire CW a dx t l M).ext e1 W
    have ob := W1.ob
    cases dq_str hv
    tm_at "r"
    refine w_dinB (.inl W1.th) ?_
    tm_at "r"
    refine w_iteD (fun hk => ?_) fun hk => ?_
    · exact kT x rfl hx hk H1 e1
    · tm_at "r"
      refine w_dputB (g := V.bl) W1.th (by omega) ?_
      rw [aput_new hk]
      refine k x _ rfl hx hk ⟨?_, upd_same, ?_, W1.tl⟩ ((Step.of e1).trans (Step.wr W1.th (by simp)))
      · rw [upd_ne W1.at_]
        exact W1.ob
      · rw [upd_ne W1.tl.symm]
        exact W1.li
theorem ok_need_thing {f c cNT : Addr} {fd : FuncData} (F : Fun K "need_thing" "Wire.need_thing" s_Wire_need_thing f fd) (T : TxB mg) (TW : ClW K CW) (C_need_number : Cal P w K mg base 3 "need_number" ["width", "part"] (sp_need_number K c)) (X_NotThere : ExcC K mg "NotThere" cNT) :
    FnOk P w K mg base (L2.CX P w) 4 f fd ["self", "number"] (sp_thing K CW c cNT gThing) := by
  have cl_Wire := TW.cl
  refine F.okX sc_Wire_need_thing (fun vs H Q E h => ?_) (fun cdv A outer s H vs Q E hr h => ⟨_, (pss_cons (ps_expr (pe_cal (E := E) C_need_number (hr.mono (by first | decide | omega)) (passes_call (takes_of rfl rfl rfl rfl) (fun _ _ _ _ h => h)) (pa_cons (pFld (K := K) rfl (pv 0) rfl) (pa_cons (pv 1) pa_nil))))
 (pss_one (ps_if (pt_cmp (pc_dnotin (hu_of hr) (pv 1) (pFld (K := K) rfl (pv 0) rfl)))
 (pss_one (ps_raise rfl (takes_of rfl rfl rfl rfl) (pmkC X_NotThere)))
 pss_nil))), ?_⟩)
  · obtain ⟨a, dx, t, l, M, v, d, rfl, _⟩ := h
    rfl
  · obtain ⟨a, dx, t, l, M, v, d, rfl, W, ok, hv, hd, kN, kT, k⟩ := h
    have ob := W.ob
    tm_at "r"
    refine u_need_number hv hd (fun hn H1 e1 => ?_) (fun hn H1 e1 => kN hn H1 e1)
    obtain ⟨x, rfl, hx⟩ := num_is hn
    have W1 : WAt CW a dx t l M H1 := (oWire CW a dx t l M).ext e1 W
    have ob := W1.ob
    cases dq_str hv
    tm_at "r"
    refine w_dnotB (.inl W1.th) ?_
    tm_at "r"
    refine w_iteN (fun hk => ?_) fun hk => ?_
    · exact kT x rfl hx hk H1 e1
    · tm_at "r"
      exact k x _ rfl hx hk e1
theorem u_thing {c cNT : Addr} {G : Addr → Addr → Addr → Addr → WM → Bits → Hp → Hp → Prop} {H : Hp} {Q : VK} {E : XK} {a dx t l : Addr} {M : WM} {v : V} {d : PyData} (W : WAt CW a dx t l M H) (ok : WOk M) (hv : Dq K H v d) (hd : OkD d)
    (kN : numD M.width d = false → ∀ H', Ext H H' → E (.ref c) none H') (kT : ∀ x, d = .str (B x) → x.length = M.width → x ∉ M.keys → ∀ H', Ext H H' → E (.ref cNT) none H')
    (k : ∀ x H', d = .str (B x) → x.length = M.width → x ∈ M.keys → G a dx t l M x H H' → Q .non H') : sp_thing K CW c cNT G (.ref a :: ([v] ++ [])) H Q E := ⟨a, dx, t, l, M, v, d, rfl, W, ok, hv, hd, kN, kT, k⟩
theorem ok_off {f c cNT : Addr} {fd : FuncData} (F : Fun K "off" "Wire.off" s_Wire_off f fd) (T : TxB mg) (TW : ClW K CW) (C_Wire_need_thing : CalM P w K mg base 4 CW "need_thing" ["self", "number"] (sp_thing K CW c cNT gThing)) :
    FnOk P w K mg base (L2.CX P w) 5 f fd ["self", "number"] (sp_thing K CW c cNT (gOff CW)) := by
  have cl_Wire := TW.cl
  refine F.okX sc_Wire_off (fun vs H Q E h => ?_) (fun cdv A outer s H vs Q E hr h => ⟨_, (pss_cons (ps_expr (pe_me (E := E) (pv 0) cl_Wire C_Wire_need_thing (hr.mono (by first | decide | omega)) (passes_call (takes_of rfl rfl rfl rfl) (fun _ _ _ _ h => h)) (pa_cons (pv 1) pa_nil)))
 (pss_cons (ps_expr (pe_dpop1 (pFld (K := K) rfl (pv 0) rfl) (pv 1) ⟨rfl, rfl, rfl, rfl⟩))
 (pss_one (ps_expr (pe_dpop2 (pFld (K := K) rfl (pv 0) rfl) (pv 1) pe_non ⟨rfl, rfl, rfl, rfl⟩))))), ?_⟩)
  · obtain ⟨a, dx, t, l, M, v, d, rfl, _⟩ := h
    rfl
  · obtain ⟨a, dx, t, l, M, v, d, rfl, W, ok, hv, hd, kN, kT, k⟩ := h
    have ob := W.ob
    tm_at "r"
    refine w_meOk ob (by kernel_rfl) ?_
    tm_at "r"
    refine u_thing W ok hv hd kN kT fun x H1 hdx hx hk e1 => ?_
    subst hdx
    have W1 : WAt CW a dx t l M H1 := (oWire CW a dx t l M).ext e1 W
    have ob := W1.ob
    cases dq_str hv
    tm_at "r"
    refine w_popD W1.th ?_
    tm_at "r"
    obtain ⟨b, hb⟩ := alook_some hk
    refine w_popK W1.th hb ?_
    have ob2 : upd H1 t (.dK (tK V.bl (adrop M.things x))) a = some (.ins CW dx (wf M.width t l M.told M.many)) := by rw [upd_ne W1.at_]; exact W1.ob
    have li2 : upd H1 t (.dK (tK V.bl (adrop M.things x))) l = some (.dK (tK V.bl (liK M.lis))) := by rw [upd_ne W1.tl.symm]; exact W1.li
    have th2 : upd H1 t (.dK (tK V.bl (adrop M.things x))) t = some (.dK (tK V.bl (adrop M.things x))) := upd_same
    have m2 : Step [a, t, l] [a, t, l] H (upd H1 t (.dK (tK V.bl (adrop M.things x)))) := (Step.of e1).trans (Step.wr W1.th (by simp))
    generalize upd H1 t (.dK (tK V.bl (adrop M.things x))) = H2 at ob2 li2 th2 m2 ⊢
    tm_at "r"
    refine w_popD2 li2 ?_
    tm_at "r"
    have ed : adrop (liK M.lis) x = liK (M.lis.filter fun y => decide (y ≠ x)) := by
      unfold adrop liK
      rw [List.filter_map]
      rfl
    refine w_popK2 li2 (fun b hb => ?_) fun hb => ?_
    · tm_at "r"
      rw [ed]
      refine k x _ rfl hx hk ⟨⟨?_, ?_, upd_same, W1.tl⟩, m2.trans (Step.wr li2 (by simp))⟩
      · rw [upd_ne W1.al]
        exact ob2
      · rw [upd_ne W1.tl]
        exact th2
    · tm_at "r"
      have el : M.lis.filter (fun y => decide (y ≠ x)) = M.lis := by
        rw [List.filter_eq_self]
        intro y hy
        rw [alook_none, liK_keys] at hb
        simp only [ne_eq, decide_not, Bool.not_eq_true', decide_eq_false_iff_not]
        intro e
        exact hb (e ▸ hy)
      refine k x _ rfl hx hk ⟨⟨ob2, th2, ?_, W1.tl⟩, m2⟩
      show H2 l = some (.dK (tK V.bl (liK (M.lis.filter fun y => decide (y ≠ x)))))
      rw [el]
      exact li2
theorem ok_alarm {f c cNT : Addr} {fd : FuncData} (F : Fun K "alarm" "Wire.alarm" s_Wire_alarm f fd) (T : TxB mg) (TW : ClW K CW) (C_Wire_need_thing : CalM P w K mg base 4 CW "need_thing" ["self", "number"] (sp_thing K CW c cNT gThing)) :
    FnOk P w K mg base (L2.CX P w) 5 f fd ["self", "number"] (sp_thing K CW c cNT (gSet CW true)) := by
  have cl_Wire := TW.cl
  refine F.okX sc_Wire_alarm (fun vs H Q E h => ?_) (fun cdv A outer s H vs Q E hr h => ⟨_, (pss_cons (ps_expr (pe_me (E := E) (pv 0) cl_Wire C_Wire_need_thing (hr.mono (by first | decide | omega)) (passes_call (takes_of rfl rfl rfl rfl) (fun _ _ _ _ h => h)) (pa_cons (pv 1) pa_nil)))
 (pss_one (ps_dput (hu_of hr) (pFld (K := K) rfl (pv 0) rfl) (pv 1) pe_bl rfl))), ?_⟩)
  · obtain ⟨a, dx, t, l, M, v, d, rfl, _⟩ := h
    rfl
  · obtain ⟨a, dx, t, l, M, v, d, rfl, W, ok, hv, hd, kN, kT, k⟩ := h
    have ob := W.ob
    tm_at "r"
    refine w_meOk ob (by kernel_rfl) ?_
    tm_at "r"
    refine u_thing W ok hv hd kN kT fun x H1 hdx hx hk e1 => ?_
    subst hdx
    have W1 : WAt CW a dx t l M H1 := (oWire CW a dx t l M).ext e1 W
    have ob := W1.ob
    cases dq_str hv
    tm_at "r"
    refine w_dputB (g := V.bl) W1.th (by have := ok.sz; omega) ?_
    refine k x _ rfl hx hk ⟨⟨?_, upd_same, ?_, W1.tl⟩, (Step.of e1).trans (Step.wr W1.th (by simp))⟩
    · rw [upd_ne W1.at_]
      exact W1.ob
    · rw [upd_ne W1.tl.symm]
      exact W1.li
theorem ok_calm {f c cNT : Addr} {fd : FuncData} (F : Fun K "calm" "Wire.calm" s_Wire_calm f fd) (T : TxB mg) (TW : ClW K CW) (C_Wire_need_thing : CalM P w K mg base 4 CW "need_thing" ["self", "number"] (sp_thing K CW c cNT gThing)) :
    FnOk P w K mg base (L2.CX P w) 5 f fd ["self", "number"] (sp_thing K CW c cNT (gSet CW false)) := by
  have cl_Wire := TW.cl
  refine F.okX sc_Wire_calm (fun vs H Q E h => ?_) (fun cdv A outer s H vs Q E hr h => ⟨_, (pss_cons (ps_expr (pe_me (E := E) (pv 0) cl_Wire C_Wire_need_thing (hr.mono (by first | decide | omega)) (passes_call (takes_of rfl rfl rfl rfl) (fun _ _ _ _ h => h)) (pa_cons (pv 1) pa_nil)))
 (pss_one (ps_dput (hu_of hr) (pFld (K := K) rfl (pv 0) rfl) (pv 1) pe_bl rfl))), ?_⟩)
  · obtain ⟨a, dx, t, l, M, v, d, rfl, _⟩ := h
    rfl
  · obtain ⟨a, dx, t, l, M, v, d, rfl, W, ok, hv, hd, kN, kT, k⟩ := h
    have ob := W.ob
    tm_at "r"
    refine w_meOk ob (by kernel_rfl) ?_
    tm_at "r"
    refine u_thing W ok hv hd kN kT fun x H1 hdx hx hk e1 => ?_
    subst hdx
    have W1 : WAt CW a dx t l M H1 := (oWire CW a dx t l M).ext e1 W
    have ob := W1.ob
    cases dq_str hv
    tm_at "r"
    refine w_dputB (g := V.bl) W1.th (by have := ok.sz; omega) ?_
    refine k x _ rfl hx hk ⟨⟨?_, upd_same, ?_, W1.tl⟩, (Step.of e1).trans (Step.wr W1.th (by simp))⟩
    · rw [upd_ne W1.at_]
      exact W1.ob
    · rw [upd_ne W1.tl.symm]
      exact W1.li
theorem ok_hung {f : Addr} {fd : FuncData} (F : Fun K "hung" "Wire.hung" s_Wire_hung f fd) (T : TxB mg) (TW : ClW K CW) : FnOk P w K mg base (L2.CX P w) 1 f fd ["self"] (sp_hung CW) := by
  refine F.okX sc_Wire_hung (fun vs H Q E h => ?_) (fun cdv A outer s H vs Q E hr h => ⟨_, (pss_one (ps_ret (pe_callB (c_sortD rfl) (by rfl) T.n_sorted (by decide +kernel) (pa_cons (pFld (K := K) rfl (pv 0) rfl) pa_nil)))), ?_⟩)
  · obtain ⟨a, dx, t, l, M, rfl, _⟩ := h
    rfl
  · obtain ⟨a, dx, t, l, M, rfl, W, ok, k⟩ := h
    have ob := W.ob
    tm_at "r"
    refine w_sortD (.inl W.th) (by have := ok.sz; omega) ok.nd fun ms p H1 hm rm hp e1 hp1 => ?_
    exact k p ms H1 hp e1 hp1 rm hm
theorem ok_looks {f : Addr} {fd : FuncData} (F : Fun K "looks" "Wire.looks" s_Wire_looks f fd) (T : TxB mg) (TW : ClW K CW) : FnOk P w K mg base (L2.CX P w) 1 f fd ["self"] (sp_looks CW) := by
  refine F.okX sc_Wire_looks (fun vs H Q E h => ?_) (fun cdv A outer s H vs Q E hr h => ⟨_, (pss_one (ps_ret (pFld (K := K) rfl (pv 0) rfl))), ?_⟩)
  · obtain ⟨a, dx, t, l, M, rfl, _⟩ := h
    rfl
  · obtain ⟨a, dx, t, l, M, rfl, W, k⟩ := h
    have ob := W.ob
    tm_at "r"
    exact k
theorem ok_need_round {f cR : Addr} {fd : FuncData} (F : Fun K "need_round" "Wire.need_round" s_Wire_need_round f fd) (T : TxB mg) (TW : ClW K CW) (X_NoRound : ExcC K mg "NoRound" cR) : FnOk P w K mg base (L2.CX P w) 1 f fd ["self"] (sp_need_round CW cR) := by
  refine F.okX sc_Wire_need_round (fun vs H Q E h => ?_) (fun cdv A outer s H vs Q E hr h => ⟨_, (pss_one (ps_if (PW.pt (pw_or (pt_cmp (pc_isN (pFld (K := K) rfl (pv 0) rfl))) (pw_or1 (pt_cmpR op_eq (pe_callB c_lenT (by rfl) T.n_len (by decide +kernel) (pa_cons (pFld (K := K) rfl (pv 0) rfl) pa_nil)) (pFld (K := K) rfl (pv 0) rfl) (nomark _)))))
 (pss_one (ps_raise rfl (takes_of rfl rfl rfl rfl) (pmkC X_NoRound)))
 pss_nil)), ?_⟩)
  · obtain ⟨a, dx, t, l, M, rfl, _⟩ := h
    rfl
  · obtain ⟨a, dx, t, l, M, rfl, W, ok, kE, k⟩ := h
    have ob := W.ob
    tm_at "r"
    cases ht : M.told with
    | none =>
      have e : decide (tvo none = V.non) = true := rfl
      rw [e]
      tm_at "r"
      tm_at "b"
      tm_at "b"
      refine kE fun b hb => ?_
      have := hb.1
      rw [ht] at this
      cases this
    | some b =>
      have e : decide (tvo (some b) = V.non) = false := by simp [tvo]
      rw [e]
      tm_at "r"
      tm_at "b"
      rw [ht] at ob
      tm_at "r"
      have := (ok.tl b ht).1
      have := ok.w2
      refine w_lenS (by rw [B_len]; omega) ?_
      rw [B_len]
      tm_at "r"
      refine w_iteD (fun c => ?_) fun c => ?_
      · refine kE fun b2 hb => ?_
        have h1 := hb.1
        rw [ht] at h1
        cases h1
        have := hb.2
        omega
      · tm_at "r"
        exact k b ⟨ht, by omega⟩
theorem u_need_round {cR : Addr} {H : Hp} {Q : VK} {E : XK} {a dx t l : Addr} {M : WM} (W : WAt CW a dx t l M H) (ok : WOk M) (h1 : (∀ b, ¬ Under M b) → E (.ref cR) none H) (h2 : ∀ b, Under M b → Q .non H) : sp_need_round CW cR (.ref a :: ([] ++ [])) H Q E := ⟨a, dx, t, l, M, rfl, W, ok, h1, h2⟩
theorem ok_look {f cR : Addr} {fd : FuncData} (F : Fun K "look" "Wire.look" s_Wire_look f fd) (T : TxB mg) (TW : ClW K CW) (C_Wire_need_round : CalM P w K mg base 1 CW "need_round" ["self"] (sp_need_round CW cR)) (C_look_at : Cal P w K mg base 1 "look_at" ["numbers", "beginning"] (sp_look_at K)) :
    FnOk P w K mg base (L2.CX P w) 2 f fd ["self"] (sp_look CW cR) := by
  have cl_Wire := TW.cl
  refine F.okX sc_Wire_look (fun vs H Q E h => ?_) (fun cdv A outer s H vs Q E hr h => ⟨_, (pss_cons (ps_expr (pe_me0 (E := E) (pv 0) cl_Wire C_Wire_need_round (hr.mono (by first | decide | omega)) (passes_call (takes_of rfl rfl rfl rfl) (fun _ _ _ _ h => h))))
 (pss_cons (sFldK (K := K) rfl (pv 0) (pe_op op_add (pFld (K := K) rfl (pv 0) rfl) pe_int) rfl)
 (pss_one (ps_ret (pe_cal (E := E) C_look_at (hr.mono (by first | decide | omega)) (passes_call (takes_of rfl rfl rfl rfl) (fun _ _ _ _ h => h)) (pa_cons (pe_callTy (c_listD rfl) (by rfl) T.n_list (by decide +kernel) (pa_cons (pFld (K := K) rfl (pv 0) rfl) pa_nil)) (pa_cons (pFld (K := K) rfl (pv 0) rfl) pa_nil))))))), ?_⟩)
  · obtain ⟨a, dx, t, l, M, rfl, _⟩ := h
    rfl
  · obtain ⟨a, dx, t, l, M, rfl, W, ok, kE, k⟩ := h
    have ob := W.ob
    tm_at "r"
    refine w_meOk ob (by kernel_rfl) ?_
    tm_at "r"
    refine u_need_round W ok kE fun b hu => ?_
    tm_at "r"
    have em : (M.many : Int) + 1 = ((M.many + 1 : Nat) : Int) := by omega
    rw [em]
    refine s_many TW ob ?_
    have ob1 : upd H a (.ins CW dx (wf M.width t l M.told (M.many + 1))) a = some (.ins CW dx (wf M.width t l M.told (M.many + 1))) := upd_same
    have th1 : upd H a (.ins CW dx (wf M.width t l M.told (M.many + 1))) t = some (.dK (tK V.bl M.things)) := by rw [upd_ne W.at_.symm]; exact W.th
    have li1 : upd H a (.ins CW dx (wf M.width t l M.told (M.many + 1))) l = some (.dK (tK V.bl (liK M.lis))) := by rw [upd_ne W.al.symm]; exact W.li
    have m1 : Step [a, t, l] [a, t, l] H (upd H a (.ins CW dx (wf M.width t l M.told (M.many + 1)))) := Step.wr W.ob (by simp)
    generalize upd H a (.ins CW dx (wf M.width t l M.told (M.many + 1))) = H1 at ob1 th1 li1 m1 ⊢
    have W1 : WAt CW a dx t l M.look H1 := ⟨ob1, th1, li1, W.tl⟩
    tm_at "r"
    refine w_listD li1 fun p H2 hp e2 hp2 => ?_
    rw [liK_keys] at hp2
    have W2 : WAt CW a dx t l M.look H2 := (oWire CW a dx t l M.look).ext e2 W1
    have ob2 := W2.ob
    tm_at "r"
    change sp_look_at K ([.ref p, tvo M.told] ++ []) H2 Q E
    rw [hu.1]
    have hb := hu.2
    have hw := ok.w2
    refine u_look_at (SqL.of hp2) (by have := ok.lsz; omega) (fun x hx => by rw [ok.llen x hx]; omega) fun q H3 hq e3 hq3 => ?_
    exact k b q H3 hu (m1.free (e2.free hq)) ((oWire CW a dx t l M.look).ext e3 W2) ((m1.trans (Step.of e2)).trans (Step.of e3)) hq3
theorem ok_begin {f cK : Addr} {fd : FuncData} (F : Fun K "begin" "Wire.begin" s_Wire_begin f fd) (T : TxB mg) (TW : ClW K CW) (C_need_kind : Cal P w K mg base 1 "need_kind" ["kind"] (sp_need_kind cK)) :
    FnOk P w K mg base (L2.CX P w) 2 f fd ["self", "kind"] (sp_begin CW cK) := by
  have cl_Wire := TW.cl
  refine F.okX sc_Wire_begin (fun vs H Q E h => ?_) (fun cdv A outer s H vs Q E hr h => ⟨_, (pss_cons (ps_expr (pe_cal (E := E) C_need_kind (hr.mono (by first | decide | omega)) (passes_call (takes_of rfl rfl rfl rfl) (fun _ _ _ _ h => h)) (pa_cons (pv 1) pa_nil)))
 (pss_cons (sFldK (K := K) rfl (pv 0) pe_str rfl)
 (pss_cons (sFldK (K := K) rfl (pv 0) pe_dnewK rfl)
 (pss_one (ps_lock (ps_for (passes_of rfl) rfl (pi_keys (pFld (K := K) rfl (pv 0) rfl)) (pg_name (i := 2) sc_Wire_begin.nd rfl (by first | exact Or.inl rfl | exact Or.inr rfl))
 (pss_one (ps_if (PW.pt (pw_or (pt_cmpR op_eq (pv 1) pe_str (nomark _)) (pw_or1 (pt_val (pe_dget (hu_of hr) (pFld (K := K) rfl (pv 0) rfl) (pv 2) (fun _ _ => rfl))))))
 (pss_one (ps_dput (hu_of hr) (pFld (K := K) rfl (pv 0) rfl) (pv 2) pe_bl rfl))
 pss_nil)))))))), ?_⟩)
  · obtain ⟨a, dx, t, l, M, x, rfl, _⟩ := h
    rfl
  · obtain ⟨a, dx, t, l, M, x, rfl, W, ok, kE, k⟩ := h
    have ob := W.ob
    tm_at "r"
    refine ⟨x, rfl, fun hx => ?_, fun hx => kE hx⟩
    tm_at "r"
    rw [B_nil]
    refine s_told TW ob ?_
    have ob1 : upd H a (.ins CW dx (wf M.width t l (some []) M.many)) a = some (.ins CW dx (wf M.width t l (some []) M.many)) := upd_same
    have th1 : upd H a (.ins CW dx (wf M.width t l (some []) M.many)) t = some (.dK (tK V.bl M.things)) := by rw [upd_ne W.at_.symm]; exact W.th
    have m1 : Step [a, t, l] [a, t, l] H (upd H a (.ins CW dx (wf M.width t l (some []) M.many))) := Step.wr W.ob (by simp)
    generalize upd H a (.ins CW dx (wf M.width t l (some []) M.many)) = H1 at ob1 th1 m1 ⊢
    tm_at "r"
    refine w_dnew fun l' H2 hl' e2 hl2 => ?_
    have ob2 := e2.st _ _ ob1 nsh_ins
    have th2 := e2.st _ _ th1 nsh_dK
    have nal : a ≠ l' := ne_of_none ob1 hl'
    have ntl : t ≠ l' := ne_of_none th1 hl'
    tm_at "r"
    refine s_listening TW ob2 ?_
    have ob3 : upd H2 a (.ins CW dx (wf M.width t l' (some []) M.many)) a = some (.ins CW dx (wf M.width t l' (some []) M.many)) := upd_same
    have th3 : upd H2 a (.ins CW dx (wf M.width t l' (some []) M.many)) t = some (.dK (tK V.bl M.things)) := by rw [upd_ne W.at_.symm]; exact th2
    have li3 : upd H2 a (.ins CW dx (wf M.width t l' (some []) M.many)) l' = some (.dK []) := by rw [upd_ne nal.symm]; exact hl2
    have m3 : Step [a, t, l] [a, t, l'] H (upd H2 a (.ins CW dx (wf M.width t l' (some []) M.many))) := ((m1.trans (Step.of e2)).trans (Step.wr ob2 (by simp))).to fun b hb => by
      simp only [List.mem_cons, List.not_mem_nil, or_false] at hb
      rcases hb with rfl | rfl | rfl
      · exact .inl (by simp)
      · exact .inl (by simp)
      · exact .inr (m1.free hl')
    generalize upd H2 a (.ins CW dx (wf M.width t l' (some []) M.many)) = H3 at ob3 th3 li3 m3 ⊢
    tm_at "r"
    refine w_lock th3 fun od H4 h4 hn4 => ?_
    have ob4 : H4 a = some (.ins CW dx (wf M.width t l' (some []) M.many)) := by rw [hn4 a W.at_]; exact ob3
    have li4 : H4 l' = some (.dK (tK V.bl (liK []))) := by rw [hn4 l' ntl.symm]; exact li3
    tm_at "r"
    refine w_keysOk h4 ?_
    refine forK (fun i σ2 H5 => ∃ v : Option V, σ2 = [some (.ref a), some (.str x), v] ∧ H5 t = some (.frz od (.dK (tK V.bl M.things))) ∧ H5 a = some (.ins CW dx (wf M.width t l' (some []) M.many)) ∧
        H5 l' = some (.dK (tK V.bl (liK (((M.things.take i).filter fun p => decide (x = "all") || p.2).map (·.1))))) ∧ ∀ b, b ≠ t → b ≠ l' → H5 b = H3 b)
      (fun i σ2 H5 ⟨v, _, h, _⟩ => h) ⟨none, rfl, h4, ob4, by simpa using li4, fun b hb _ => hn4 b hb⟩ ?_ ?_
    · rintro i y c σ2 H5 N hi ⟨v, rfl, h5, ob5, li5, hr5⟩ kN
      have hmem : (y, c) ∈ M.things := List.mem_of_getElem? hi
      have htk : M.things.take (i + 1) = M.things.take i ++ [(y, c)] := by
        rw [List.take_succ, hi]
        rfl
      have hnot : y ∉ ((liK (((M.things.take i).filter fun p => decide (x = "all") || p.2).map (·.1))).map (·.1)) := by
        rw [liK_keys]
        intro hy
        obtain ⟨p, hp, e⟩ := List.mem_map.mp hy
        have hp2 := (List.mem_filter.mp hp).1
        obtain ⟨j, hj⟩ := List.mem_iff_getElem?.mp hp2
        have hjl : j < i := by
          have := (List.getElem?_eq_some_iff.mp hj).1
          rw [List.length_take] at this
          omega
        rw [List.getElem?_take_of_lt hjl] at hj
        have nd := ok.nd
        have e1 : (M.things.map (·.1))[j]? = some y := by rw [List.getElem?_map, hj]; simp [e]
        have e2 : (M.things.map (·.1))[i]? = some y := by rw [List.getElem?_map, hi]; rfl
        have := (List.getElem?_inj (by
          have := (List.getElem?_eq_some_iff.mp e1).1
          exact this) nd).mp (e1.trans e2.symm)
        omega
      have hsz : (((M.things.take i).filter fun p => decide (x = "all") || p.2).map (·.1)).length ≤ 60 := by
        rw [List.length_map]
        refine Nat.le_trans (List.length_filter_le _ _) ?_
        rw [List.length_take]
        have := ok.sz
        omega
      have put : ∀ q : Bool, q = true → (decide (x = "all") || c) = true → DputOk (.bl true) (.ref l') (.str (B y)) H5 (fun H6 => N [some (.ref a), some (.str x), some (.str (B y))] H6) := fun _ _ hc => by
        refine w_dputB (g := V.bl) li5 (by rw [← List.length_map (f := (·.1)), liK_keys]; omega) ?_
        rw [aput_new hnot]
        refine kN _ _ ⟨_, rfl, ?_, ?_, ?_, fun b hb hb2 => ?_⟩
        · rw [upd_ne ntl]
          exact h5
        · rw [upd_ne nal]
          exact ob5
        · rw [upd_same, htk, List.filter_append, List.map_append]
          simp [hc, liK]
        · rw [upd_ne hb2]
          exact hr5 b hb hb2
      have skip : (decide (x = "all") || c) = false → N [some (.ref a), some (.str x), some (.str (B y))] H5 := fun hc => by
        refine kN _ _ ⟨_, rfl, h5, ob5, ?_, hr5⟩
        rw [htk, List.filter_append, List.map_append]
        simp [hc]
        simpa using li5
      tm_at "r"
      refine w_iteD (fun hc => ?_) fun hc => ?_
      · tm_at "b"
        tm_at "r"
        exact put true rfl (by simp [hc])
      · tm_at "r"
        refine w_dgetB (.inr ⟨_, h5⟩) (alook_of ok.nd hmem) ?_
        tm_at "r"
        refine w_iteB (fun hc2 => ?_) fun hc2 => ?_
        · tm_at "r"
          exact put true rfl (by simp [hc2])
        · tm_at "r"
          exact skip (by simp [hc, hc2])
    · rintro σ2 H5 ⟨v, rfl, h5, ob5, li5, hr5⟩
      rw [List.take_length] at li5
      refine ⟨h5, ?_⟩
      refine k l' _ hx ⟨?_, upd_same, ?_, ntl⟩ ?_
      · rw [upd_ne W.at_]
        exact ob5
      · rw [upd_ne ntl.symm]
        exact li5
      · refine m3.trans ⟨fun b o hb nb ns => ?_, fun b r i m z hb nb hi => ?_, fun b o hb => ?_, fun b hb => .inl hb⟩
        · simp only [List.mem_cons, List.not_mem_nil, or_false, not_or] at nb
          rw [upd_ne nb.2.1, hr5 b nb.2.1 nb.2.2]
          exact hb
        · simp only [List.mem_cons, List.not_mem_nil, or_false, not_or] at nb
          rw [upd_ne nb.2.1, hr5 b nb.2.1 nb.2.2]
          exact ⟨i, m, z, hb, hi⟩
        · by_cases e1 : b = t
          · rw [e1]
            exact ⟨_, upd_same⟩
          · by_cases e2 : b = l'
            · rw [e2, upd_ne ntl.symm]
              exact ⟨_, li5⟩
            · rw [upd_ne e1, hr5 b e1 e2]
              exact ⟨_, hb⟩
theorem ok_say {f cR cB : Addr} {fd : FuncData} (F : Fun K "say" "Wire.say" s_Wire_say f fd) (T : TxB mg) (TW : ClW K CW) (C_Wire_need_round : CalM P w K mg base 1 CW "need_round" ["self"] (sp_need_round CW cR)) (X_BadBit : ExcC K mg "BadBit" cB) :
    FnOk P w K mg base (L2.CX P w) 2 f fd ["self", "bit"] (sp_say CW cR cB) := by
  have cl_Wire := TW.cl
  refine F.okX sc_Wire_say (fun vs H Q E h => ?_) (fun cdv A outer s H vs Q E hr h => ⟨_, (pss_cons (ps_expr (pe_me0 (E := E) (pv 0) cl_Wire C_Wire_need_round (hr.mono (by first | decide | omega)) (passes_call (takes_of rfl rfl rfl rfl) (fun _ _ _ _ h => h))))
 (pss_cons (ps_if (PW.pt (pw_or (pt_not (pt_val (pe_callB (cIsi (K := K) rfl) (by rfl) T.n_isinstance (by decide +kernel) (pa_cons (pv 1) (pa_cons (pe_bltn (v := .ty "int") rfl T.n_int (by decide +kernel) rfl) pa_nil))))) (pw_or (pt_val (pe_callB (cIsi (K := K) rfl) (by rfl) T.n_isinstance (by decide +kernel) (pa_cons (pv 1) (pa_cons (pe_bltn (v := .ty "bool") rfl T.n_bool (by decide +kernel) rfl) pa_nil)))) (pw_or1 (pt_cmpR (oNotIn (K := K) rfl) (pv 1) (pe_tup (pa_cons pe_int (pa_cons pe_int pa_nil))) (by rfl))))))
 (pss_one (ps_raise rfl (takes_of rfl rfl rfl rfl) (pmkC X_BadBit)))
 pss_nil)
 (pss_cons (sFldK (K := K) rfl (pv 0) (pe_op o_addS (pFld (K := K) rfl (pv 0) rfl) (pe_callTy c_strI (by rfl) T.n_str (by decide +kernel) (pa_cons (pv 1) pa_nil))) rfl)
 (pss_one (ps_for (passes_of rfl) rfl (piL (K := K) rfl (pe_callTy (c_listD rfl) (by rfl) T.n_list (by decide +kernel) (pa_cons (pFld (K := K) rfl (pv 0) rfl) pa_nil))) (pg_name (i := 2) sc_Wire_say.nd rfl (by first | exact Or.inl rfl | exact Or.inr rfl))
 (pss_one (ps_if (pt_not (pt_val (pe_m1 PySem.F.slot_str_startswith PySem.F.type_str_startswith m_starts (pv 2) (pFld (K := K) rfl (pv 0) rfl))))
 (pss_one (ps_expr (pe_dpop1 (pFld (K := K) rfl (pv 0) rfl) (pv 2) ⟨rfl, rfl, rfl, rfl⟩)))
 pss_nil))))))), ?_⟩)
  · obtain ⟨a, dx, t, l, M, i, rfl, _⟩ := h
    rfl
  · obtain ⟨a, dx, t, l, M, i, rfl, W, ok, kE, kB, k⟩ := h
    have ob := W.ob
    tm_at "r"
    refine w_meOk ob (by kernel_rfl) ?_
    tm_at "r"
    refine u_need_round W ok kE fun b hu => ?_
    have hv : Dq K H (.int i) (.int i) := .int i
    tm_at "r"
    tm_at "b"
    tm_at "r"
    tm_at "b"
    tm_at "r"
    intro q H1 hq e1 hq1
    refine w_inT (SqT.of hq1) rfl rfl ?_
    have ei : inV (.int i) [V.int 0, V.int 1] = decide (i = 0 ∨ i = 1) := by
      simp only [inV, List.any_cons, List.any_nil, Bool.or_false, eqV]
      rw [Bool.eq_iff_iff]
      simp only [Bool.or_eq_true, beq_iff_eq, decide_eq_true_eq]
      constructor
      · rintro (h | h)
        · exact .inl h.symm
        · exact .inr h.symm
      · rintro (h | h)
        · exact .inl h.symm
        · exact .inr h.symm
    rw [ei]
    tm_at "r"
    refine w_iteN (fun h => ?_) fun h => ?_
    · exact kB b hu h H1 e1
    · obtain ⟨c, rfl⟩ : ∃ c : Bool, i = bi c := by
        rcases h with rfl | rfl
        · exact ⟨false, rfl⟩
        · exact ⟨true, rfl⟩
      have hw := ok.w2
      have hbl := hu.2
      have W1 : WAt CW a dx t l M H1 := (oWire CW a dx t l M).ext e1 W
      have ob1 := W1.ob
      rw [hu.1] at ob1
      tm_at "r"
      refine w_strI (by cases c <;> decide) ?_
      rw [str_bi]
      refine w_addS (by rw [B_len, B_len]; simp; omega) ?_
      rw [B_app]
      tm_at "r"
      refine s_told TW ob1 ?_
      have ob2 : upd H1 a (.ins CW dx (wf M.width t l (some (b ++ [c])) M.many)) a = some (.ins CW dx (wf M.width t l (some (b ++ [c])) M.many)) := upd_same
      have th2 : upd H1 a (.ins CW dx (wf M.width t l (some (b ++ [c])) M.many)) t = some (.dK (tK V.bl M.things)) := by rw [upd_ne W.at_.symm]; exact W1.th
      have li2 : upd H1 a (.ins CW dx (wf M.width t l (some (b ++ [c])) M.many)) l = some (.dK (tK V.bl (liK M.lis))) := by rw [upd_ne W.al.symm]; exact W1.li
      have m2 : Step [a, t, l] [a, t, l] H (upd H1 a (.ins CW dx (wf M.width t l (some (b ++ [c])) M.many))) := (Step.of e1).trans (Step.wr W1.ob (by simp))
      generalize upd H1 a (.ins CW dx (wf M.width t l (some (b ++ [c])) M.many)) = H2 at ob2 th2 li2 m2 ⊢
      tm_at "r"
      refine w_listD li2 fun p H3 hp e3 hp3 => ?_
      rw [liK_keys] at hp3
      have np : p ≠ l := fun e => by rw [e, li2] at hp; cases hp
      have ob3 := e3.st _ _ ob2 nsh_ins
      have th3 := e3.st _ _ th2 nsh_dK
      have li3 := e3.st _ _ li2 nsh_dK
      have m3 := m2.trans (Step.of e3)
      refine w_lstOk (SqL.of hp3) ?_
      refine forL (fun i σ2 H5 => ∃ v : Option V, σ2 = [some (.ref a), some (.int (bi c)), v] ∧ H5 p = some (.lst (bvs M.lis)) ∧ H5 t = some (.dK (tK V.bl M.things)) ∧ H5 a = some (.ins CW dx (wf M.width t l (some (b ++ [c])) M.many)) ∧
          H5 l = some (.dK (tK V.bl (liK (M.lis.filter fun y => decide (b ++ [c] <+: y) || decide (y ∈ M.lis.drop i))))) ∧ Step [a, t, l] [a, t, l] H H5)
        (fun i σ2 H5 ⟨v, _, h, _⟩ => SqL.of h) ⟨none, rfl, hp3, th3, ob3, ?_, m3⟩ ?_ ?_
      · rw [li3]
        congr 4
        rw [eq_comm, List.filter_eq_self]
        intro y hy
        simp [hy]
      · rintro j x σ2 H5 N hx ⟨v, rfl, hp5, th5, ob5, li5, m5⟩ kN
        obtain ⟨y, hy, rfl⟩ := bvs_get hx
        have hym : y ∈ M.lis := List.mem_of_getElem? hy
        have hdr : M.lis.drop j = y :: M.lis.drop (j + 1) := by
          have hj := (List.getElem?_eq_some_iff.mp hy)
          rw [List.drop_eq_getElem_cons hj.1, hj.2]
        have hyn : y ∉ M.lis.drop (j + 1) := by
          have : (M.lis.drop j).Nodup := ok.lnd.sublist (List.drop_sublist _ _)
          rw [hdr] at this
          exact (List.nodup_cons.mp this).1
        tm_at "r"
        rw [starts_B]
        tm_at "r"
        refine w_iteN (fun hc => ?_) fun hc => ?_
        · tm_at "r"
          refine w_popD li5 ?_
          tm_at "r"
          obtain ⟨q, hq⟩ := alook_some (ts := liK (M.lis.filter fun y => decide (b ++ [c] <+: y) || decide (y ∈ M.lis.drop j))) (l := y) (by
            rw [liK_keys, List.mem_filter]
            exact ⟨hym, by simp [hdr]⟩)
          refine w_popK li5 hq ?_
          refine kN _ _ ⟨_, rfl, ?_, ?_, ?_, ?_, m5.trans (Step.wr li5 (by simp))⟩
          · rw [upd_ne np]
            exact hp5
          · rw [upd_ne W.tl]
            exact th5
          · rw [upd_ne W.al]
            exact ob5
          · rw [upd_same]
            have ed : adrop (liK (M.lis.filter fun y => decide (b ++ [c] <+: y) || decide (y ∈ M.lis.drop j))) y = liK (M.lis.filter fun y => decide (b ++ [c] <+: y) || decide (y ∈ M.lis.drop (j + 1))) := by
              unfold adrop liK
              rw [List.filter_map, List.filter_filter]
              congr 1
              apply List.filter_congr
              intro z hz
              simp only [Function.comp]
              by_cases e : z = y
              · subst e
                simp [hc, hyn]
              · simp [e, hdr]
            rw [ed]
        · tm_at "r"
          refine kN _ _ ⟨_, rfl, hp5, th5, ob5, ?_, m5⟩
          rw [li5]
          congr 4
          apply List.filter_congr
          intro z hz
          by_cases e : z = y
          · subst e
            simp [hc]
          · simp [e, hdr]
      · rintro σ2 H5 ⟨v, rfl, hp5, th5, ob5, li5, m5⟩
        refine k b c H5 hu rfl ⟨ob5, th5, ?_, W.tl⟩ m5
        rw [li5]
        congr 4
        apply List.filter_congr
        intro z hz
        rw [bvs_len, List.drop_length]
        simp
end
end My
end

section
/-! walks: the model of a step, in plain Lean -/
namespace Lw
open PySem L2
inductive Res where
  | none | found (x : Bits) | lost
  deriving DecidableEq
structure KM where
  kind : Bool
  rest : List Bits
  said : Option Bits
  names : List Bits
  seen : List (Bits × Bool × Bool)
def KM.pend (N : KM) : List Bits := N.rest ++ N.said.toList
def KM.Sz (N : KM) : Prop := N.rest.length ≤ 9000 ∧ N.names.length ≤ 9000 ∧ N.seen.length ≤ 9000
/-- behind a bit: all bits are said, or not -/
def KM.ended (N : KM) (w : Nat) (b : Bits) : KM × Res := if b.length < w then ({ N with said := some b }, .none) else ({ N with said := Option.none, names := N.names ++ [b] }, .found b)
/-- a round begun, and the bits of a beginning said -/
def WM.tell (M : WM) (all : Bool) (g : Bits) : WM := { M with told := some g, lis := ((M.things.filter fun p => all || p.2).map (·.1)).filter fun l => decide (g <+: l) }
def stepB (M : WM) (N : KM) (g : Bits) : WM × KM × Res := (M.tell N.kind g, KM.ended { N with rest := N.rest.dropLast } M.width g)
def stepL (M : WM) (N : KM) (b : Bits) : WM × KM × Res :=
  let z := lookZ M.lis b false
  let o := lookZ M.lis b true
  let N1 : KM := { N with seen := N.seen ++ [(b, z, o)] }
  if (!z && !o) = true then (M.look, { N1 with said := Option.none }, .lost)
  else (M.look.say b (!z), KM.ended (if (z && o) = true then { N1 with rest := N1.rest ++ [b ++ [true]] } else N1) M.width (b ++ [!z]))
def kstep (M : WM) (N : KM) : WM × KM × Res := match N.said with
  | some b => stepL M N b
  | Option.none => stepB M N (N.rest.getLastD [])
def KM.over (N : KM) : Bool := decide (N.said = Option.none) && decide (N.rest = [])
/-- the walk speaks of the wire's round -/
def Link (M : WM) (N : KM) : Prop := ∀ b, N.said = some b → M.told = some b
/-- a is left of b: where they part, a has a 0 and b a 1 -/
def Lft (a b : Bits) : Prop := ∃ p s t, a = p ++ false :: s ∧ b = p ++ true :: t
theorem Lft.app {a b : Bits} (h : Lft a b) (x y : Bits) : Lft (a ++ x) (b ++ y) := by
  obtain ⟨p, s, t, rfl, rfl⟩ := h
  exact ⟨p, s ++ x, t ++ y, by simp, by simp⟩
theorem Lft.appr {a b : Bits} (h : Lft a b) (y : Bits) : Lft a (b ++ y) := by
  have := h.app [] y
  rwa [List.append_nil] at this
theorem Lft.appl {a b : Bits} (h : Lft a b) (x : Bits) : Lft (a ++ x) b := by
  have := h.app x []
  rwa [List.append_nil] at this
theorem Lft.pre {a b c : Bits} (h : Lft a b) (q : b <+: c) : Lft a c := by
  obtain ⟨t, rfl⟩ := q
  exact h.appr t
theorem Lft.prel {a b c : Bits} (h : Lft a b) (q : a <+: c) : Lft c b := by
  obtain ⟨t, rfl⟩ := q
  exact h.appl t
theorem Lft.two (b : Bits) : Lft (b ++ [false]) (b ++ [true]) := ⟨b, [], [], rfl, rfl⟩
theorem pre_part {p s t : Bits} : ¬ (p ++ false :: s <+: p ++ true :: t) := by
  rw [List.prefix_append_right_inj]
  rintro ⟨u, h⟩
  simp at h
theorem pre_part2 {p s t : Bits} : ¬ (p ++ true :: t <+: p ++ false :: s) := by
  rw [List.prefix_append_right_inj]
  rintro ⟨u, h⟩
  simp at h
theorem Lft.np {a b : Bits} (h : Lft a b) : ¬ a <+: b := by
  obtain ⟨p, s, t, rfl, rfl⟩ := h
  exact pre_part
theorem Lft.np2 {a b : Bits} (h : Lft a b) : ¬ b <+: a := by
  obtain ⟨p, s, t, rfl, rfl⟩ := h
  exact pre_part2
theorem Lft.ne {a b : Bits} (h : Lft a b) : a ≠ b := fun e => h.np (by rw [e]; exact List.prefix_refl _)
theorem blt_pre (p s t : Bits) : blt (p ++ s) (p ++ t) = blt s t := by
  induction p with
  | nil => rfl
  | cons x p ih => simp [blt, ih]
theorem Lft.blt {a b : Bits} (h : Lft a b) : blt a b = true := by
  obtain ⟨p, s, t, rfl, rfl⟩ := h
  rw [blt_pre]
  rfl
theorem snoc_pre {g b : Bits} {c : Bool} (h : b ++ [c] <+: g) : b <+: g := (List.prefix_append b [c]).trans h
/-- what stays true of a walk, whatever becomes of its wire; U: the beginnings that it may come to -/
structure KI (w : Nat) (U : Bits → Prop) (N : KM) : Prop where
  pr : ∀ g ∈ N.rest, g.length ≤ w ∧ U g
  ps : ∀ b, N.said = some b → b.length < w ∧ U b
  pe : ∀ e ∈ N.seen, e.1.length < w ∧ U e.1
  pn : ∀ x ∈ N.names, x.length = w ∧ U x
  ord : N.pend.Pairwise fun a b => Lft b a
  sn : ∀ e ∈ N.seen, ∀ g ∈ N.pend, ¬ g <+: e.1
  sd : (N.seen.map (·.1)).Nodup
  nn : ∀ x ∈ N.names, ∀ g ∈ N.pend, Lft x g
  nr : Rise N.names
  rs : N.rest.length ≤ N.seen.length + 1
theorem pend_said {N : KM} {b : Bits} (h : N.said = some b) : N.pend = N.rest ++ [b] := by simp [KM.pend, h]
theorem pend_none {N : KM} (h : N.said = none) : N.pend = N.rest := by simp [KM.pend, h]
/-- one pending beginning is taken further: b to b ++ t -/
theorem KI.ended {w : Nat} {U : Bits → Prop} {N : KM} {b : Bits} (pr : ∀ g ∈ N.rest, g.length ≤ w ∧ U g) (pe : ∀ e ∈ N.seen, e.1.length < w ∧ U e.1) (pn : ∀ x ∈ N.names, x.length = w ∧ U x)
    (ord : (N.rest ++ [b]).Pairwise fun a b => Lft b a) (sn : ∀ e ∈ N.seen, ∀ g ∈ N.rest ++ [b], ¬ g <+: e.1) (sd : (N.seen.map (·.1)).Nodup) (nn : ∀ x ∈ N.names, ∀ g ∈ N.rest ++ [b], Lft x g) (nr : Rise N.names)
    (rs : N.rest.length ≤ N.seen.length + 1) (hb : b.length ≤ w) (hU : U b) : KI w U (N.ended w b).1 := by
  unfold KM.ended
  by_cases h : b.length < w
  · rw [if_pos h]
    exact ⟨pr, fun c hc => by cases hc; exact ⟨h, hU⟩, pe, pn, by rw [pend_said rfl]; exact ord, by rw [pend_said rfl]; exact sn, sd, by rw [pend_said rfl]; exact nn, nr, rs⟩
  · rw [if_neg h]
    obtain ⟨o1, _, o3⟩ := List.pairwise_append.mp ord
    refine ⟨pr, fun c hc => (by cases hc), pe, fun x hx => ?_, by rw [pend_none rfl]; exact o1, ?_, sd, ?_, ?_, rs⟩
    · rcases List.mem_append.mp hx with hx | hx
      · exact pn x hx
      · rw [List.mem_singleton.mp hx]
        exact ⟨by omega, hU⟩
    · rw [pend_none rfl]
      exact fun e he g hg => sn e he g (List.mem_append_left _ hg)
    · rw [pend_none rfl]
      intro x hx g hg
      rcases List.mem_append.mp hx with hx | hx
      · exact nn x hx g (List.mem_append_left _ hg)
      · rw [List.mem_singleton.mp hx]
        exact o3 g hg b (by simp)
    · refine List.pairwise_append.mpr ⟨nr, by simp, fun x hx y hy => ?_⟩
      rw [List.mem_singleton.mp hy]
      exact (nn x hx b (by simp)).blt
theorem KI.stepB {w : Nat} {U : Bits → Prop} {M : WM} {N : KM} (h : KI w U N) (hw : M.width = w) (hs : N.said = none) (hr : N.rest ≠ []) : KI w U (stepB M N (N.rest.getLastD [])).2.1 := by
  have er : N.rest = N.rest.dropLast ++ [N.rest.getLastD []] := by
    have e := (List.dropLast_concat_getLast hr).symm
    have e2 : N.rest.getLastD [] = N.rest.getLast hr := by rw [List.getLastD_eq_getLast?, List.getLast?_eq_some_getLast hr]; rfl
    rw [e2]
    exact e
  have hm : N.rest.getLastD [] ∈ N.rest := by rw [er]; simp
  have ep : N.pend = N.rest.dropLast ++ [N.rest.getLastD []] := by rw [pend_none hs]; exact er
  unfold Lw.stepB
  rw [hw]
  have ord := h.ord
  have sn := h.sn
  have nn := h.nn
  rw [ep] at ord sn nn
  exact KI.ended (N := { N with rest := N.rest.dropLast }) (fun g hg => h.pr g ((List.dropLast_sublist _).subset hg)) h.pe h.pn ord sn h.sd nn h.nr (by have := h.rs; simp; omega) (h.pr _ hm).1 (h.pr _ hm).2
theorem lookZ_ex {ls : List Bits} {b : Bits} {c : Bool} : lookZ ls b c = true ↔ ∃ l ∈ ls, b ++ [c] <+: l := by
  unfold lookZ
  rw [List.any_eq_true]
  simp
theorem KI.stepL {w : Nat} {U : Bits → Prop} {M : WM} {N : KM} {b : Bits} (h : KI w U N) (hw : M.width = w) (hs : N.said = some b) (hU : ∀ c, lookZ M.lis b c = true → U (b ++ [c])) : KI w U (stepL M N b).2.1 := by
  have ep := pend_said hs
  have ord := h.ord
  have sn := h.sn
  have nn := h.nn
  rw [ep] at ord sn nn
  obtain ⟨o1, _, o3⟩ := List.pairwise_append.mp ord
  obtain ⟨hbl, hbU⟩ := h.ps b hs
  have ob : ∀ g ∈ N.rest, Lft b g := fun g hg => o3 g hg b (by simp)
  unfold Lw.stepL
  simp only
  have hpe : ∀ e ∈ N.seen ++ [(b, lookZ M.lis b false, lookZ M.lis b true)], e.1.length < w ∧ U e.1 := fun e he => by
    rcases List.mem_append.mp he with he | he
    · exact h.pe e he
    · rw [List.mem_singleton.mp he]
      exact ⟨hbl, hbU⟩
  have hsd : ((N.seen ++ [(b, lookZ M.lis b false, lookZ M.lis b true)]).map (·.1)).Nodup := by
    rw [List.map_append]
    refine List.nodup_append.mpr ⟨h.sd, by simp, fun x hx y hy e => ?_⟩
    have hy : y = b := by simpa using hy
    obtain ⟨e1, he1, rfl⟩ := List.mem_map.mp hx
    exact sn e1 he1 b (by simp) (by rw [e, hy]; exact List.prefix_refl _)
  by_cases hzo : (!lookZ M.lis b false && !lookZ M.lis b true) = true
  · rw [if_pos hzo]
    refine ⟨h.pr, fun c hc => (by cases hc), hpe, h.pn, by rw [pend_none rfl]; exact o1, ?_, hsd, ?_, h.nr, by have := h.rs; simp; omega⟩
    · rw [pend_none rfl]
      intro e he g hg
      rcases List.mem_append.mp he with he | he
      · exact sn e he g (List.mem_append_left _ hg)
      · rw [List.mem_singleton.mp he]
        exact (ob g hg).np2
    · rw [pend_none rfl]
      exact fun x hx g hg => nn x hx g (List.mem_append_left _ hg)
  · rw [if_neg hzo]
    simp only
    rw [hw]
    have hc : lookZ M.lis b (!lookZ M.lis b false) = true := by
      cases e : lookZ M.lis b false with
      | true => exact e
      | false =>
        cases e2 : lookZ M.lis b true with
        | true => exact e2
        | false => rw [e, e2] at hzo; exact absurd rfl hzo
    have hUc := hU _ hc
    generalize hcc : (!lookZ M.lis b false) = c at hc hUc ⊢
    by_cases hb2 : (lookZ M.lis b false && lookZ M.lis b true) = true
    · rw [if_pos hb2]
      have hz : lookZ M.lis b false = true := (Bool.and_eq_true_iff.mp hb2).1
      have ho : lookZ M.lis b true = true := (Bool.and_eq_true_iff.mp hb2).2
      have ec : c = false := by rw [← hcc, hz]; rfl
      subst ec
      refine KI.ended (N := { N with seen := N.seen ++ [(b, lookZ M.lis b false, lookZ M.lis b true)], rest := N.rest ++ [b ++ [true]] }) (fun g hg => ?_) hpe h.pn ?_ (fun e he g hg => ?_) hsd (fun x hx g hg => ?_) h.nr ?_ (by simp; omega) hUc
      · rcases List.mem_append.mp hg with hg | hg
        · exact h.pr g hg
        · rw [List.mem_singleton.mp hg]
          exact ⟨by simp; omega, hU true ho⟩
      · refine List.pairwise_append.mpr ⟨List.pairwise_append.mpr ⟨o1, by simp, fun g hg y hy => ?_⟩, by simp, fun g hg y hy => ?_⟩
        · rw [List.mem_singleton.mp hy]
          exact (ob g hg).appl _
        · rw [List.mem_singleton.mp hy]
          rcases List.mem_append.mp hg with hg | hg
          · exact (ob g hg).appl _
          · rw [List.mem_singleton.mp hg]
            exact Lft.two b
      · have hg' : g ∈ N.rest ∨ ∃ c, g = b ++ [c] := by
          rcases List.mem_append.mp hg with hg | hg
          · rcases List.mem_append.mp hg with hg | hg
            · exact .inl hg
            · exact .inr ⟨true, List.mem_singleton.mp hg⟩
          · exact .inr ⟨false, List.mem_singleton.mp hg⟩
        rcases List.mem_append.mp he with he | he
        · rcases hg' with hg | ⟨c, rfl⟩
          · exact sn e he g (List.mem_append_left _ hg)
          · exact fun q => sn e he b (by simp) (snoc_pre q)
        · rw [List.mem_singleton.mp he]
          rcases hg' with hg | ⟨c, rfl⟩
          · exact (ob g hg).np2
          · intro q
            have := q.length_le
            simp at this
            exact absurd this (Nat.not_succ_le_self _)
      · rcases List.mem_append.mp hg with hg | hg
        · rcases List.mem_append.mp hg with hg | hg
          · exact nn x hx g (List.mem_append_left _ hg)
          · rw [List.mem_singleton.mp hg]
            exact (nn x hx b (by simp)).appr _
        · rw [List.mem_singleton.mp hg]
          exact (nn x hx b (by simp)).appr _
      · have := h.rs
        simp
        omega
    · rw [if_neg hb2]
      refine KI.ended (N := { N with seen := N.seen ++ [(b, lookZ M.lis b false, lookZ M.lis b true)] }) h.pr hpe h.pn ?_ (fun e he g hg => ?_) hsd (fun x hx g hg => ?_) h.nr (by have := h.rs; simp; omega) (by simp; omega) hUc
      · refine List.pairwise_append.mpr ⟨o1, by simp, fun g hg y hy => ?_⟩
        rw [List.mem_singleton.mp hy]
        exact (ob g hg).appl _
      · have hg' : g ∈ N.rest ∨ g = b ++ [c] := by
          rcases List.mem_append.mp hg with hg | hg
          · exact .inl hg
          · exact .inr (List.mem_singleton.mp hg)
        rcases List.mem_append.mp he with he | he
        · rcases hg' with hg | rfl
          · exact sn e he g (List.mem_append_left _ hg)
          · exact fun q => sn e he b (by simp) (snoc_pre q)
        · rw [List.mem_singleton.mp he]
          rcases hg' with hg | rfl
          · exact (ob g hg).np2
          · intro q
            have := q.length_le
            simp at this
            exact absurd this (Nat.not_succ_le_self _)
      · rcases List.mem_append.mp hg with hg | hg
        · exact nn x hx g (List.mem_append_left _ hg)
        · rw [List.mem_singleton.mp hg]
          exact (nn x hx b (by simp)).appr _
/-! ### runs -/
/-- what a walk and its wire must be for a step -/
structure KP (M : WM) (N : KM) : Prop where
  ls : ∀ b, N.said = some b → b.length < M.width ∧ M.told = some b
  lr : ∀ g ∈ N.rest, g.length ≤ M.width
theorem KI.kp {w : Nat} {U : Bits → Prop} {M : WM} {N : KM} (h : KI w U N) (hw : M.width = w) (l : Link M N) : KP M N := ⟨fun b hb => ⟨by rw [hw]; exact (h.ps b hb).1, l b hb⟩, fun g hg => by rw [hw]; exact (h.pr g hg).1⟩
theorem ended_said {N : KM} {w : Nat} {b : Bits} : ∀ c, (N.ended w b).1.said = some c → c = b ∧ b.length < w ∧ (N.ended w b).2 = .none := fun c hc => by
  unfold KM.ended at hc ⊢
  by_cases h : b.length < w
  · rw [if_pos h] at hc ⊢
    cases hc
    exact ⟨rfl, h, rfl⟩
  · rw [if_neg h] at hc
    cases hc
theorem ended_rest {N : KM} {w : Nat} {b : Bits} : (N.ended w b).1.rest = N.rest ∧ (N.ended w b).1.seen = N.seen ∧ (N.ended w b).1.kind = N.kind := by
  unfold KM.ended
  by_cases h : b.length < w
  · rw [if_pos h]
    exact ⟨rfl, rfl, rfl⟩
  · rw [if_neg h]
    exact ⟨rfl, rfl, rfl⟩
theorem ended_names {N : KM} {w : Nat} {b : Bits} : (N.ended w b).1.names.length ≤ N.names.length + 1 := by
  unfold KM.ended
  by_cases h : b.length < w
  · rw [if_pos h]
    exact Nat.le_succ _
  · rw [if_neg h]
    simp
theorem ended_none {N : KM} {w : Nat} {b : Bits} (h : (N.ended w b).2 = .none) : (N.ended w b).1.said = some b ∧ b.length < w := by
  unfold KM.ended at h ⊢
  by_cases hb : b.length < w
  · rw [if_pos hb]
    exact ⟨rfl, hb⟩
  · rw [if_neg hb] at h
    cases h
theorem kstep_none {M : WM} {N : KM} (h : N.said = none) : kstep M N = stepB M N (N.rest.getLastD []) := by unfold kstep; rw [h]
theorem kstep_some {M : WM} {N : KM} {b : Bits} (h : N.said = some b) : kstep M N = stepL M N b := by unfold kstep; rw [h]
theorem tell_width (M : WM) (c : Bool) (g : Bits) : (M.tell c g).width = M.width ∧ (M.tell c g).things = M.things := ⟨rfl, rfl⟩
theorem kstep_width (M : WM) (N : KM) : (kstep M N).1.width = M.width ∧ (kstep M N).1.things = M.things := by
  cases h : N.said with
  | none =>
    rw [kstep_none h]
    exact ⟨rfl, rfl⟩
  | some b =>
    rw [kstep_some h]
    unfold stepL
    simp only
    split
    · exact ⟨rfl, rfl⟩
    · exact ⟨rfl, rfl⟩
/-- sizes behind a step -/
theorem kstep_size (M : WM) (N : KM) : (kstep M N).2.1.rest.length ≤ N.rest.length + 1 ∧ (kstep M N).2.1.names.length ≤ N.names.length + 1 ∧ (kstep M N).2.1.seen.length ≤ N.seen.length + 1 := by
  cases h : N.said with
  | none =>
    rw [kstep_none h]
    unfold stepB
    obtain ⟨e1, e2, _⟩ := ended_rest (N := { N with rest := N.rest.dropLast }) (w := M.width) (b := N.rest.getLastD [])
    refine ⟨?_, ended_names, ?_⟩
    · show (KM.ended _ _ _).1.rest.length ≤ _
      rw [e1]
      simp
      omega
    · show (KM.ended _ _ _).1.seen.length ≤ _
      rw [e2]
      exact Nat.le_succ _
  | some b =>
    rw [kstep_some h]
    unfold stepL
    simp only
    split
    · simp
    · simp only
      obtain ⟨e1, e2, _⟩ := ended_rest (N := if (lookZ M.lis b false && lookZ M.lis b true) = true then { N with seen := N.seen ++ [(b, lookZ M.lis b false, lookZ M.lis b true)], rest := N.rest ++ [b ++ [true]] } else { N with seen := N.seen ++ [(b, lookZ M.lis b false, lookZ M.lis b true)] }) (w := M.width) (b := b ++ [!lookZ M.lis b false])
      refine ⟨?_, ?_, ?_⟩
      · rw [e1]
        split <;> simp
      · refine Nat.le_trans ended_names ?_
        split <;> simp
      · rw [e2]
        split <;> simp
theorem kstep_kind (M : WM) (N : KM) : (kstep M N).2.1.kind = N.kind := by
  cases h : N.said with
  | none =>
    rw [kstep_none h]
    unfold stepB
    exact (ended_rest (N := { N with rest := N.rest.dropLast }) (w := M.width) (b := N.rest.getLastD [])).2.2
  | some b =>
    rw [kstep_some h]
    unfold stepL
    simp only
    split
    · rfl
    · refine ended_rest.2.2.trans ?_
      split <;> rfl
theorem getLastD_mem {ls : List Bits} (h : ls ≠ []) : ls.getLastD [] ∈ ls := by
  rw [List.getLastD_eq_getLast?, List.getLast?_eq_some_getLast h]
  exact List.getLast_mem h
theorem KP.step {M : WM} {N : KM} (h : KP M N) (ho : N.over = false) : KP (kstep M N).1 (kstep M N).2.1 := by
  cases hs : N.said with
  | none =>
    have hr : N.rest ≠ [] := fun e => by simp [KM.over, hs, e] at ho
    rw [kstep_none hs]
    unfold stepB
    refine ⟨fun b hb => ?_, fun g hg => ?_⟩
    · obtain ⟨rfl, hl, _⟩ := ended_said b hb
      exact ⟨hl, rfl⟩
    · change g ∈ (KM.ended _ _ _).1.rest at hg
      rw [ended_rest.1] at hg
      exact h.lr g ((List.dropLast_sublist _).subset hg)
  | some b =>
    obtain ⟨hb, _⟩ := h.ls b hs
    rw [kstep_some hs]
    unfold stepL
    simp only
    split
    · exact ⟨fun c hc => (by cases hc), h.lr⟩
    · refine ⟨fun c hc => ?_, fun g hg => ?_⟩
      · obtain ⟨rfl, hl, _⟩ := ended_said c hc
        exact ⟨hl, rfl⟩
      · change g ∈ (KM.ended _ _ _).1.rest at hg
        rw [ended_rest.1] at hg
        split at hg
        · rcases List.mem_append.mp hg with hg | hg
          · exact h.lr g hg
          · rw [List.mem_singleton.mp hg]
            show (b ++ [true]).length ≤ M.width
            simp
            omega
        · exact h.lr g hg
/-- how far a round may go yet -/
def KM.gap (w : Nat) (N : KM) : Nat := match N.said with
  | some b => w - b.length
  | none => w + 1
theorem gap_some {w : Nat} {N : KM} {b : Bits} (e : N.said = some b) : N.gap w = w - b.length := by unfold KM.gap; rw [e]
theorem gap_none {w : Nat} {N : KM} (e : N.said = none) : N.gap w = w + 1 := by unfold KM.gap; rw [e]
theorem over_some {N : KM} {b : Bits} (e : N.said = some b) : N.over = false := by unfold KM.over; rw [e]; rfl
theorem kstep_gap {M : WM} {N : KM} (h : KP M N) (hn : (kstep M N).2.2 = .none) : (kstep M N).2.1.gap M.width < N.gap M.width ∧ (kstep M N).2.1.over = false := by
  cases hs : N.said with
  | none =>
    rw [kstep_none hs] at hn ⊢
    unfold stepB at hn ⊢
    obtain ⟨e, hl⟩ := ended_none hn
    refine ⟨?_, over_some e⟩
    rw [gap_some e, gap_none hs]
    omega
  | some b =>
    obtain ⟨hb, _⟩ := h.ls b hs
    rw [kstep_some hs] at hn ⊢
    unfold stepL at hn ⊢
    simp only at hn ⊢
    split at hn
    · cases hn
    · rename_i hz
      rw [if_neg hz]
      obtain ⟨e, hl⟩ := ended_none hn
      refine ⟨?_, over_some e⟩
      rw [gap_some e, gap_some hs]
      rw [List.length_append] at hl ⊢
      simp only [List.length_cons, List.length_nil] at hl ⊢
      omega
/-- a round -/
inductive KRound : Nat → WM → KM → WM → KM → Res → Prop
  | last {M : WM} {N : KM} (h : (kstep M N).2.2 ≠ .none) : KRound 1 M N (kstep M N).1 (kstep M N).2.1 (kstep M N).2.2
  | more {n : Nat} {M M' : WM} {N N' : KM} {r : Res} (h : (kstep M N).2.2 = .none) (t : KRound n (kstep M N).1 (kstep M N).2.1 M' N' r) : KRound (n + 1) M N M' N' r
/-- a run to its end -/
inductive KRun : Nat → WM → KM → WM → KM → Prop
  | last {M : WM} {N : KM} (h : N.over = true) : KRun 0 M N M N
  | more {n : Nat} {M M' : WM} {N N' : KM} (h : N.over = false) (t : KRun n (kstep M N).1 (kstep M N).2.1 M' N') : KRun (n + 1) M N M' N'
theorem kround_ex {M : WM} {N : KM} (h : KP M N) (ho : N.over = false) : ∃ n M' N' r, KRound n M N M' N' r ∧ n ≤ N.gap M.width := by
  obtain ⟨g, hg⟩ : ∃ g, g = N.gap M.width := ⟨_, rfl⟩
  induction g using Nat.strongRecOn generalizing M N with
  | _ g ih =>
    by_cases hn : (kstep M N).2.2 = .none
    · obtain ⟨h1, h2⟩ := kstep_gap h hn
      have ew := (kstep_width M N).1
      obtain ⟨n, M', N', r, hr, hl⟩ := ih ((kstep M N).2.1.gap M.width) (by omega) (h.step ho) h2 (by rw [ew])
      rw [ew] at hl
      exact ⟨n + 1, M', N', r, .more hn hr, by omega⟩
    · refine ⟨1, _, _, _, .last hn, ?_⟩
      cases hs : N.said with
      | none => rw [gap_none hs]; omega
      | some b =>
        have := (h.ls b hs).1
        rw [gap_some hs]
        omega
/-- a round of a run -/
theorem krun_round {n j : Nat} {M M' M1 : WM} {N N' N1 : KM} {r : Res} (hp : KP M N) (h : KRun n M N M' N') (ho : N.over = false) (t : KRound j M N M1 N1 r) : j ≤ n ∧ 1 ≤ j ∧ KRun (n - j) M1 N1 M' N' := by
  induction t generalizing n with
  | last h2 =>
    cases h with
    | last h => rw [h] at ho; cases ho
    | more h t => exact ⟨by omega, by omega, t⟩
  | more h2 t ih =>
    cases h with
    | last h => rw [h] at ho; cases ho
    | more h t' =>
      obtain ⟨a, b, c⟩ := ih (hp.step ho) t' (kstep_gap hp h2).2
      exact ⟨by omega, by omega, by rw [Nat.add_sub_add_right]; exact c⟩
theorem kround_kp {j : Nat} {M M1 : WM} {N N1 : KM} {r : Res} (hp : KP M N) (ho : N.over = false) (t : KRound j M N M1 N1 r) : KP M1 N1 := by
  induction t with
  | last h2 => exact hp.step ho
  | more h2 t ih => exact ih (hp.step ho) (kstep_gap hp h2).2
theorem kround_sz {j : Nat} {M M1 : WM} {N N1 : KM} {r : Res} (t : KRound j M N M1 N1 r) : N1.rest.length ≤ N.rest.length + j ∧ N1.names.length ≤ N.names.length + j ∧ N1.seen.length ≤ N.seen.length + j ∧ M1.width = M.width ∧ M1.things = M.things ∧ r ≠ .none := by
  induction t with
  | last h2 =>
    rename_i M N
    obtain ⟨a, b, c⟩ := kstep_size M N
    exact ⟨a, b, c, (kstep_width M N).1, (kstep_width M N).2, h2⟩
  | more h2 t ih =>
    rename_i n M M' N N' r
    obtain ⟨a, b, c⟩ := kstep_size M N
    obtain ⟨a2, b2, c2, d2, e2, f2⟩ := ih
    exact ⟨by omega, by omega, by omega, d2.trans (kstep_width M N).1, e2.trans (kstep_width M N).2, f2⟩
theorem krun_sz {j : Nat} {M M1 : WM} {N N1 : KM} (t : KRun j M N M1 N1) : N1.rest.length ≤ N.rest.length + j ∧ N1.names.length ≤ N.names.length + j ∧ N1.seen.length ≤ N.seen.length + j ∧ M1.width = M.width ∧ M1.things = M.things ∧ N1.over = true := by
  induction t with
  | last h => exact ⟨Nat.le_refl _, Nat.le_refl _, Nat.le_refl _, rfl, rfl, h⟩
  | more h t ih =>
    rename_i n M M' N N'
    obtain ⟨a, b, c⟩ := kstep_size M N
    obtain ⟨a2, b2, c2, d2, e2, f2⟩ := ih
    exact ⟨by omega, by omega, by omega, d2.trans (kstep_width M N).1, e2.trans (kstep_width M N).2, f2⟩
end Lw
end

section
/-! a walk in the heap -/
namespace Lw
open PySem L2
theorem begin_tell (M : WM) (c : Bool) : M.begin c = M.tell c [] := by
  unfold WM.begin WM.tell
  congr 1
  rw [eq_comm, List.filter_eq_self]
  intro a _
  simp
theorem tell_say (M : WM) (c : Bool) (g : Bits) (b : Bool) : (M.tell c g).say g b = M.tell c (g ++ [b]) := by
  unfold WM.say WM.tell
  simp only
  congr 1
  rw [List.filter_filter]
  apply List.filter_congr
  intro l _
  rw [Bool.eq_iff_iff]
  simp only [Bool.and_eq_true, decide_eq_true_eq]
  exact ⟨fun h => h.1, fun h => ⟨h, snoc_pre h⟩⟩
theorem tell_ok {M : WM} (h : WOk M) {c : Bool} (g : Bits) : g.length ≤ M.width → WOk (M.tell c g) := by
  induction hn : g.length generalizing g with
  | zero =>
    intro _
    rw [List.length_eq_zero_iff.mp hn, ← begin_tell]
    exact h.begin
  | succ n ih =>
    intro hl
    have hne : g ≠ [] := fun e => by rw [e] at hn; cases hn
    have e := (List.dropLast_concat_getLast hne).symm
    have hd : g.dropLast.length = n := by rw [List.length_dropLast]; omega
    have := (ih g.dropLast hd (by omega)).say (b := g.dropLast) (c := g.getLast hne) (by show _ < M.width; omega)
    rw [tell_say, ← e] at this
    exact this
theorem kstep_ok {M : WM} {N : KM} (h : WOk M) (p : KP M N) (ho : N.over = false) : WOk (kstep M N).1 := by
  cases hs : N.said with
  | none =>
    have hr : N.rest ≠ [] := fun e => by simp [KM.over, hs, e] at ho
    rw [kstep_none hs]
    exact tell_ok h _ (p.lr _ (getLastD_mem hr))
  | some b =>
    rw [kstep_some hs]
    unfold stepL
    simp only
    split
    · exact h.look
    · exact h.look.say (p.ls b hs).1
theorem kround_ok {j : Nat} {M M1 : WM} {N N1 : KM} {r : Res} (h : WOk M) (hp : KP M N) (ho : N.over = false) (t : KRound j M N M1 N1 r) : WOk M1 := by
  induction t with
  | last h2 => exact kstep_ok h hp ho
  | more h2 t ih => exact ih (kstep_ok h hp ho) (hp.step ho) (kstep_gap hp h2).2
theorem krun_ok {j : Nat} {M M1 : WM} {N N1 : KM} (h : WOk M) (hp : KP M N) (t : KRun j M N M1 N1) : WOk M1 ∧ KP M1 N1 := by
  induction t with
  | last _ => exact ⟨h, hp⟩
  | more h2 t ih => exact ih (kstep_ok h hp h2) (hp.step h2)
abbrev kindS (c : Bool) : Str := if c = true then "all" else "alarm"
theorem kindS_or (c : Bool) : kindS c = "all" ∨ kindS c = "alarm" := by cases c <;> simp [kindS]
theorem kindS_dec (c : Bool) : decide (kindS c = "all") = c := by cases c <;> decide
def kf (a : Addr) (c : Bool) (r : Addr) (said : Option Bits) (n s : Addr) : List (Str × V) := [("wire", .ref a), ("kind", .str (kindS c)), ("rest", .ref r), ("said", tvo said), ("names", .ref n), ("seen", .ref s)]
def sTup (e : Bits × Bool × Bool) : HO := .tup [.str (B e.1), .bl e.2.1, .bl e.2.2]
/-- the walk at k -/
structure KAt (CK k dx a r n s : Addr) (ps : List Addr) (N : KM) (H : Hp) : Prop where
  ob : H k = some (.ins CK dx (kf a N.kind r N.said n s))
  rs : H r = some (.lst (bvs N.rest))
  nm : H n = some (.lst (bvs N.names))
  sn : H s = some (.lst (ps.map V.ref))
  ts : ps.map H = N.seen.map fun e => some (sTup e)
  rn : r ≠ n
  rS : r ≠ s
  nS : n ≠ s
theorem KAt.mem {CK k dx a r n s : Addr} {ps : List Addr} {N : KM} {H : Hp} (h : KAt CK k dx a r n s ps N H) {p : Addr} (hp : p ∈ ps) : ∃ e, H p = some (sTup e) := by
  have : H p ∈ ps.map H := List.mem_map_of_mem hp
  rw [h.ts] at this
  obtain ⟨e, _, he⟩ := List.mem_map.mp this
  exact ⟨e, he.symm⟩
theorem KAt.loc {CK k dx a r n s : Addr} {ps : List Addr} {N : KM} {H H' : Hp} (h : ∀ b ∈ [k, r, n, s] ++ ps, ∀ o, H b = some o → H' b = some o) (g : KAt CK k dx a r n s ps N H) : KAt CK k dx a r n s ps N H' where
  ob := h _ (by simp) _ g.ob
  rs := h _ (by simp) _ g.rs
  nm := h _ (by simp) _ g.nm
  sn := h _ (by simp) _ g.sn
  ts := by
    rw [← g.ts]
    apply List.map_congr_left
    intro p hp
    obtain ⟨e, he⟩ := g.mem hp
    rw [he]
    exact h p (by simp [hp]) _ he
  rn := g.rn
  rS := g.rS
  nS := g.nS
theorem KAt.al {CK k dx a r n s : Addr} {ps : List Addr} {N : KM} {H : Hp} (g : KAt CK k dx a r n s ps N H) : ∀ b ∈ [k, r, n, s] ++ ps, ∃ o, H b = some o ∧ Ownd o := by
  intro b hb
  rcases List.mem_append.mp hb with hb | hb
  · simp only [List.mem_cons, List.not_mem_nil, or_false] at hb
    rcases hb with rfl | rfl | rfl | rfl
    · exact ⟨_, g.ob, own_ins⟩
    · exact ⟨_, g.rs, own_bvs _⟩
    · exact ⟨_, g.nm, own_bvs _⟩
    · exact ⟨_, g.sn, own_refs _⟩
  · obtain ⟨e, he⟩ := g.mem hb
    exact ⟨_, he, own_tup⟩
def oWalk (CK k dx a r n s : Addr) (ps : List Addr) (N : KM) : Own := ⟨KAt CK k dx a r n s ps N, [k, r, n, s] ++ ps, KAt.loc, KAt.al⟩
theorem kf_wf {CK CW dx dx2 : Addr} {a c r s n w t l many} {told told2} : HO.ins CK dx (kf a c r told n s) ≠ .ins CW dx2 (wf w t l told2 many) := by
  intro e
  injection e with _ _ e
  unfold kf wf at e
  injection e with e _
  injection e with e _
  exact absurd e (by decide +kernel)
/-- the places of a walk are none of a wire's -/
theorem KAt.apart {CK k dx a r n s CW a2 dx2 t l : Addr} {ps : List Addr} {N : KM} {M : WM} {H : Hp} (g : KAt CK k dx a r n s ps N H) (W : WAt CW a2 dx2 t l M H) : ∀ b ∈ [k, r, n, s] ++ ps, b ∉ [a2, t, l] := by
  intro b hb hw
  simp only [List.mem_cons, List.not_mem_nil, or_false] at hw
  have ho : (∃ o, H b = some o ∧ ((∃ dx w t l c d, o = .ins CW dx (wf w t l c d)) ∨ ∃ d, o = .dK d)) := by
    rcases hw with rfl | rfl | rfl
    · exact ⟨_, W.ob, .inl ⟨_, _, _, _, _, _, rfl⟩⟩
    · exact ⟨_, W.th, .inr ⟨_, rfl⟩⟩
    · exact ⟨_, W.li, .inr ⟨_, rfl⟩⟩
  obtain ⟨o, h1, h2⟩ := ho
  rcases List.mem_append.mp hb with hb | hb
  · simp only [List.mem_cons, List.not_mem_nil, or_false] at hb
    rcases hb with rfl | rfl | rfl | rfl
    · rw [g.ob] at h1
      cases h1
      rcases h2 with ⟨_, _, _, _, _, _, e⟩ | ⟨_, e⟩
      · exact kf_wf e
      · cases e
    all_goals first | rw [g.rs] at h1 | rw [g.nm] at h1 | rw [g.sn] at h1
    all_goals cases h1
    all_goals rcases h2 with ⟨_, _, _, _, _, _, e⟩ | ⟨_, e⟩
    all_goals cases e
  · obtain ⟨e, he⟩ := g.mem hb
    rw [he] at h1
    cases h1
    rcases h2 with ⟨_, _, _, _, _, _, e⟩ | ⟨_, e⟩
    all_goals cases e
theorem KAt.stepW {CK k dx a r n s CW a2 dx2 t l : Addr} {F' : List Addr} {ps : List Addr} {N : KM} {M : WM} {H H' : Hp} (g : KAt CK k dx a r n s ps N H) (W : WAt CW a2 dx2 t l M H) (z : Step [a2, t, l] F' H H') : KAt CK k dx a r n s ps N H' := by
  refine KAt.loc (fun b hb o ho => ?_) g
  obtain ⟨o2, h1, h2⟩ := g.al b hb
  rw [ho] at h1
  cases h1
  exact z.st b o ho (g.apart W b hb) h2.1
/-- a wire stands while a walk's places are written -/
theorem WAt.stepK {CK k dx a r n s CW a2 dx2 t l : Addr} {F' : List Addr} {ps : List Addr} {N : KM} {M : WM} {H H' : Hp} (W : WAt CW a2 dx2 t l M H) (g : KAt CK k dx a r n s ps N H) (z : Step ([k, r, n, s] ++ ps) F' H H') : WAt CW a2 dx2 t l M H' := by
  refine (oWire CW a2 dx2 t l M).loc (fun b hb o ho => ?_) W
  obtain ⟨o2, h1, h2⟩ := (oWire CW a2 dx2 t l M).al W b hb
  rw [ho] at h1
  cases h1
  exact z.st b o ho (fun q => g.apart W b q hb) h2.1
theorem Step.wide {F F' : List Addr} {H H' : Hp} (z : Step F F' H H') (G : List Addr) : Step (F ++ G) (F' ++ G) H H' where
  st := fun b o h n ns => z.st b o h (fun q => n (List.mem_append_left _ q)) ns
  rw_ := fun b a i m y h n hi => z.rw_ b a i m y h (fun q => n (List.mem_append_left _ q)) hi
  th := z.th
  nw := fun b h => by
    rcases List.mem_append.mp h with h | h
    · rcases z.nw b h with q | q
      · exact .inl (List.mem_append_left _ q)
      · exact .inr q
    · exact .inl (List.mem_append_right _ h)
theorem Step.wideL {F F' : List Addr} {H H' : Hp} (z : Step F F' H H') (G : List Addr) : Step (G ++ F) (G ++ F') H H' where
  st := fun b o h n ns => z.st b o h (fun q => n (List.mem_append_right _ q)) ns
  rw_ := fun b a i m y h n hi => z.rw_ b a i m y h (fun q => n (List.mem_append_right _ q)) hi
  th := z.th
  nw := fun b h => by
    rcases List.mem_append.mp h with h | h
    · exact .inl (List.mem_append_left _ h)
    · rcases z.nw b h with q | q
      · exact .inl (List.mem_append_right _ q)
      · exact .inr q
/-- the class, as the top has made it -/
structure ClK (K : PySem.W.Frag) (CK : Addr) : Prop where
  cl : Cls K CK
  n_wire : NoAttr K CK "wire"
  n_kind : NoAttr K CK "kind"
  n_rest : NoAttr K CK "rest"
  n_said : NoAttr K CK "said"
  n_names : NoAttr K CK "names"
  n_seen : NoAttr K CK "seen"
section
variable {K : PySem.W.Frag} {CK k dx a r n s : Addr} {c : Bool} {said : Option Bits} {H : Hp} {Q : VK} {S : Hp → Prop}
theorem g_wire (T : ClK K CK) (h : H k = some (.ins CK dx (kf a c r said n s))) (q : Q (.ref a) H) : FldOk K "wire" (.ref k) H Q := ⟨k, CK, dx, _, _, rfl, h, T.cl, T.n_wire, by kernel_rfl, q⟩
theorem g_kind (T : ClK K CK) (h : H k = some (.ins CK dx (kf a c r said n s))) (q : Q (.str (kindS c)) H) : FldOk K "kind" (.ref k) H Q := ⟨k, CK, dx, _, _, rfl, h, T.cl, T.n_kind, by kernel_rfl, q⟩
theorem g_rest (T : ClK K CK) (h : H k = some (.ins CK dx (kf a c r said n s))) (q : Q (.ref r) H) : FldOk K "rest" (.ref k) H Q := ⟨k, CK, dx, _, _, rfl, h, T.cl, T.n_rest, by kernel_rfl, q⟩
theorem g_said (T : ClK K CK) (h : H k = some (.ins CK dx (kf a c r said n s))) (q : Q (tvo said) H) : FldOk K "said" (.ref k) H Q := ⟨k, CK, dx, _, _, rfl, h, T.cl, T.n_said, by kernel_rfl, q⟩
theorem g_saids {b : Bits} (T : ClK K CK) (h : H k = some (.ins CK dx (kf a c r (some b) n s))) (q : Q (.str (B b)) H) : FldOk K "said" (.ref k) H Q := g_said T h q
theorem g_names (T : ClK K CK) (h : H k = some (.ins CK dx (kf a c r said n s))) (q : Q (.ref n) H) : FldOk K "names" (.ref k) H Q := ⟨k, CK, dx, _, _, rfl, h, T.cl, T.n_names, by kernel_rfl, q⟩
theorem g_seen (T : ClK K CK) (h : H k = some (.ins CK dx (kf a c r said n s))) (q : Q (.ref s) H) : FldOk K "seen" (.ref k) H Q := ⟨k, CK, dx, _, _, rfl, h, T.cl, T.n_seen, by kernel_rfl, q⟩
theorem q_said (b : Option Bits) : putF "said" (tvo b) (kf a c r said n s) = kf a c r b n s := by kernel_rfl
theorem t_said {v : V} (b : Option Bits) (T : ClK K CK) (hv : v = tvo b) (h : H k = some (.ins CK dx (kf a c r said n s))) (q : S (upd H k (.ins CK dx (kf a c r b n s)))) : StoOk K "said" v (.ref k) H S := by
  subst hv
  exact ⟨k, CK, dx, _, rfl, h, T.cl, T.n_said, by show 6 < 1000; decide, by rw [q_said]; exact q⟩
end
/-! ### what becomes of the places -/
section
variable {CK k dx a r n s : Addr} {ps : List Addr} {N : KM} {H : Hp}
theorem KAt.kr (g : KAt CK k dx a r n s ps N H) : k ≠ r := ne_of g.ob g.rs (fun q => by cases q)
theorem KAt.kn (g : KAt CK k dx a r n s ps N H) : k ≠ n := ne_of g.ob g.nm (fun q => by cases q)
theorem KAt.ks (g : KAt CK k dx a r n s ps N H) : k ≠ s := ne_of g.ob g.sn (fun q => by cases q)
theorem KAt.np {p : Addr} (g : KAt CK k dx a r n s ps N H) (hp : p ∈ ps) : p ≠ k ∧ p ≠ r ∧ p ≠ n ∧ p ≠ s := by
  obtain ⟨e, he⟩ := g.mem hp
  exact ⟨ne_of he g.ob (fun q => by cases q), ne_of he g.rs (fun q => by cases q), ne_of he g.nm (fun q => by cases q), ne_of he g.sn (fun q => by cases q)⟩
theorem KAt.put_ts {q : Addr} {o : HO} (g : KAt CK k dx a r n s ps N H) (hq : q = k ∨ q = r ∨ q = n ∨ q = s) : ps.map (upd H q o) = N.seen.map fun e => some (sTup e) := by
  rw [← g.ts]
  apply List.map_congr_left
  intro p hp
  obtain ⟨h1, h2, h3, h4⟩ := g.np hp
  rw [upd_ne]
  rcases hq with rfl | rfl | rfl | rfl <;> assumption
theorem KAt.said (g : KAt CK k dx a r n s ps N H) (b : Option Bits) : KAt CK k dx a r n s ps { N with said := b } (upd H k (.ins CK dx (kf a N.kind r b n s))) where
  ob := upd_same
  rs := by rw [upd_ne g.kr.symm]; exact g.rs
  nm := by rw [upd_ne g.kn.symm]; exact g.nm
  sn := by rw [upd_ne g.ks.symm]; exact g.sn
  ts := g.put_ts (.inl rfl)
  rn := g.rn
  rS := g.rS
  nS := g.nS
theorem KAt.rest (g : KAt CK k dx a r n s ps N H) (ls : List Bits) : KAt CK k dx a r n s ps { N with rest := ls } (upd H r (.lst (bvs ls))) where
  ob := by rw [upd_ne g.kr]; exact g.ob
  rs := upd_same
  nm := by rw [upd_ne g.rn.symm]; exact g.nm
  sn := by rw [upd_ne g.rS.symm]; exact g.sn
  ts := g.put_ts (.inr (.inl rfl))
  rn := g.rn
  rS := g.rS
  nS := g.nS
theorem KAt.names (g : KAt CK k dx a r n s ps N H) (ls : List Bits) : KAt CK k dx a r n s ps { N with names := ls } (upd H n (.lst (bvs ls))) where
  ob := by rw [upd_ne g.kn]; exact g.ob
  rs := by rw [upd_ne g.rn]; exact g.rs
  nm := upd_same
  sn := by rw [upd_ne g.nS.symm]; exact g.sn
  ts := g.put_ts (.inr (.inr (.inl rfl)))
  rn := g.rn
  rS := g.rS
  nS := g.nS
theorem KAt.seen {p : Addr} {e : Bits × Bool × Bool} (g : KAt CK k dx a r n s ps N H) (hp : H p = some (sTup e)) : KAt CK k dx a r n s (ps ++ [p]) { N with seen := N.seen ++ [e] } (upd H s (.lst ((ps ++ [p]).map V.ref))) where
  ob := by rw [upd_ne g.ks]; exact g.ob
  rs := by rw [upd_ne g.rS]; exact g.rs
  nm := by rw [upd_ne g.nS]; exact g.nm
  sn := upd_same
  ts := by
    rw [List.map_append, g.put_ts (.inr (.inr (.inr rfl)))]
    simp only [List.map_append, List.map_cons, List.map_nil]
    rw [upd_ne (ne_of hp g.sn (fun q => by cases q)), hp]
  rn := g.rn
  rS := g.rS
  nS := g.nS
theorem KAt.ext {H' : Hp} (g : KAt CK k dx a r n s ps N H) (e : Ext H H') : KAt CK k dx a r n s ps N H' := (oWalk CK k dx a r n s ps N).ext e g
theorem KAt.seen_len (g : KAt CK k dx a r n s ps N H) : ps.length = N.seen.length := by
  have := congrArg List.length g.ts
  simpa using this
end
theorem w_lpop {r : Addr} {ls : List Bits} {H : Hp} {Q : VK} (h : H r = some (.lst (bvs ls))) (hn : ls ≠ []) (k : Q (.str (B (ls.getLastD []))) (upd H r (.lst (bvs ls.dropLast)))) : rPop (.ref r) [] H Q := by
  refine ⟨r, bvs ls, .str (B (ls.getLastD [])), rfl, rfl, h, ?_, ?_⟩
  · rw [← List.getLast?_eq_getElem?]
    unfold bvs
    rw [List.getLast?_map, List.getLastD_eq_getLast?, List.getLast?_eq_some_getLast hn]
    rfl
  · have e : (bvs ls).dropLast = bvs ls.dropLast := by unfold bvs; rw [List.map_dropLast]
    rw [e]
    exact k
theorem w_gcons {g : TG} {t : TGs} {v : V} {vs : List V} {σ : St} {H : Hp} {S : St → Hp → Prop} (k : g v σ H fun σ1 H1 => t vs σ1 H1 S) : gCons g t (v :: vs) σ H S := ⟨v, vs, rfl, k⟩
theorem w_gnil {σ : St} {H : Hp} {S : St → Hp → Prop} (k : S σ H) : gNil [] σ H S := ⟨rfl, k⟩
theorem int_sign (b : Bool) : PySem.intText? (B [b]) = some (if b = true then 1 else 0) := by cases b <;> decide +kernel
/-- what a step tells -/
def dres : Res → PyData
  | .none => .none
  | .found x => .tuple [.str "found", .str (B x)]
  | .lost => .tuple [.str "lost"]
theorem dres_none {r : Res} : dres r = .none ↔ r = .none := by cases r <;> simp [dres]
def dseen (l : List (Bits × Bool × Bool)) : PyData := .list (l.map fun e => .tuple [.str (B e.1), .bool e.2.1, .bool e.2.2])
theorem KAt.dq {K : PySem.W.Frag} {CK k dx a r n s : Addr} {ps : List Addr} {N : KM} {H H' : Hp} {p : Addr} (g : KAt CK k dx a r n s ps N H) (hz : N.seen.length ≤ 100000) (hp : H p = some (.lst (ps.map V.ref))) : Dq K H (.ref p) (dseen N.seen) := by
  have hl := g.seen_len
  refine .lst (SqL.of hp) (nsh_refs _) (by rw [List.length_map, hl]; exact hz) ?_
  have key : ∀ (ps : List Addr) (l : List (Bits × Bool × Bool)), ps.map H = l.map (fun e => some (sTup e)) → DqAll K H (ps.map V.ref) (l.map fun e => .tuple [.str (B e.1), .bool e.2.1, .bool e.2.2]) := by
    intro ps
    induction ps with
    | nil =>
      intro l h
      cases l with
      | nil => exact .nil
      | cons e l => cases h
    | cons q qs ih =>
      intro l h
      cases l with
      | nil => cases h
      | cons e l =>
        injection h with h1 h2
        exact .cons (.tup (SqT.of h1) (by show 3 ≤ 100000; decide) (.cons (.str _) (.cons (.bl _) (.cons (.bl _) .nil)))) (ih l h2)
  exact key ps N.seen g.ts
end Lw
end

section
open PySem L2 Lw
local macro_rules | `(tactic| tm_at "s") => `(tactic| first
  | with_reducible refine w_seq ?_ | with_reducible refine w_asg ?_ | with_reducible refine w_gname ?_ | with_reducible refine w_ret ?_ | with_reducible refine w_drop ?_ | with_reducible refine w_ifS ?_ | with_reducible refine w_next ?_ | with_reducible refine w_retN ?_
  | with_reducible refine w_c ?_ | ((with_reducible refine w_var (v := ?vv) ?hh ?kk); (case hh => exact rfl)) | with_reducible refine w_op ?_ | with_reducible refine w_un ?_ | with_reducible refine w_cons ?_ | with_reducible refine w_nil ?_ | with_reducible refine w_test ?_ | with_reducible refine w_B ?_
  | with_reducible refine w_isbl ?_ | with_reducible refine w_not ?_ | with_reducible refine w_and ?_ | with_reducible refine w_or ?_ | with_reducible refine w_andV ?_ | with_reducible refine w_orV ?_ | with_reducible refine w_notV ?_ | with_reducible refine w_if ?_ | with_reducible refine w_chain ?_
  | with_reducible refine w_isN ?_ | with_reducible refine w_notN ?_ | with_reducible refine w_yes ?_ | with_reducible refine w_call ?_ | with_reducible refine w_CB ?_ | with_reducible refine w_tup ?_ | with_reducible refine w_lst ?_ | with_reducible refine w_sl ?_ | with_reducible refine w_noPart ?_
  | with_reducible refine w_part ?_ | with_reducible refine w_isint ?_ | with_reducible refine w_gSub ?_ | with_reducible refine w_break ?_ | with_reducible refine w_cont ?_
  | with_reducible refine w_I0 ?_ | with_reducible refine w_eqI ?_ | with_reducible refine w_neI ?_ | with_reducible refine w_eqS ?_ | with_reducible refine w_neS ?_ | with_reducible refine w_eqB ?_ | with_reducible refine w_neB ?_ | ((with_reducible refine w_isi (d := ?dd) ?hh ?kk); (case hh => assumption))
  | with_reducible refine w_sg ?_ | with_reducible refine w_notSg ?_ | with_reducible refine w_starts ?_ | with_reducible refine w_max2 ?_ | with_reducible refine w_min2 ?_ | with_reducible refine w_intB ?_ | with_reducible refine w_intI ?_ | with_reducible refine w_bm ?_ | with_reducible refine w_bm0 ?_ | with_reducible refine w_m1 ?_ | with_reducible refine w_m0 ?_ | with_reducible refine w_isstr ?_
  | with_reducible refine w_for ?_ | with_reducible refine w_lc ?_ | with_reducible refine w_rng ?_ | with_reducible refine w_rng2 ?_ | with_reducible refine w_ilist ?_ | with_reducible refine w_itup ?_ | with_reducible refine w_istr ?_ | with_reducible refine w_strOk ?_
  | ((with_reducible refine w_rngOk ?hh ?h2 ?kk); (case hh => omega); (case h2 => omega)) | ((with_reducible refine w_lstOk (xs := ?xx) ?hh ?kk); (case hh => assumption))
  | ((with_reducible refine w_alL ?hh ?kk); (case hh => exact Nat.le_of_ble_eq_true rfl)) | ((with_reducible refine w_alT ?hh ?kk); (case hh => exact Nat.le_of_ble_eq_true rfl))
  | ((with_reducible refine w_lenL (xs := ?xx) ?hh ?kk); (case hh => assumption)) | ((with_reducible refine w_lenT (xs := ?xx) ?hh ?kk); (case hh => assumption))
  | ((with_reducible refine w_I ?hh ?kk); (case hh => first | (show _ ≠ (0 : Int); omega) | (show (0 : Int) < _; omega) | exact ⟨by omega, by omega⟩ | exact .inl ⟨by omega, by omega⟩ | exact .inr ⟨by omega, by omega⟩ | exact ⟨by decide, by decide, by decide⟩))
  | with_reducible refine w_din ?_ | with_reducible refine w_dnot ?_ | with_reducible refine w_dget ?_ | with_reducible refine w_dput ?_ | with_reducible refine w_fld ?_ | with_reducible refine w_sto ?_ | with_reducible refine w_meth ?_ | with_reducible refine w_pop1 ?_ | with_reducible refine w_pop2 ?_ | with_reducible refine w_ikeys ?_
  | ((with_reducible refine f_width (CW := ?v1) (dx := ?v2) (t := ?v3) (l := ?v4) (w := ?v5) (told := ?v6) (many := ?v7) ?tw ?hh ?kk); (case tw => assumption); (case hh => assumption))
  | ((with_reducible refine f_things (CW := ?v1) (dx := ?v2) (t := ?v3) (l := ?v4) (w := ?v5) (told := ?v6) (many := ?v7) ?tw ?hh ?kk); (case tw => assumption); (case hh => assumption))
  | ((with_reducible refine f_listening (CW := ?v1) (dx := ?v2) (t := ?v3) (l := ?v4) (w := ?v5) (told := ?v6) (many := ?v7) ?tw ?hh ?kk); (case tw => assumption); (case hh => assumption))
  | ((with_reducible refine f_tolds (CW := ?v1) (dx := ?v2) (t := ?v3) (l := ?v4) (w := ?v5) (b := ?v6) (many := ?v7) ?tw ?hh ?kk); (case tw => assumption); (case hh => assumption))
  | ((with_reducible refine f_told (CW := ?v1) (dx := ?v2) (t := ?v3) (l := ?v4) (w := ?v5) (told := ?v6) (many := ?v7) ?tw ?hh ?kk); (case tw => assumption); (case hh => assumption))
  | ((with_reducible refine f_many (CW := ?v1) (dx := ?v2) (t := ?v3) (l := ?v4) (w := ?v5) (told := ?v6) (many := ?v7) ?tw ?hh ?kk); (case tw => assumption); (case hh => assumption))
  | ((with_reducible refine w_ixL (v := ?vv) (xs := ?xx) ?hh ?h2 ?kk); (case hh => assumption); (case h2 => exact rfl)) | ((with_reducible refine w_ixT (v := ?vv) (xs := ?xx) ?hh ?h2 ?kk); (case hh => assumption); (case h2 => exact rfl)))
local macro_rules | `(tactic| tm_at "r") => `(tactic| repeat tm_at "s")
local macro_rules | `(tactic| tm_at "b") => `(tactic| first | refine w_iteT (by with_reducible rfl) ?_ | refine w_iteF (by with_reducible rfl) ?_ | refine w_iteT (by rfl) ?_ | refine w_iteF (by rfl) ?_)
local macro_rules | `(tactic| tm_at "e") => `(tactic| repeat (first | tm_at "s" | tm_at "b"))
local macro_rules | `(tactic| tm_at "s") => `(tactic| first
  | with_reducible refine w_gcons ?_ | with_reducible refine w_gnil ?_
  | ((with_reducible refine g_wire (CK := ?v1) (dx := ?v2) (a := ?v3) (c := ?v4) (r := ?v5) (said := ?v6) (n := ?v7) (s := ?v8) ?tw ?hh ?kk); (case tw => assumption); (case hh => assumption))
  | ((with_reducible refine g_kind (CK := ?v1) (dx := ?v2) (a := ?v3) (c := ?v4) (r := ?v5) (said := ?v6) (n := ?v7) (s := ?v8) ?tw ?hh ?kk); (case tw => assumption); (case hh => assumption))
  | ((with_reducible refine g_rest (CK := ?v1) (dx := ?v2) (a := ?v3) (c := ?v4) (r := ?v5) (said := ?v6) (n := ?v7) (s := ?v8) ?tw ?hh ?kk); (case tw => assumption); (case hh => assumption))
  | ((with_reducible refine g_saids (CK := ?v1) (dx := ?v2) (a := ?v3) (c := ?v4) (r := ?v5) (b := ?v6) (n := ?v7) (s := ?v8) ?tw ?hh ?kk); (case tw => assumption); (case hh => assumption))
  | ((with_reducible refine g_said (CK := ?v1) (dx := ?v2) (a := ?v3) (c := ?v4) (r := ?v5) (said := ?v6) (n := ?v7) (s := ?v8) ?tw ?hh ?kk); (case tw => assumption); (case hh => assumption))
  | ((with_reducible refine g_names (CK := ?v1) (dx := ?v2) (a := ?v3) (c := ?v4) (r := ?v5) (said := ?v6) (n := ?v7) (s := ?v8) ?tw ?hh ?kk); (case tw => assumption); (case hh => assumption))
  | ((with_reducible refine g_seen (CK := ?v1) (dx := ?v2) (a := ?v3) (c := ?v4) (r := ?v5) (said := ?v6) (n := ?v7) (s := ?v8) ?tw ?hh ?kk); (case tw => assumption); (case hh => assumption)))
namespace My
section
variable (K : PySem.W.Frag) (CW CK cK cO : Addr)
def sp_kinit : Sp := fun vs H Q E => ∃ (k a dx : Addr) (x : Str), vs = [.ref k, .ref a, .str x] ∧ H k = some (.ins CK dx []) ∧ (¬ (x = "all" ∨ x = "alarm") → E (.ref cK) none H) ∧
  ∀ (c : Bool) (r n s : Addr) (H' : Hp), x = kindS c → KAt CK k dx a r n s [] ⟨c, [[]], none, [], []⟩ H' → Step [k] ([k, r, n, s] ++ []) H H' → Q .non H'
def KOut (a dx t l k dk r n s : Addr) (ps : List Addr) (H : Hp) (Q : VK) (M : WM) (N : KM) (e : Res) : Prop := ∀ (l' : Addr) (ps' : List Addr) (v : V) (H' : Hp), WAt CW a dx t l' M H' → KAt CK k dk a r n s ps' N H' → Dq K H' v (dres e) → Step ([a, t, l] ++ ([k, r, n, s] ++ ps)) ([a, t, l'] ++ ([k, r, n, s] ++ ps')) H H' → Q v H'
def sp_ksay : Sp := fun vs H Q _ => ∃ (a dx t l k dk r n s : Addr) (ps : List Addr) (M : WM) (N : KM) (b : Bits) (c : Bool), vs = [.ref k, .int (bi c)] ∧ WAt CW a dx t l M H ∧ KAt CK k dk a r n s ps N H ∧ WOk M ∧ N.said = some b ∧ M.told = some b ∧ b.length < M.width ∧
  ∀ H', WAt CW a dx t l (M.say b c) H' → KAt CK k dk a r n s ps { N with said := some (b ++ [c]) } H' → Step ([a, t, l] ++ ([k, r, n, s] ++ ps)) ([a, t, l] ++ ([k, r, n, s] ++ ps)) H H' → Q .non H'
def sp_kended : Sp := fun vs H Q _ => ∃ (a dx t l k dk r n s : Addr) (ps : List Addr) (M : WM) (N : KM) (b : Bits), vs = [.ref k] ∧ WAt CW a dx t l M H ∧ KAt CK k dk a r n s ps N H ∧ WOk M ∧ N.said = some b ∧ b.length ≤ M.width ∧ N.Sz ∧
  ∀ (v : V) (H' : Hp), WAt CW a dx t l M H' → KAt CK k dk a r n s ps (N.ended M.width b).1 H' → Dq K H' v (dres (N.ended M.width b).2) → Step ([k, r, n, s] ++ ps) ([k, r, n, s] ++ ps) H H' → Q v H'
def sp_kbegin : Sp := fun vs H Q E => ∃ (a dx t l k dk r n s : Addr) (ps : List Addr) (M : WM) (N : KM), vs = [.ref k] ∧ WAt CW a dx t l M H ∧ KAt CK k dk a r n s ps N H ∧ WOk M ∧ KP M N ∧ N.Sz ∧ N.said = none ∧
  (N.rest = [] → ∀ H', Ext H H' → E (.ref cO) none H') ∧ (N.rest ≠ [] → KOut K CW CK a dx t l k dk r n s ps H Q (kstep M N).1 (kstep M N).2.1 (kstep M N).2.2)
def Szz (N : KM) : Prop := N.rest.length < 9000 ∧ N.names.length ≤ 9000 ∧ N.seen.length < 9000
def sp_kstep : Sp := fun vs H Q E => ∃ (a dx t l k dk r n s : Addr) (ps : List Addr) (M : WM) (N : KM), vs = [.ref k] ∧ WAt CW a dx t l M H ∧ KAt CK k dk a r n s ps N H ∧ WOk M ∧ KP M N ∧ Szz N ∧
  (N.over = true → ∀ H', Ext H H' → E (.ref cO) none H') ∧ (N.over = false → KOut K CW CK a dx t l k dk r n s ps H Q (kstep M N).1 (kstep M N).2.1 (kstep M N).2.2)
def SzB (b : Nat) (N : KM) : Prop := N.rest.length ≤ b ∧ N.names.length ≤ b ∧ N.seen.length ≤ b
def sp_kround : Sp := fun vs H Q E => ∃ (a dx t l k dk r n s : Addr) (ps : List Addr) (M : WM) (N : KM), vs = [.ref k] ∧ WAt CW a dx t l M H ∧ KAt CK k dk a r n s ps N H ∧ WOk M ∧ KP M N ∧ SzB 8900 N ∧
  (N.over = true → ∀ H', Ext H H' → E (.ref cO) none H') ∧ (N.over = false → ∀ j M1 N1 e, KRound j M N M1 N1 e → j ≤ 13 → KOut K CW CK a dx t l k dk r n s ps H Q M1 N1 e)
def sp_kall : Sp := fun vs H Q _ => ∃ (a dx t l k dk r n s : Addr) (ps : List Addr) (M : WM) (N : KM) (j : Nat) (M1 : WM) (N1 : KM), vs = [.ref k] ∧ WAt CW a dx t l M H ∧ KAt CK k dk a r n s ps N H ∧ WOk M ∧ KP M N ∧ KRun j M N M1 N1 ∧ SzB (8900 - j) N ∧ j ≤ 8900 ∧
  ∀ (l' : Addr) (ps' : List Addr) (p : Addr) (H' : Hp), WAt CW a dx t l' M1 H' → KAt CK k dk a r n s ps' N1 H' → H' p = some (.lst (bvs N1.names)) → H p = none → Step ([a, t, l] ++ ([k, r, n, s] ++ ps)) ([a, t, l'] ++ ([k, r, n, s] ++ ps')) H H' → Q (.ref p) H'
def sp_kleft : Sp := fun vs H Q _ => ∃ (a k dk r n s : Addr) (ps : List Addr) (N : KM), vs = [.ref k] ∧ KAt CK k dk a r n s ps N H ∧ ∀ (p : Addr) (H' : Hp), H p = none → Ext H H' → H' p = some (.lst (bvs N.rest)) → Q (.ref p) H'
def sp_kfound : Sp := fun vs H Q _ => ∃ (a k dk r n s : Addr) (ps : List Addr) (N : KM), vs = [.ref k] ∧ KAt CK k dk a r n s ps N H ∧ ∀ (p : Addr) (H' : Hp), H p = none → Ext H H' → H' p = some (.lst (bvs N.names)) → Q (.ref p) H'
def sp_kpaper : Sp := fun vs H Q _ => ∃ (a k dk r n s : Addr) (ps : List Addr) (N : KM), vs = [.ref k] ∧ KAt CK k dk a r n s ps N H ∧ ∀ (p : Addr) (H' : Hp), H p = none → Ext H H' → H' p = some (.lst (ps.map V.ref)) → Q (.ref p) H'
def sp_kway : Sp := fun vs H Q _ => ∃ (a k dk r n s : Addr) (ps : List Addr) (N : KM), vs = [.ref k] ∧ KAt CK k dk a r n s ps N H ∧ Q (.bl N.said.isSome) H
end
section
variable {P : Program} {w : World} {K : PySem.W.Frag} {mg : Str → Option Value} {base : Heap} {CW CK : Addr}
theorem tvo_some (o : Option Bits) : (!decide (tvo o = V.non)) = o.isSome := by cases o <;> simp [tvo]
theorem dq_non {H : Hp} {v : V} {d : PyData} (h : Dq K H v d) : (v = .non ↔ d = .none) := by cases h <;> simp
theorem kround_split {j : Nat} {M M1 : WM} {N N1 : KM} {e : Res} (t : KRound j M N M1 N1 e) : (j = 1 ∧ (kstep M N).2.2 ≠ .none ∧ M1 = (kstep M N).1 ∧ N1 = (kstep M N).2.1 ∧ e = (kstep M N).2.2) ∨ (∃ m, j = m + 1 ∧ (kstep M N).2.2 = .none ∧ KRound m (kstep M N).1 (kstep M N).2.1 M1 N1 e) := by
  cases t with
  | last h => exact .inl ⟨rfl, h, rfl, rfl, rfl⟩
  | more h t => exact .inr ⟨_, rfl, h, t⟩
def RW_ (K : PySem.W.Frag) (CW CK a dx t l k dk r n s : Addr) (ps : List Addr) (H0 : Hp) (M' : WM) (N' : KM) (e' : Res) (m : Nat) (σ : St) (H : Hp) : Prop := ∃ (v : V) (M1 : WM) (N1 : KM) (e : Res) (l1 : Addr) (ps1 : List Addr), σ = [some (.ref k), some v] ∧ WAt CW a dx t l1 M1 H ∧ KAt CK k dk a r n s ps1 N1 H ∧ Dq K H v (dres e) ∧
  Step ([a, t, l] ++ ([k, r, n, s] ++ ps)) ([a, t, l1] ++ ([k, r, n, s] ++ ps1)) H0 H ∧ ((m = 0 ∧ e ≠ .none ∧ M1 = M' ∧ N1 = N' ∧ e = e') ∨ (e = .none ∧ KRound m M1 N1 M' N' e' ∧ WOk M1 ∧ KP M1 N1 ∧ N1.over = false ∧ SzB (8914 - m) N1 ∧ m ≤ 13))
end
end My
end

section
/-! the law's own rows of a wire and of a walk: dicts with fixed texts as keys -/
namespace Lw
open PySem L2
/-! ### two things as one -/
def Own.two (A B : Own) : Own where
  S := fun H => Sts H [A, B]
  F := A.F ++ B.F
  loc := fun h s => by
    refine ⟨fun o ho => ?_, s.2⟩
    simp only [List.mem_cons, List.not_mem_nil, or_false] at ho
    rcases ho with rfl | rfl
    · exact o.loc (fun b hb => h b (List.mem_append_left _ hb)) (s.1 o List.mem_cons_self)
    · exact o.loc (fun b hb => h b (List.mem_append_right _ hb)) (s.1 o (by simp))
  al := fun s b hb => by
    rcases List.mem_append.mp hb with hb | hb
    · exact A.al (s.1 A List.mem_cons_self) b hb
    · exact B.al (s.1 B (by simp)) b hb
section
variable {H H' : Hp} {l l1 l2 : List Own} {A B A' B' : Own} {K : PySem.W.Frag} {r : Addr}
theorem Sts.two (hA : A.S H) (hB : B.S H) (d : ∀ x ∈ A.F, x ∉ B.F) : Sts H [A, B] := by
  refine ⟨fun o ho => ?_, List.pairwise_cons.mpr ⟨fun V hV => ?_, List.pairwise_cons.mpr ⟨fun V hV => absurd hV (by simp), List.Pairwise.nil⟩⟩⟩
  · simp only [List.mem_cons, List.not_mem_nil, or_false] at ho
    rcases ho with rfl | rfl
    · exact hA
    · exact hB
  · rw [List.mem_singleton.mp hV]
    exact d
theorem Sts.fst (s : Sts H [A, B]) : A.S H := s.1 A List.mem_cons_self
theorem Sts.snd (s : Sts H [A, B]) : B.S H := s.1 B (by simp)
theorem Sts.dis (s : Sts H [A, B]) : ∀ x ∈ A.F, x ∉ B.F := (List.pairwise_cons.mp s.2).1 B (by simp)
theorem Sts.join (s : Sts H (l1 ++ A :: B :: l2)) : Sts H (l1 ++ A.two B :: l2) := by
  obtain ⟨h1, h2⟩ := s
  obtain ⟨p1, p2, p3⟩ := List.pairwise_append.mp h2
  obtain ⟨q1, q2⟩ := List.pairwise_cons.mp p2
  obtain ⟨q3, q4⟩ := List.pairwise_cons.mp q2
  refine ⟨fun V hV => ?_, List.pairwise_append.mpr ⟨p1, List.pairwise_cons.mpr ⟨fun V hV x hx hy => ?_, q4⟩, fun V hV U hU x hx hy => ?_⟩⟩
  · rcases List.mem_append.mp hV with hV | hV
    · exact h1 V (List.mem_append_left _ hV)
    · rcases List.mem_cons.mp hV with rfl | hV
      · exact Sts.two (h1 A (by simp)) (h1 B (by simp)) (q1 B (by simp))
      · exact h1 V (by simp [hV])
  · rcases List.mem_append.mp hx with hx | hx
    · exact q1 V (by simp [hV]) x hx hy
    · exact q3 V hV x hx hy
  · rcases List.mem_cons.mp hU with rfl | hU
    · rcases List.mem_append.mp hy with hy | hy
      · exact p3 V hV A (by simp) x hx hy
      · exact p3 V hV B (by simp) x hx hy
    · exact p3 V hV U (by simp [hU]) x hx hy
theorem Sts.split (s : Sts H (l1 ++ A.two B :: l2)) : Sts H (l1 ++ A :: B :: l2) := by
  obtain ⟨h1, h2⟩ := s
  obtain ⟨p1, p2, p3⟩ := List.pairwise_append.mp h2
  obtain ⟨q1, q2⟩ := List.pairwise_cons.mp p2
  have ab : Sts H [A, B] := h1 (A.two B) (by simp)
  refine ⟨fun V hV => ?_, List.pairwise_append.mpr ⟨p1, List.pairwise_cons.mpr ⟨fun V hV x hx hy => ?_, List.pairwise_cons.mpr ⟨fun V hV x hx hy => q1 V hV x (List.mem_append_right _ hx) hy, q2⟩⟩, fun V hV U hU x hx hy => ?_⟩⟩
  · rcases List.mem_append.mp hV with hV | hV
    · exact h1 V (List.mem_append_left _ hV)
    · rcases List.mem_cons.mp hV with rfl | hV
      · exact ab.fst
      · rcases List.mem_cons.mp hV with rfl | hV
        · exact ab.snd
        · exact h1 V (by simp [hV])
  · rcases List.mem_cons.mp hV with rfl | hV
    · exact ab.dis x hx hy
    · exact q1 V hV x (List.mem_append_left _ hx) hy
  · rcases List.mem_cons.mp hU with rfl | hU
    · exact p3 V hV (U.two B) (by simp) x hx (List.mem_append_left _ hy)
    · rcases List.mem_cons.mp hU with rfl | hU
      · exact p3 V hV (A.two U) (by simp) x hx (List.mem_append_right _ hy)
      · exact p3 V hV U (by simp [hU]) x hx hy
theorem Sts.step2 (s : Sts H (l1 ++ A :: B :: l2)) (w : Sts H' [A', B']) (t : Step (A.F ++ B.F) (A'.F ++ B'.F) H H') : Sts H' (l1 ++ A' :: B' :: l2) := (s.join.step (W' := A'.two B') w t).split
theorem Sts.get2 (s : Sts H (l1 ++ A :: B :: l2)) : Sts H [A, B] := s.join.get
theorem Sts.row2 (s : Sts H (l1 ++ A :: B :: l2)) (t : Step (A.F ++ B.F) (A'.F ++ B'.F) H H') (h : RowOk K H r) : RowOk K H' r := s.join.row (W' := A'.two B') t h
/-- the first of two is written -/
theorem Sts.one (s : Sts H [A, B]) (w : A'.S H') (t : Step A.F A'.F H H') : Sts H' [A', B] := Sts.step (l1 := []) s w t
theorem Sts.other (s : Sts H [A, B]) (w : B'.S H') (t : Step B.F B'.F H H') : Sts H' [A, B'] := Sts.step (l1 := [A]) (l2 := []) s w t
end
/-! ### locks around a making -/
theorem w_lockE {te : TE} {σ : St} {H : Hp} {Q : VK} {d : Addr} {kvs : List (Key × V)} (h : H d = some (.dK kvs)) (k : ∀ od H1, H1 d = some (.frz od (.dK kvs)) → (∀ b, b ≠ d → H1 b = H b) → te σ H1 fun v H' => H' d = some (.frz od (.dK kvs)) ∧ Q v (upd H' d (.dK kvs))) : tLockE te σ H Q :=
  ⟨d, _, h, True.intro, fun od => k od _ upd_same fun b hb => upd_ne hb⟩
theorem ext_unlock {H H1 H' : Hp} {d : Addr} {kvs : List (Key × V)} {od : Obj} (h : H d = some (.dK kvs)) (h1 : H1 d = some (.frz od (.dK kvs))) (hn : ∀ b, b ≠ d → H1 b = H b) (e : Ext H1 H') : Ext H (upd H' d (.dK kvs)) where
  st := fun b o hb n => by
    by_cases c : b = d
    · subst c
      rw [h] at hb
      rw [upd_same]
      exact hb
    · rw [upd_ne c]
      exact e.st b o (by rw [hn b c]; exact hb) n
  rw_ := fun b a i m z hb hi => by
    have c : b ≠ d := fun c => by rw [c, h] at hb; cases hb
    rw [upd_ne c]
    exact e.rw_ b a i m z (by rw [hn b c]; exact hb) hi
  th := fun b o hb => by
    by_cases c : b = d
    · rw [c]
      exact ⟨_, upd_same⟩
    · rw [upd_ne c]
      exact e.th b o (by rw [hn b c]; exact hb)
theorem src_keys {d : Addr} {o : Obj} {α : Type} {g : α → V} {ts : List (Bits × α)} {H : Hp} (h : H d = some (.frz o (.dK (tK g ts)))) : Src (Itk d o (tK g ts)) ts.length (fun i x => ∃ l w, ts[i]? = some (l, w) ∧ x = .str (B l)) H := fun H' e =>
  ⟨fun i hi => ⟨⟨e.st _ _ h nsh_frz, by rw [tK_len]; exact hi⟩, fun x H2 ⟨e2, k, v, y, ex⟩ => ⟨e2, by
      unfold tK at y
      rw [List.getElem?_map] at y
      cases q : ts[i]? with
      | none => rw [q] at y; cases y
      | some pr =>
        rw [q] at y
        obtain ⟨l, w⟩ := pr
        have y' := Option.some.inj y
        simp only [Prod.mk.injEq] at y'
        exact ⟨l, w, rfl, by rw [ex, ← y'.1]; rfl⟩⟩⟩, ⟨e.st _ _ h nsh_frz, by rw [tK_len]; exact Nat.le_refl _⟩⟩
/-! ### the rows of a wire -/
def mf (w : Nat) (t l : Addr) (told : Option Bits) (many : Nat) : List (Key × V) := [(.inr "width", .int (w : Int)), (.inr "things", .ref t), (.inr "listening", .ref l), (.inr "said", tvo told), (.inr "looks", .int (many : Int))]
structure MAt (d t l : Addr) (M : WM) (H : Hp) : Prop where
  ob : H d = some (.dK (mf M.width t l M.told M.many))
  th : H t = some (.dK (tK V.bl M.things))
  li : H l = some (.lst (bvs M.lis))
  dt : d ≠ t
def oM (d t l : Addr) (M : WM) : Own where
  S := MAt d t l M
  F := [d, t, l]
  loc := fun h s => ⟨h _ (by simp) _ s.ob, h _ (by simp) _ s.th, h _ (by simp) _ s.li, s.dt⟩
  al := fun s b hb => by
    simp only [List.mem_cons, List.not_mem_nil, or_false] at hb
    rcases hb with rfl | rfl | rfl
    · exact ⟨_, s.ob, own_dK⟩
    · exact ⟨_, s.th, own_dK⟩
    · exact ⟨_, s.li, own_bvs _⟩
section
variable {d t l : Addr} {M : WM} {H : Hp}
theorem MAt.dl (s : MAt d t l M H) : d ≠ l := ne_of s.ob s.li (fun q => by cases q)
theorem MAt.tl (s : MAt d t l M H) : t ≠ l := ne_of s.th s.li (fun q => by cases q)
end
/-! ### the rows of a walk -/
def jf (c : Bool) (r : Addr) (said : Option Bits) (n s : Addr) : List (Key × V) := [(.inr "kind", .str (kindS c)), (.inr "rest", .ref r), (.inr "said", tvo said), (.inr "found", .ref n), (.inr "paper", .ref s)]
structure JAt (d r n s : Addr) (ps : List Addr) (N : KM) (H : Hp) : Prop where
  ob : H d = some (.dK (jf N.kind r N.said n s))
  rs : H r = some (.lst (bvs N.rest))
  nm : H n = some (.lst (bvs N.names))
  sn : H s = some (.lst (ps.map V.ref))
  ts : ps.map H = N.seen.map fun e => some (sTup e)
  rn : r ≠ n
  rS : r ≠ s
  nS : n ≠ s
section
variable {d r n s : Addr} {ps : List Addr} {N : KM} {H H' : Hp}
theorem JAt.mem (h : JAt d r n s ps N H) {p : Addr} (hp : p ∈ ps) : ∃ e, H p = some (sTup e) := by
  have : H p ∈ ps.map H := List.mem_map_of_mem hp
  rw [h.ts] at this
  obtain ⟨e, _, he⟩ := List.mem_map.mp this
  exact ⟨e, he.symm⟩
theorem JAt.loc (h : ∀ b ∈ [d, r, n, s] ++ ps, ∀ o, H b = some o → H' b = some o) (g : JAt d r n s ps N H) : JAt d r n s ps N H' where
  ob := h _ (by simp) _ g.ob
  rs := h _ (by simp) _ g.rs
  nm := h _ (by simp) _ g.nm
  sn := h _ (by simp) _ g.sn
  ts := by
    rw [← g.ts]
    apply List.map_congr_left
    intro p hp
    obtain ⟨e, he⟩ := g.mem hp
    rw [he]
    exact h p (by simp [hp]) _ he
  rn := g.rn
  rS := g.rS
  nS := g.nS
theorem JAt.al (g : JAt d r n s ps N H) : ∀ b ∈ [d, r, n, s] ++ ps, ∃ o, H b = some o ∧ Ownd o := by
  intro b hb
  rcases List.mem_append.mp hb with hb | hb
  · simp only [List.mem_cons, List.not_mem_nil, or_false] at hb
    rcases hb with rfl | rfl | rfl | rfl
    · exact ⟨_, g.ob, own_dK⟩
    · exact ⟨_, g.rs, own_bvs _⟩
    · exact ⟨_, g.nm, own_bvs _⟩
    · exact ⟨_, g.sn, own_refs _⟩
  · obtain ⟨e, he⟩ := g.mem hb
    exact ⟨_, he, own_tup⟩
theorem JAt.kr (g : JAt d r n s ps N H) : d ≠ r := ne_of g.ob g.rs (fun q => by cases q)
theorem JAt.kn (g : JAt d r n s ps N H) : d ≠ n := ne_of g.ob g.nm (fun q => by cases q)
theorem JAt.ks (g : JAt d r n s ps N H) : d ≠ s := ne_of g.ob g.sn (fun q => by cases q)
theorem JAt.np {p : Addr} (g : JAt d r n s ps N H) (hp : p ∈ ps) : p ≠ d ∧ p ≠ r ∧ p ≠ n ∧ p ≠ s := by
  obtain ⟨e, he⟩ := g.mem hp
  exact ⟨ne_of he g.ob (fun q => by cases q), ne_of he g.rs (fun q => by cases q), ne_of he g.nm (fun q => by cases q), ne_of he g.sn (fun q => by cases q)⟩
theorem JAt.put_ts {q : Addr} {o : HO} (g : JAt d r n s ps N H) (hq : q = d ∨ q = r ∨ q = n ∨ q = s) : ps.map (upd H q o) = N.seen.map fun e => some (sTup e) := by
  rw [← g.ts]
  apply List.map_congr_left
  intro p hp
  obtain ⟨h1, h2, h3, h4⟩ := g.np hp
  rw [upd_ne]
  rcases hq with rfl | rfl | rfl | rfl <;> assumption
theorem JAt.said (g : JAt d r n s ps N H) (b : Option Bits) : JAt d r n s ps { N with said := b } (upd H d (.dK (jf N.kind r b n s))) where
  ob := upd_same
  rs := by rw [upd_ne g.kr.symm]; exact g.rs
  nm := by rw [upd_ne g.kn.symm]; exact g.nm
  sn := by rw [upd_ne g.ks.symm]; exact g.sn
  ts := g.put_ts (.inl rfl)
  rn := g.rn
  rS := g.rS
  nS := g.nS
theorem JAt.rest (g : JAt d r n s ps N H) (ls : List Bits) : JAt d r n s ps { N with rest := ls } (upd H r (.lst (bvs ls))) where
  ob := by rw [upd_ne g.kr]; exact g.ob
  rs := upd_same
  nm := by rw [upd_ne g.rn.symm]; exact g.nm
  sn := by rw [upd_ne g.rS.symm]; exact g.sn
  ts := g.put_ts (.inr (.inl rfl))
  rn := g.rn
  rS := g.rS
  nS := g.nS
theorem JAt.names (g : JAt d r n s ps N H) (ls : List Bits) : JAt d r n s ps { N with names := ls } (upd H n (.lst (bvs ls))) where
  ob := by rw [upd_ne g.kn]; exact g.ob
  rs := by rw [upd_ne g.rn]; exact g.rs
  nm := upd_same
  sn := by rw [upd_ne g.nS.symm]; exact g.sn
  ts := g.put_ts (.inr (.inr (.inl rfl)))
  rn := g.rn
  rS := g.rS
  nS := g.nS
theorem JAt.seen {p : Addr} {e : Bits × Bool × Bool} (g : JAt d r n s ps N H) (hp : H p = some (sTup e)) : JAt d r n s (ps ++ [p]) { N with seen := N.seen ++ [e] } (upd H s (.lst ((ps ++ [p]).map V.ref))) where
  ob := by rw [upd_ne g.ks]; exact g.ob
  rs := by rw [upd_ne g.rS]; exact g.rs
  nm := by rw [upd_ne g.nS]; exact g.nm
  sn := upd_same
  ts := by
    rw [List.map_append, g.put_ts (.inr (.inr (.inr rfl)))]
    simp only [List.map_append, List.map_cons, List.map_nil]
    rw [upd_ne (ne_of hp g.sn (fun q => by cases q)), hp]
  rn := g.rn
  rS := g.rS
  nS := g.nS
theorem JAt.seen_len (g : JAt d r n s ps N H) : ps.length = N.seen.length := by
  have := congrArg List.length g.ts
  simpa using this
end
def oJ (d r n s : Addr) (ps : List Addr) (N : KM) : Own := ⟨JAt d r n s ps N, [d, r, n, s] ++ ps, JAt.loc, JAt.al⟩
theorem seen_dq {K : PySem.W.Frag} {ps : List Addr} {l : List (Bits × Bool × Bool)} {H : Hp} {p : Addr} (ts : ps.map H = l.map fun e => some (sTup e)) (hz : l.length ≤ 100000) (hp : H p = some (.lst (ps.map V.ref))) : Dq K H (.ref p) (dseen l) := by
  have hl : ps.length = l.length := by
    have := congrArg List.length ts
    simpa using this
  refine .lst (SqL.of hp) (nsh_refs _) (by rw [List.length_map, hl]; exact hz) ?_
  clear hp hz hl
  induction ps generalizing l with
  | nil =>
    cases l with
    | nil => exact .nil
    | cons e l => cases ts
  | cons q qs ih =>
    cases l with
    | nil => cases ts
    | cons e l =>
      injection ts with h1 h2
      exact .cons (.tup (SqT.of h1) (by show 3 ≤ 100000; decide) (.cons (.str _) (.cons (.bl _) (.cons (.bl _) .nil)))) (ih h2)
/-! ### readings -/
section
variable {d t l r n s : Addr} {w many : Nat} {told said : Option Bits} {c : Bool} {H : Hp} {Q : VK} {S : Hp → Prop}
theorem dgetR {d : Addr} {kvs : List (Key × V)} {k : Str} {v : V} (h : H d = some (.dK kvs)) (e : valV kvs (.inr k) = some v) (q : Q v H) : DgetOk (.ref d) (.str k) H Q := ⟨d, v, rfl, .inl ⟨_, Sum.inr k, .inl h, rfl, e.symm⟩, q⟩
theorem dputR {d : Addr} {kvs kvs' : List (Key × V)} {k : Str} {v : V} (h : H d = some (.dK kvs)) (hz : kvs.length < 1000) (e : putK kvs (.inr k) v = kvs') (q : S (upd H d (.dK kvs'))) : DputOk v (.ref d) (.str k) H S := ⟨d, _, rfl, .inl ⟨_, Sum.inr k, h, rfl, Nat.lt_of_lt_of_le hz (by decide), rfl⟩, by rw [e]; exact q⟩
theorem m_width (h : H d = some (.dK (mf w t l told many))) (q : Q (.int (w : Int)) H) : DgetOk (.ref d) (.str "width") H Q := dgetR h (by kernel_rfl) q
theorem m_things (h : H d = some (.dK (mf w t l told many))) (q : Q (.ref t) H) : DgetOk (.ref d) (.str "things") H Q := dgetR h (by kernel_rfl) q
theorem m_lis (h : H d = some (.dK (mf w t l told many))) (q : Q (.ref l) H) : DgetOk (.ref d) (.str "listening") H Q := dgetR h (by kernel_rfl) q
theorem m_saids {b : Bits} (h : H d = some (.dK (mf w t l (some b) many))) (q : Q (.str (B b)) H) : DgetOk (.ref d) (.str "said") H Q := dgetR h (by kernel_rfl) q
theorem m_said (h : H d = some (.dK (mf w t l told many))) (q : Q (tvo told) H) : DgetOk (.ref d) (.str "said") H Q := dgetR h (by kernel_rfl) q
theorem m_looks (h : H d = some (.dK (mf w t l told many))) (q : Q (.int (many : Int)) H) : DgetOk (.ref d) (.str "looks") H Q := dgetR h (by kernel_rfl) q
theorem mp_said {v : V} (b : Option Bits) (hv : v = tvo b) (h : H d = some (.dK (mf w t l told many))) (q : S (upd H d (.dK (mf w t l b many)))) : DputOk v (.ref d) (.str "said") H S := dputR h (by show 5 < 1000; decide) (by subst hv; kernel_rfl) q
theorem mp_lis {l2 : Addr} (h : H d = some (.dK (mf w t l told many))) (q : S (upd H d (.dK (mf w t l2 told many)))) : DputOk (.ref l2) (.ref d) (.str "listening") H S := dputR h (by show 5 < 1000; decide) (by kernel_rfl) q
theorem mp_looks {m : Nat} (h : H d = some (.dK (mf w t l told many))) (q : S (upd H d (.dK (mf w t l told m)))) : DputOk (.int (m : Int)) (.ref d) (.str "looks") H S := dputR h (by show 5 < 1000; decide) (by kernel_rfl) q
theorem j_kind (h : H d = some (.dK (jf c r said n s))) (q : Q (.str (kindS c)) H) : DgetOk (.ref d) (.str "kind") H Q := dgetR h (by kernel_rfl) q
theorem j_rest (h : H d = some (.dK (jf c r said n s))) (q : Q (.ref r) H) : DgetOk (.ref d) (.str "rest") H Q := dgetR h (by kernel_rfl) q
theorem j_saids {b : Bits} (h : H d = some (.dK (jf c r (some b) n s))) (q : Q (.str (B b)) H) : DgetOk (.ref d) (.str "said") H Q := dgetR h (by kernel_rfl) q
theorem j_said (h : H d = some (.dK (jf c r said n s))) (q : Q (tvo said) H) : DgetOk (.ref d) (.str "said") H Q := dgetR h (by kernel_rfl) q
theorem j_found (h : H d = some (.dK (jf c r said n s))) (q : Q (.ref n) H) : DgetOk (.ref d) (.str "found") H Q := dgetR h (by kernel_rfl) q
theorem j_paper (h : H d = some (.dK (jf c r said n s))) (q : Q (.ref s) H) : DgetOk (.ref d) (.str "paper") H Q := dgetR h (by kernel_rfl) q
theorem jp_said {v : V} (b : Option Bits) (hv : v = tvo b) (h : H d = some (.dK (jf c r said n s))) (q : S (upd H d (.dK (jf c r b n s)))) : DputOk v (.ref d) (.str "said") H S := dputR h (by show 5 < 1000; decide) (by subst hv; kernel_rfl) q
end
/-- [x for x in .. if ..] over texts of signs -/
theorem lcFB {J : It} {j : Nat} {tt : TT} {te : TE} {vs : List Nat} {σ : St} {H : Hp} {Q : VK} {ls : List Bits} (p : Bits → Bool) {Y : Nat → V → Prop} (src : Src J ls.length Y H) (hY : ∀ i x, Y i x → ∃ l, ls[i]? = some l ∧ x = .str (B l)) (hz : ls.length ≤ 100000)
    (hw : ∀ x, wipe ((wipe σ vs).set j (some x)) vs = wipe σ vs)
    (hs : ∀ l H' (NF : Hp → Prop) (NE : VK), l ∈ ls → Ext H H' → (p l = false → NF H') → (p l = true → NE (.str (B l)) H') → tt ((wipe σ vs).set j (some (.str (B l)))) H' fun b H3 => if b = true then te ((wipe σ vs).set j (some (.str (B l)))) H3 NE else NF H3)
    (hd : ∀ q H', H q = none → Ext H H' → H' q = some (.lst (bvs (ls.filter p))) → Q (.ref q) H') : LcB J (gName j) tt te vs σ H Q := by
  refine lcF src (fun i acc => acc = bvs ((ls.take i).filter p)) (by simp [bvs]) (fun i acc h => by rw [h]; exact nsh_bvs _) hz hw (fun i x acc H' NF NE hi y ha e kF kE => ?_) fun q acc H' ha hq e hq2 _ => ?_
  · obtain ⟨l, hl, rfl⟩ := hY i x y
    have etk : ls.take (i + 1) = ls.take i ++ [l] := by
      rw [List.take_succ, hl]
      rfl
    refine hs l H' NF NE (List.mem_of_getElem? hl) e (fun hp => ?_) fun hp => ?_
    · refine kF H' (Ext.refl _) ?_
      rw [ha, etk, List.filter_append]
      simp [hp]
    · refine kE _ H' (Ext.refl _) ?_
      rw [ha, etk, List.filter_append, bvs_snoc]
      simp [hp]
  · rw [List.take_length] at ha
    rw [ha] at hq2
    exact hd q H' hq e hq2
theorem yb {ls : List Bits} {i : Nat} {x : V} (h : (bvs ls)[i]? = some x) : ∃ l, ls[i]? = some l ∧ x = .str (B l) := bvs_get h
theorem src_bits {K : PySem.W.Frag} {a : Addr} {ls : List Bits} {H : Hp} (h : SqL K H a (bvs ls)) : Src (Itl K a) ls.length (fun i x => (bvs ls)[i]? = some x) H := by
  have := src_lst h (nsh_bvs ls)
  rwa [bvs_len] at this
/-- one sign further -/
theorem one_more {b l : Bits} {c : Bool} (h : b <+: l) (hl : b.length < l.length) : l[b.length]? = some c ↔ b ++ [c] <+: l := by
  obtain ⟨t, rfl⟩ := h
  cases t with
  | nil => simp at hl
  | cons x t =>
    rw [List.prefix_append_right_inj]
    rw [List.getElem?_append_right (Nat.le_refl _)]
    simp
    exact ⟨fun e => e ▸ rfl, fun e => e.symm⟩
def deedM (M : WM) (wd : Str) (x : Bits) : WM × Str := if wd = "hang" then (if x ∈ M.keys then (M, "there") else (M.hang x, "")) else if x ∈ M.keys then (if wd = "off" then (M.off x, "") else (M.set x (decide (wd = "alarm")), "")) else (M, "not")
theorem w_pnil {σ : St} {H : Hp} {Q : List (V × V) → Hp → Prop} (k : Q [] H) : tPairs [] σ H Q := k
theorem w_pcons {tk tv : TE} {r : List (TE × TE)} {σ : St} {H : Hp} {Q : List (V × V) → Hp → Prop} (k : tk σ H fun x H1 => tv σ H1 fun y H2 => tPairs r σ H2 fun ps H3 => Q ((x, y) :: ps) H3) : tPairs ((tk, tv) :: r) σ H Q := k
theorem w_disp {trs : List (TE × TE)} {σ : St} {H : Hp} {Q : VK} (k : ∀ p H1, H p = none → Ext H H1 → H1 p = some (.dK []) → tPairs trs σ H1 fun ps H2 => H2 p = some (.dK []) ∧ ∃ kvs : List (Key × V), ps = kvs.map (fun kv => (kV kv.1, kv.2)) ∧ kvs.length ≤ 15 ∧ Q (.ref p) (upd H2 p (.dK (mergeK [] kvs)))) : tDisp trs σ H Q := fun p hp => k p _ hp (Ext.new hp) upd_same
end Lw
end

section
/-! steps in which tables of code objects may grow -/
namespace Lw
open PySem L2
def NT (H : Hp) (b : Addr) : Prop := ∃ o, H b = some o ∧ (∀ ps, o ≠ .tbl ps) ∧ ∀ a i m z, o = row a i m z → 0 ≤ i
theorem tabs_by {T : List (Addr × Str)} {H H' : Hp} (h : LamX.Tabs T H) (st : ∀ b o, H b = some o → ((∃ ps, o = .tbl ps) ∨ ∃ x, o = .ext x) → H' b = some o) : LamX.Tabs T H' := fun p hp => by
  obtain ⟨ps, h1, h2, h3⟩ := h p hp
  refine ⟨ps, st _ _ h1 (.inl ⟨_, rfl⟩), h2, fun pos cv hc => ?_⟩
  obtain ⟨c, e1, e2⟩ := h3 pos cv hc
  exact ⟨c, e1, st _ _ e2 (.inr ⟨_, rfl⟩)⟩
theorem nsh_tbl {ps} : ¬ RowSh (.tbl ps) := nsh_of fun a i m z e => by cases e
theorem tabs_ext {T : List (Addr × Str)} {H H' : Hp} (h : LamX.Tabs T H) (e : Ext H H') : LamX.Tabs T H' := tabs_by h fun b o hb ho => e.st b o hb (by
  rcases ho with ⟨ps, rfl⟩ | ⟨x, rfl⟩
  · exact nsh_tbl
  · exact nsh_ext)
structure StepN (T : List (Addr × Str)) (F F' : List Addr) (H H' : Hp) : Prop where
  st : ∀ b o, H b = some o → b ∉ F → ¬ RowSh o → (∀ ps, o ≠ .tbl ps) → H' b = some o
  rw_ : ∀ b a i m z, H b = some (row a i m z) → b ∉ F → 0 ≤ i → ∃ i' m' z', H' b = some (row a i' m' z') ∧ 0 ≤ i'
  nw : ∀ b, b ∈ F' → b ∈ F ∨ ¬ NT H b
  tb : LamX.Tabs T H → LamX.Tabs T H'
section
variable {T : List (Addr × Str)} {F F1 F2 F' : List Addr} {H H1 H2 H' : Hp} {K : PySem.W.Frag} {r : Addr}
theorem StepN.of (s : Step F F' H H') (ho : ∀ b ∈ F, ∃ o, H b = some o ∧ Ownd o) : StepN T F F' H H' where
  st := fun b o h n ns _ => s.st b o h n ns
  rw_ := s.rw_
  nw := fun b h => (s.nw b h).imp id fun h ⟨o, e, _⟩ => by rw [h] at e; cases e
  tb := fun h => tabs_by h fun b o hb hx => s.st b o hb (fun q => by
    obtain ⟨u, e, _, _, n1, n2⟩ := ho b q
    rw [hb] at e
    cases e
    rcases hx with ⟨ps, rfl⟩ | ⟨x, rfl⟩
    · exact n1 _ rfl
    · exact n2 _ rfl) (by
    rcases hx with ⟨ps, rfl⟩ | ⟨x, rfl⟩
    · exact nsh_tbl
    · exact nsh_ext)
theorem StepN.ofExt (e : Ext H H') : StepN T F F H H' := ⟨fun b o h _ n _ => e.st b o h n, fun b a i m z h _ hi => e.rw_ b a i m z h hi, fun b h => .inl h, fun h => tabs_ext h e⟩
theorem StepN.lam (e : LamX.ExtN H H') (t : LamX.Tabs T H') : StepN T F F H H' := ⟨fun b o h _ _ n => e b o h n, fun b a i m z h _ hi => ⟨i, m, z, e b _ h (fun ps q => by cases q), hi⟩, fun b h => .inl h, fun _ => t⟩
theorem NT.own {b : Addr} {o : HO} (h : H b = some o) (n : Ownd o) : NT H b := ⟨o, h, n.2.2.1, fun a i m z e => absurd ⟨a, i, m, z, e⟩ n.1⟩
theorem StepN.nt (s : StepN T F F1 H H1) {b : Addr} (n : b ∉ F) (h : NT H b) : NT H1 b := by
  obtain ⟨o, e, n1, n2⟩ := h
  by_cases q : RowSh o
  · obtain ⟨a, i, m, z, rfl⟩ := q
    obtain ⟨i', m', z', h1, hi⟩ := s.rw_ b a i m z e n (n2 _ _ _ _ rfl)
    exact ⟨_, h1, (fun ps q => by cases q), fun a2 i2 m2 z2 e2 => by cases e2; exact hi⟩
  · exact ⟨o, s.st b o e n q n1, n1, n2⟩
theorem StepN.not (s : StepN T F F1 H H1) {b : Addr} (n : b ∉ F) (h : NT H b) : b ∉ F1 := fun q => (s.nw b q).elim n fun z => z h
theorem StepN.trans (s : StepN T F F1 H H1) (t : StepN T F1 F2 H1 H2) : StepN T F F2 H H2 where
  st := fun b o h n ns nt => t.st b o (s.st b o h n ns nt) (s.not n ⟨o, h, nt, fun a i m z e => absurd ⟨a, i, m, z, e⟩ ns⟩) ns nt
  rw_ := fun b a i m z h n hi => by
    obtain ⟨i', m', z', h1, hi'⟩ := s.rw_ b a i m z h n hi
    exact t.rw_ b a i' m' z' h1 (s.not n ⟨_, h, (fun ps q => by cases q), fun a2 i2 m2 z2 e2 => by cases e2; exact hi⟩) hi'
  nw := fun b h => by
    rcases t.nw b h with z | z
    · exact s.nw b z
    · by_cases q : b ∈ F
      · exact .inl q
      · exact .inr fun h => z (s.nt q h)
  tb := fun h => t.tb (s.tb h)
theorem RowOk.stepN (s : StepN T F F' H H') (ho : ∀ b ∈ F, ∃ o, H b = some o ∧ Ownd o) (h : RowOk K H r) : RowOk K H' r := by
  obtain ⟨a, i, m, z, ns, h0, hi, hs⟩ := h
  have nr : r ∉ F := fun q => by
    obtain ⟨o, e, n, _⟩ := ho r q
    rw [h0] at e
    cases e
    exact n ⟨_, _, _, _, rfl⟩
  obtain ⟨i', m', z', h1, hi'⟩ := s.rw_ r a i m z h0 nr hi
  refine ⟨a, i', m', z', ns, h1, hi', ?_⟩
  rcases hs with ⟨o, hs⟩ | hs
  · have na : a ∉ F := fun q => by
      obtain ⟨u, e, _, n, _⟩ := ho a q
      rw [hs] at e
      cases e
      exact n _ _ rfl
    exact .inl ⟨o, s.st a _ hs na nsh_frz (fun ps q => by cases q)⟩
  · exact .inr hs
end
section
variable {T : List (Addr × Str)} {H H' : Hp} {l l1 l2 : List Own} {W W' A B A' B' : Own} {K : PySem.W.Frag} {r : Addr}
theorem Sts.stepN (s : Sts H (l1 ++ W :: l2)) (w : W'.S H') (t : StepN T W.F W'.F H H') : Sts H' (l1 ++ W' :: l2) := by
  obtain ⟨h1, h2⟩ := s
  obtain ⟨p1, p2, p3⟩ := List.pairwise_append.mp h2
  obtain ⟨q1, q2⟩ := List.pairwise_cons.mp p2
  have ap : ∀ V : Own, V ∈ l1 ∨ V ∈ l2 → (∀ x ∈ V.F, x ∉ W.F) ∧ V.S H := fun V hV => by
    rcases hV with hV | hV
    · exact ⟨fun x hx hw => p3 V hV W List.mem_cons_self x hx hw, h1 V (List.mem_append_left _ hV)⟩
    · exact ⟨fun x hx hw => q1 V hV x hw hx, h1 V (List.mem_append_right _ (List.mem_cons_of_mem _ hV))⟩
  have st : ∀ V : Own, V ∈ l1 ∨ V ∈ l2 → V.S H' ∧ ∀ x ∈ V.F, x ∉ W'.F := fun V hV => by
    obtain ⟨na, hS⟩ := ap V hV
    refine ⟨V.loc (fun b hb o ho => ?_) hS, fun x hx hw => ?_⟩
    · obtain ⟨o', e1, n, _, n2, _⟩ := V.al hS b hb
      rw [ho] at e1
      cases e1
      exact t.st b o ho (na b hb) n n2
    · obtain ⟨o, e1, n⟩ := V.al hS x hx
      exact t.not (na x hx) (NT.own e1 n) hw
  refine ⟨fun V hV => ?_, List.pairwise_append.mpr ⟨p1, List.pairwise_cons.mpr ⟨fun V hV x hx hy => (st V (.inr hV)).2 x hy hx, q2⟩, fun V hV U hU x hx hy => ?_⟩⟩
  · rcases List.mem_append.mp hV with hV | hV
    · exact (st V (.inl hV)).1
    · rcases List.mem_cons.mp hV with rfl | hV
      · exact w
      · exact (st V (.inr hV)).1
  · rcases List.mem_cons.mp hU with rfl | hU
    · exact (st V (.inl hV)).2 x hx hy
    · exact p3 V hV U (List.mem_cons_of_mem _ hU) x hx hy
theorem Sts.step2N (s : Sts H (l1 ++ A :: B :: l2)) (w : Sts H' [A', B']) (t : StepN T (A.F ++ B.F) (A'.F ++ B'.F) H H') : Sts H' (l1 ++ A' :: B' :: l2) := (s.join.stepN (W' := A'.two B') w t).split
theorem Sts.al (s : Sts H (l1 ++ W :: l2)) : ∀ b ∈ W.F, ∃ o, H b = some o ∧ Ownd o := W.al s.get
theorem Sts.al2 (s : Sts H (l1 ++ A :: B :: l2)) : ∀ b ∈ A.F ++ B.F, ∃ o, H b = some o ∧ Ownd o := (A.two B).al s.join.get
theorem Sts.tabs (s : Sts H (l1 ++ W :: l2)) (t : Step W.F W'.F H H') (h : LamX.Tabs T H) : LamX.Tabs T H' := (StepN.of (T := T) t s.al).tb h
theorem Sts.tabs2 (s : Sts H (l1 ++ A :: B :: l2)) (t : Step (A.F ++ B.F) (A'.F ++ B'.F) H H') (h : LamX.Tabs T H) : LamX.Tabs T H' := (StepN.of (T := T) t s.al2).tb h
/-- as a lambda is made -/
theorem Sts.lam (s : Sts H l) (e : LamX.ExtN H H') : Sts H' l := ⟨fun V hV => V.loc (fun b hb o ho => by
  obtain ⟨o', e1, _, _, n2, _⟩ := V.al (s.1 V hV) b hb
  rw [ho] at e1
  cases e1
  exact e b o ho n2) (s.1 V hV), s.2⟩
theorem RowOk.lam (e : LamX.ExtN H H') (h : RowOk K H r) : RowOk K H' r := by
  obtain ⟨a, i, m, z, ns, h0, hi, hs⟩ := h
  refine ⟨a, i, m, z, ns, e _ _ h0 (fun ps q => by cases q), hi, ?_⟩
  rcases hs with ⟨o, hs⟩ | hs
  · exact .inl ⟨o, e _ _ hs (fun ps q => by cases q)⟩
  · exact .inr hs
end
end Lw
namespace Lw
open PySem L2 PyProof.Rows
/-- a def that makes lambdas: its code object is told -/
structure FunC (K : PySem.W.Frag) (x qual : Str) (st : Stmt) (f : Addr) (fd : FuncData) (c : Addr) : Prop where
  ex : ∃ (oc : Value) (od : Option Addr) (kV doc pm : Value) (an : Option Addr) (ct : Value) (osl : Array (Option Value)),
    fd = PySem.W.fnOf x qual (defArgs st) (defBody st) (defScope st) .none kV doc pm an (.ref c) ct ∧ K.lookup f = some ⟨oc, od, .func fd, osl⟩ ∧ PySem.W.codeIn K (.ref c) qual = true
  kp : PySem.W.keepIn K (.ref f) = true
theorem FunC.okX {P : Program} {w : World} {K : PySem.W.Frag} {mg : Str → Option Value} {base : Heap} {x qual : Str} {st : Stmt} {f c : Addr} {fd : FuncData} {N ps : List Str} {k : Nat} {sp : Sp} (F : FunC K x qual st f fd c) (S : FnScope N ps (defScope st)) (len : ∀ vs H Q E, sp vs H Q E → vs.length = ps.length)
    (hbody : ∀ (A : Around) (outer : List Env) (s : Shared) (H : Hp) (vs : List V) (Q : VK) (E : XK), Room k (A.deeper (envOfC qual (defScope st) s.heap.objs.size f (.ref c))) → sp vs H Q E →
      ∃ t, PSs (cxOf (L2.CX P w) P w K mg base N qual (defScope st) f (.ref c) A outer s H E) (defBody st) t ∧ t { nx := fun _ H' => Q .non H', rt := Q } (L2.start N vs) H) : FnOk P w K mg base (L2.CX P w) (k + 1) f fd ps sp := by
  obtain ⟨oc, od, kV, doc, pm, an, ct, osl, rfl, lk, hcd⟩ := F.ex
  exact fn_of lk hcd S len fun A outer s H vs Q E hr hsp => hbody A outer s H vs Q E hr hsp
end Lw
end

section
/-! the word of an exception; counting in flat lists -/
namespace L2
open PySem PySem.Spec PyProof.Rows
theorem countP_vals {y : V} : ∀ {ys : List V} {us : List Value}, Vals ys us → ys.all flatV = true → us.countP (eqU y) = ys.countP fun z => eqV z y
  | _, _, .nil, _ => rfl
  | z :: zs, u :: us, .cons r t, f => by
    rw [List.all_cons, Bool.and_eq_true] at f
    rw [List.countP_cons, List.countP_cons, countP_vals t f.2, eqU_of r f.1]
section
variable {X : Cx}
def rCntF (K : PySem.W.Frag) : V → List V → Hp → VK → Prop := fun x xs H Q => ∃ (p : Addr) (ys : List V) (y : V), x = .ref p ∧ xs = [y] ∧ SqL K H p ys ∧ flatV y = true ∧ ys.all flatV = true ∧ Q (.int ((ys.countP fun z => eqV z y : Nat) : Int)) H
theorem mt_lcountF : MtR X "list.count" (rCntF X.K) := by
  intro pins s σ H x xs v us Q I rx rxs h
  obtain ⟨p, ys, y, rfl, rfl, hs, fy, fys, q⟩ := h
  cases rx
  obtain ⟨u, rfl, ru⟩ := rxs.one
  obtain ⟨its, rv, ⟨⟨cls, dd, data, sl⟩, n, ho, hc, hdn, hd⟩, hlen⟩ := I.list hs
  simp only at hc hd
  subst hc hd
  refine call_meets PySem.F.slot_list_count ⟨_, ho, rfl⟩ PySem.F.entry_list_count (PySem.F.args_list_count_2 _ _)
    (SeqAt.list_countAt p its.toArray n dd sl u (eqU y)) ⟨ho, fun u' hu' => mem_eqAt ru fy rv fys u' (by simpa using hu'), ?_⟩
  have ec : its.toArray.toList.countP (eqU y) = ys.countP fun z => eqV z y := countP_vals rv fys
  refine ⟨.int ((ys.countP fun z => eqV z y : Nat) : Int), H, I.tok _, ⟨s.toks, ?_⟩, q⟩
  rw [ec]
end
end L2
namespace Lw
open PySem L2
section
variable {X : Cx} {K : PySem.W.Frag}
theorem mtCount (h : X.K = K) : MtR X "list.count" (rCntF K) := h ▸ mt_lcountF
theorem mtIndex (h : X.K = K) : MtR X "list.index" (rIndex K) := h ▸ mt_index
theorem cIsE {a D : Addr} {oe : Obj} {pn : List (Addr × Obj)} (h : X.K = K) (C : L2.ExcC K D) (hz : Zc (.ref D) none oe) (hf : ∃ vs, oe.data = .fields vs) : CallR (X.suite a ((a, oe) :: pn)) (.builtin "isinstance") (rIsE K D a) := by
  subst h
  exact call_isE C hz hf
theorem pe_nev {e : Expr} : PE X e (fun _ _ _ => False) := ⟨fun _ _ _ _ _ _ h => h.elim⟩
theorem suite_by {b : List Stmt} {T : TS} (k : ∀ D σ H, σ.length = X.N.length → T D σ H → ∃ t, PSs X b t ∧ t D σ H) : PSs X b T := ⟨fun pins s σ H D I h => by
  obtain ⟨t, h1, h2⟩ := k D σ H I.len h
  exact h1.run pins s σ H D I h2⟩
theorem pss_guard {b : List Stmt} {G : Prop} {t : TS} (k : G → PSs X b t) : PSs X b (fun D σ H => G ∧ t D σ H) := ⟨fun pins s σ H D I h => (k h.1).run pins s σ H D I h.2⟩
end
theorem five {σ : St} (h : σ.length = 5) : ∃ a b c d e, σ = [a, b, c, d, e] := by
  match σ, h with
  | [a, b, c, d, e], _ => exact ⟨a, b, c, d, e, rfl⟩
theorem w_lcount {K : PySem.W.Frag} {p : Addr} {ys : List V} {y : V} {H : Hp} {Q : VK} (h : SqL K H p ys) (fy : flatV y = true) (fys : ys.all flatV = true) (k : Q (.int ((ys.countP fun z => eqV z y : Nat) : Int)) H) : rCntF K (.ref p) [y] H Q := ⟨p, ys, y, rfl, rfl, h, fy, fys, k⟩
theorem w_lindex {K : PySem.W.Frag} {p : Addr} {ys : List V} {y z : V} {j : Nat} {H : Hp} {Q : VK} (h : SqL K H p ys) (fy : flatV y = true) (fys : ys.all flatV = true) (hz : ys[j]? = some z) (hj : eqV z y = true) (hn : ∀ m z, m < j → ys[m]? = some z → eqV z y = false) (k : Q (.int (j : Int)) H) : rIndex K (.ref p) [y] H Q :=
  ⟨p, ys, y, j, z, rfl, rfl, h, fy, fys, hz, hj, hn, k⟩
end Lw
namespace Lw
open PySem L2
/-- the classes of refusals, as the top has made them -/
structure Kinds (K : PySem.W.Frag) (mg : Str → Option Value) where
  c_BusError : Addr
  c_BadWidth : Addr
  c_BadNumber : Addr
  c_BadKind : Addr
  c_BadBit : Addr
  c_There : Addr
  c_NotThere : Addr
  c_NoRound : Addr
  c_Over : Addr
  c_Busy : Addr
  c_BadLooks : Addr
  c_BadRoster : Addr
  c_TooMany : Addr
  c_BadPlan : Addr
  c_BadStep : Addr
  c_BadText : Addr
  m_BusError : mg "BusError" = some (.ref c_BusError)
  m_BadWidth : mg "BadWidth" = some (.ref c_BadWidth)
  m_BadNumber : mg "BadNumber" = some (.ref c_BadNumber)
  m_BadKind : mg "BadKind" = some (.ref c_BadKind)
  m_BadBit : mg "BadBit" = some (.ref c_BadBit)
  m_There : mg "There" = some (.ref c_There)
  m_NotThere : mg "NotThere" = some (.ref c_NotThere)
  m_NoRound : mg "NoRound" = some (.ref c_NoRound)
  m_Over : mg "Over" = some (.ref c_Over)
  m_Busy : mg "Busy" = some (.ref c_Busy)
  m_BadLooks : mg "BadLooks" = some (.ref c_BadLooks)
  m_BadRoster : mg "BadRoster" = some (.ref c_BadRoster)
  m_TooMany : mg "TooMany" = some (.ref c_TooMany)
  m_BadPlan : mg "BadPlan" = some (.ref c_BadPlan)
  m_BadStep : mg "BadStep" = some (.ref c_BadStep)
  m_BadText : mg "BadText" = some (.ref c_BadText)
  kk : ∀ (i j : Nat) (c d : Addr), [c_BadWidth, c_BadNumber, c_BadKind, c_BadBit, c_There, c_NotThere, c_NoRound, c_Over, c_Busy, c_BadLooks, c_BadRoster, c_TooMany, c_BadPlan, c_BadStep, c_BadText][i]? = some c → [c_BadWidth, c_BadNumber, c_BadKind, c_BadBit, c_There, c_NotThere, c_NoRound, c_Over, c_Busy, c_BadLooks, c_BadRoster, c_TooMany, c_BadPlan, c_BadStep, c_BadText][j]? = some d → PySem.W.kitOne K (.ref c) (.ref d) = some (decide (i = j))
  kv : ∀ c, c ∈ [c_BadWidth, c_BadNumber, c_BadKind, c_BadBit, c_There, c_NotThere, c_NoRound, c_Over, c_Busy, c_BadLooks, c_BadRoster, c_TooMany, c_BadPlan, c_BadStep, c_BadText] → PySem.W.kitOne K (.ref c) (.type "ValueError") = some true ∧ L2.ExcC K c ∧ PySem.W.exmOne K (.ref c) (.ref c_BusError) = some true
def Kinds.cs {K : PySem.W.Frag} {mg : Str → Option Value} (g : Kinds K mg) : List Addr := [g.c_BadWidth, g.c_BadNumber, g.c_BadKind, g.c_BadBit, g.c_There, g.c_NotThere, g.c_NoRound, g.c_Over, g.c_Busy, g.c_BadLooks, g.c_BadRoster, g.c_TooMany, g.c_BadPlan, g.c_BadStep, g.c_BadText]
def wordsL : List Str := ["width", "number", "kind", "bit", "there", "not", "round", "over", "busy", "looks", "roster", "many", "plan", "step", "text"]
theorem w_isE {K : PySem.W.Frag} {D a c : Addr} {b : Bool} {H : Hp} {Q : VK} (hk : PySem.W.kitOne K (.ref D) (.ref c) = some b) (k : Q (.bl b) H) : rIsE K D a [.ref a, .ref c] H Q := ⟨.ref c, .ref c, b, rfl, fun _ r => r, hk, k⟩
theorem w_isET {K : PySem.W.Frag} {D a : Addr} {t : String} {b : Bool} {H : Hp} {Q : VK} (hk : PySem.W.kitOne K (.ref D) (.type t) = some b) (k : Q (.bl b) H) : rIsE K D a [.ref a, .ty t] H Q := ⟨.ty t, .type t, b, rfl, fun _ r => r, hk, k⟩
def kbs (i : Nat) : List V := (List.range 15).map fun j => .bl (decide (i = j))
theorem kbs_flat (i : Nat) : (kbs i).all flatV = true := by simp [kbs, flatV]
theorem kbs_count {i : Nat} (h : i < 15) : (kbs i).countP (fun z => eqV z (.bl true)) = 1 := by
  have : ∀ i, i < 15 → (kbs i).countP (fun z => eqV z (.bl true)) = 1 := by decide +kernel
  exact this i h
theorem kbs_at {i : Nat} (h : i < 15) : (kbs i)[i]? = some (.bl true) := by
  unfold kbs
  rw [List.getElem?_map, List.getElem?_range h]
  simp
theorem kbs_no {i m : Nat} {z : V} (hm : m < i) (h : (kbs i)[m]? = some z) : eqV z (.bl true) = false := by
  unfold kbs at h
  rw [List.getElem?_map] at h
  cases e : (List.range 15)[m]? with
  | none => rw [e] at h; cases h
  | some j =>
    rw [e] at h
    have hj : j = m := by
      obtain ⟨h1, h2⟩ := List.getElem?_eq_some_iff.mp e
      simpa using h2.symm
    have hz : z = .bl (decide (i = j)) := (Option.some.inj h).symm
    have : ¬ i = j := by omega
    rw [hz, decide_eq_false this]
    rfl
/-- what becomes of a refusal: its word -/
def WordOk {K : PySem.W.Frag} {mg : Str → Option Value} (g : Kinds K mg) (cls : Value) (d : Option Addr) (H : Hp) (Q : VK) : Prop :=
  ∃ (i : Nat) (c : Addr) (x : Str), g.cs[i]? = some c ∧ wordsL[i]? = some x ∧ i ≠ 9 ∧ i ≠ 13 ∧ i ≠ 14 ∧ cls = .ref c ∧ d = none ∧ ∀ H1, Ext H H1 → Q (.str x) H1
def TWord {K : PySem.W.Frag} {mg : Str → Option Value} (g : Kinds K mg) : (XK → Hp → VK → Prop) → Hp → VK → Prop := fun tl H Q => tl (fun cls d H' => WordOk g cls d H' Q) H fun _ H' => Q (.str "") H'
end Lw
end

section
/-! walks of a pool: they end -/
namespace Lw
open PySem L2
theorem nodup_le {α : Type} [DecidableEq α] : ∀ (l m : List α), l.Nodup → (∀ x ∈ l, x ∈ m) → l.length ≤ m.length
  | [], _, _, _ => Nat.zero_le _
  | a :: l, m, h, hs => by
    obtain ⟨h1, h2⟩ := List.nodup_cons.mp h
    have hm : a ∈ m := hs a List.mem_cons_self
    have := nodup_le l (m.erase a) h2 fun x hx => (List.mem_erase_of_ne (fun e => h1 (by rw [← e]; exact hx))).mpr (hs x (List.mem_cons_of_mem _ hx))
    have e := List.length_erase_of_mem hm
    have hp : 0 < m.length := List.length_pos_of_mem hm
    rw [List.length_cons]
    omega
/-- the beginnings of these -/
def Beg (ls : List Bits) (b : Bits) : Prop := b = [] ∨ ∃ x ∈ ls, b <+: x
def begs (n : Nat) (ls : List Bits) : List Bits := [] :: ls.flatMap fun x => (List.range (n - 1)).map fun k => x.take (k + 1)
theorem begs_len (n : Nat) (ls : List Bits) : (begs n ls).length = 1 + ls.length * (n - 1) := by
  unfold begs
  rw [List.length_cons, List.length_flatMap]
  simp only [List.length_map, List.length_range]
  have : ∀ ls : List Bits, (ls.map fun _ => n - 1).sum = ls.length * (n - 1) := by
    intro ls
    induction ls with
    | nil => simp
    | cons x ls ih =>
      rw [List.map_cons, List.sum_cons, ih, List.length_cons, Nat.add_mul]
      omega
  rw [this]
  omega
theorem beg_mem {n : Nat} {ls : List Bits} {b : Bits} (h : Beg ls b) (hl : b.length < n) : b ∈ begs n ls := by
  unfold begs
  rcases h with rfl | ⟨x, hx, hp⟩
  · exact List.mem_cons_self
  · cases b with
    | nil => exact List.mem_cons_self
    | cons c b =>
      refine List.mem_cons_of_mem _ (List.mem_flatMap.mpr ⟨x, hx, List.mem_map.mpr ⟨b.length, List.mem_range.mpr ?_, ?_⟩⟩)
      · rw [List.length_cons] at hl
        omega
      · have := List.prefix_iff_eq_take.mp hp
        rw [List.length_cons] at this
        exact this.symm
/-- a walk on a wire of a pool -/
structure GInv (n : Nat) (ls : List Bits) (M : WM) (N : KM) : Prop where
  hw : M.width = n
  n12 : n ≤ 12
  l40 : ls.length ≤ 40
  hl : ∀ x ∈ ls, x.length = n
  ok : WOk M
  ki : KI n (Beg ls) N
  kp : KP M N
  kl : ∀ x ∈ M.keys, x ∈ ls
  ll : ∀ x ∈ M.lis, x ∈ ls
def KM.mu (N : KM) : Nat := 2 * (441 - N.seen.length) + N.rest.length
section
variable {n : Nat} {ls : List Bits} {M : WM} {N : KM}
theorem GInv.seen (h : GInv n ls M N) : N.seen.length ≤ 441 := by
  have h1 := nodup_le (N.seen.map (·.1)) (begs n ls) h.ki.sd fun b hb => by
    obtain ⟨e, he, rfl⟩ := List.mem_map.mp hb
    obtain ⟨a, b⟩ := h.ki.pe e he
    exact beg_mem b a
  rw [List.length_map, begs_len] at h1
  have h2 : ls.length * (n - 1) ≤ 40 * 11 := Nat.mul_le_mul h.l40 (by have := h.n12; omega)
  omega
theorem GInv.rest (h : GInv n ls M N) : N.rest.length ≤ 442 := by
  have := h.ki.rs
  have := h.seen
  omega
theorem GInv.things (h : GInv n ls M N) : M.things.length ≤ 40 := by
  have := nodup_le M.keys ls h.ok.nd h.kl
  unfold WM.keys at this
  rw [List.length_map] at this
  exact Nat.le_trans this h.l40
theorem GInv.names (h : GInv n ls M N) : N.names.length ≤ 41 := by
  have := nodup_le N.names ([] :: ls) (rise_nodup h.ki.nr) fun x hx => by
    obtain ⟨h1, h2⟩ := h.ki.pn x hx
    rcases h2 with rfl | ⟨y, hy, hp⟩
    · exact List.mem_cons_self
    · have e := List.IsPrefix.eq_of_length hp (by rw [h1, h.hl y hy])
      rw [e]
      exact List.mem_cons_of_mem _ hy
  rw [List.length_cons] at this
  have := h.l40
  omega
theorem GInv.sz (h : GInv n ls M N) (b : Nat) (hb : 442 ≤ b) : N.rest.length ≤ b ∧ N.names.length ≤ b ∧ N.seen.length ≤ b := ⟨Nat.le_trans h.rest hb, Nat.le_trans h.names (by omega), Nat.le_trans h.seen (by omega)⟩
theorem lis_sub {x : Bits} (h : x ∈ (kstep M N).1.lis) : x ∈ M.lis ∨ x ∈ M.keys := by
  cases hs : N.said with
  | none =>
    rw [kstep_none hs] at h
    unfold stepB WM.tell at h
    exact .inr ((begin_sub M N.kind).subset (List.mem_filter.mp h).1)
  | some b =>
    rw [kstep_some hs] at h
    unfold stepL at h
    simp only at h
    split at h
    · exact .inl h
    · exact .inl (List.mem_filter.mp h).1
theorem GInv.kstep (h : GInv n ls M N) (ho : N.over = false) : GInv n ls (kstep M N).1 (kstep M N).2.1 where
  hw := (kstep_width M N).1.trans h.hw
  n12 := h.n12
  l40 := h.l40
  hl := h.hl
  ok := kstep_ok h.ok h.kp ho
  ki := by
    cases hs : N.said with
    | none =>
      have hr : N.rest ≠ [] := fun e => by simp [KM.over, hs, e] at ho
      rw [kstep_none hs]
      exact h.ki.stepB h.hw hs hr
    | some b =>
      rw [kstep_some hs]
      refine h.ki.stepL h.hw hs fun c hc => ?_
      obtain ⟨l, hl, hp⟩ := lookZ_ex.mp hc
      exact .inr ⟨l, h.ll l hl, hp⟩
  kp := h.kp.step ho
  kl := fun x hx => h.kl x (by unfold WM.keys at hx ⊢; rw [(kstep_width M N).2] at hx; exact hx)
  ll := fun x hx => (lis_sub hx).elim (h.ll x) (h.kl x)
theorem GInv.mu (h : GInv n ls M N) (ho : N.over = false) : (Lw.kstep M N).2.1.mu < N.mu := by
  have h2 := (h.kstep ho).seen
  cases hs : N.said with
  | none =>
    have hr : N.rest ≠ [] := fun e => by simp [KM.over, hs, e] at ho
    rw [kstep_none hs] at h2 ⊢
    unfold stepB KM.mu at *
    rw [ended_rest.1, ended_rest.2.1]
    simp only
    have : 0 < N.rest.length := List.length_pos_iff.mpr hr
    rw [List.length_dropLast]
    omega
  | some b =>
    rw [kstep_some hs] at h2 ⊢
    unfold stepL at h2 ⊢
    simp only at h2 ⊢
    split at h2
    · rename_i c
      rw [if_pos c]
      unfold KM.mu
      simp only [List.length_append, List.length_cons, List.length_nil] at h2 ⊢
      omega
    · rename_i c
      rw [if_neg c]
      simp only at h2 ⊢
      unfold KM.mu
      rw [ended_rest.2.1] at h2
      rw [ended_rest.1, ended_rest.2.1]
      split
      · rename_i c2
        rw [if_pos c2] at h2
        simp only [List.length_append, List.length_cons, List.length_nil] at h2 ⊢
        omega
      · rename_i c2
        rw [if_neg c2] at h2
        simp only [List.length_append, List.length_cons, List.length_nil] at h2 ⊢
        omega
theorem GInv.mu_le (h : GInv n ls M N) : N.mu ≤ 1324 := by
  have := h.rest
  unfold KM.mu
  omega
theorem GInv.run (h : GInv n ls M N) : ∃ j M1 N1, KRun j M N M1 N1 ∧ j + N1.mu ≤ N.mu ∧ GInv n ls M1 N1 := by
  obtain ⟨m, hm⟩ : ∃ m, m = N.mu := ⟨_, rfl⟩
  induction m using Nat.strongRecOn generalizing M N with
  | _ m ih =>
    cases ho : N.over with
    | true => exact ⟨0, M, N, .last ho, by omega, h⟩
    | false =>
      have h1 := h.mu ho
      obtain ⟨j, M1, N1, hr, hj, hg⟩ := ih _ (by omega) (h.kstep ho) rfl
      exact ⟨j + 1, M1, N1, .more ho hr, by omega, hg⟩
theorem GInv.round {j : Nat} {M1 : WM} {N1 : KM} {r : Res} (h : GInv n ls M N) (ho : N.over = false) (t : KRound j M N M1 N1 r) : GInv n ls M1 N1 ∧ N1.mu < N.mu := by
  induction t with
  | last h2 => exact ⟨h.kstep ho, h.mu ho⟩
  | more h2 t ih =>
    obtain ⟨a, b⟩ := ih (h.kstep ho) (kstep_gap h.kp h2).2
    exact ⟨a, by have := h.mu ho; omega⟩
theorem GInv.deed {wd : Str} {x : Bits} (h : GInv n ls M N) (hx : x ∈ ls) : GInv n ls (deedM M wd x).1 N := by
  have hz := h.things
  unfold deedM
  split
  · split
    · exact h
    · rename_i hk
      refine ⟨h.hw, h.n12, h.l40, h.hl, h.ok.hang hk (by rw [h.hl x hx, h.hw]) (by omega), h.ki, ⟨h.kp.ls, h.kp.lr⟩, fun y hy => ?_, h.ll⟩
      change y ∈ List.map _ (M.things ++ [(x, false)]) at hy
      rw [List.map_append, List.mem_append] at hy
      rcases hy with hy | hy
      · exact h.kl y hy
      · simp at hy
        rw [hy]
        exact hx
  · split
    · rename_i hk
      split
      · refine ⟨h.hw, h.n12, h.l40, h.hl, h.ok.off, h.ki, ⟨h.kp.ls, h.kp.lr⟩, fun y hy => ?_, fun y hy => h.ll y (List.mem_filter.mp hy).1⟩
        change y ∈ (adrop M.things x).map (·.1) at hy
        rw [adrop_keys] at hy
        exact h.kl y (List.mem_filter.mp hy).1
      · refine ⟨h.hw, h.n12, h.l40, h.hl, h.ok.set hk, h.ki, ⟨h.kp.ls, h.kp.lr⟩, fun y hy => ?_, h.ll⟩
        change y ∈ (aput M.things x _).map (·.1) at hy
        rw [aput_keys hk] at hy
        exact h.kl y hy
    · exact h
end
/-- a new walk -/
theorem GInv.new {n : Nat} {ls : List Bits} {M : WM} (c : Bool) (hw : M.width = n) (n12 : n ≤ 12) (l40 : ls.length ≤ 40) (hl : ∀ x ∈ ls, x.length = n) (ok : WOk M) (kl : ∀ x ∈ M.keys, x ∈ ls) (ll : ∀ x ∈ M.lis, x ∈ ls) : GInv n ls M ⟨c, [[]], none, [], []⟩ where
  hw := hw
  n12 := n12
  l40 := l40
  hl := hl
  ok := ok
  ki := ⟨fun g hg => by rw [List.mem_singleton.mp hg]; exact ⟨Nat.zero_le _, .inl rfl⟩, fun b hb => (by cases hb), fun e he => absurd he (by simp), fun x hx => absurd hx (by simp), by simp [KM.pend], fun e he => absurd he (by simp), by simp, fun x hx => absurd hx (by simp), List.Pairwise.nil, by simp⟩
  kp := ⟨fun b hb => (by cases hb), fun g hg => by rw [List.mem_singleton.mp hg]; exact Nat.zero_le _⟩
  kl := kl
  ll := ll
/-! ### what a law carries along -/
structure LG (K : PySem.W.Frag) (TT : List (Addr × Str)) (z : Option (Addr × Obj × HO)) (r : Addr) (H : Hp) : Prop where
  row : RowOk K H r
  tab : LamX.Tabs TT H
  frz : ∀ a o u, z = some (a, o, u) → H a = some (.frz o u)
section
variable {K : PySem.W.Frag} {TT : List (Addr × Str)} {z : Option (Addr × Obj × HO)} {r : Addr} {H H' : Hp} {F F' : List Addr}
theorem LG.ext (g : LG K TT z r H) (e : Ext H H') : LG K TT z r H' := ⟨e.rowOk g.row, tabs_ext g.tab e, fun a o u h => e.st _ _ (g.frz a o u h) nsh_frz⟩
theorem LG.stepN (g : LG K TT z r H) (s : StepN TT F F' H H') (al : ∀ b ∈ F, ∃ o, H b = some o ∧ Ownd o) : LG K TT z r H' := ⟨RowOk.stepN s al g.row, s.tb g.tab, fun a o u h => s.st _ _ (g.frz a o u h) (fun q => by
  obtain ⟨v, e, _, n, _⟩ := al a q
  rw [g.frz a o u h] at e
  cases e
  exact n _ _ rfl) nsh_frz (fun ps q => by cases q)⟩
theorem LG.step (g : LG K TT z r H) (s : Step F F' H H') (al : ∀ b ∈ F, ∃ o, H b = some o ∧ Ownd o) : LG K TT z r H' := g.stepN (StepN.of s al) al
theorem LG.lam (g : LG K TT z r H) (e : LamX.ExtN H H') (t : LamX.Tabs TT H') : LG K TT z r H' := ⟨RowOk.lam e g.row, t, fun a o u h => e _ _ (g.frz a o u h) (fun ps q => by cases q)⟩
end
theorem Step.swap {A B A' B' : List Addr} {H H' : Hp} (z : Step (A ++ B) (A' ++ B') H H') : Step (B ++ A) (B' ++ A') H H' where
  st := fun b o h n ns => z.st b o h (fun q => n (by rw [List.mem_append] at q ⊢; exact q.symm)) ns
  rw_ := fun b a i m y h n hi => z.rw_ b a i m y h (fun q => n (by rw [List.mem_append] at q ⊢; exact q.symm)) hi
  th := z.th
  nw := fun b h => (z.nw b (by rw [List.mem_append] at h ⊢; exact h.symm)).imp (fun q => by rw [List.mem_append] at q ⊢; exact q.symm) id
theorem ps_lk {X : Cx} {st : Stmt} {t : TS} (h : PS X st t) : PS X st (fun D σ H => t D σ H ∨ tLock t D σ H) := ⟨fun pins s σ H D I hw => hw.elim (fun q => h.run pins s σ H D I q) fun q => (ps_lock h).run pins s σ H D I q⟩
/-- the script, plain or not: where it is plain it is locked -/
theorem lk_by {K : PySem.W.Frag} {TT : List (Addr × Str)} {t : TS} {D : Ends} {σ : St} {H : Hp} {r a : Addr} {ns : List Int} (hr : H r = some (row a 0 0 0)) (hs : SqL K H a (ns.map V.int)) (tab : LamX.Tabs TT H)
    (main : ∀ z H1 D', LG K TT z r H1 → (∀ σ' H', LG K TT z r H' → D'.nx σ' H') → t D' σ H1) (hD : ∀ σ' H', D.nx σ' H') : t D σ H ∨ tLock t D σ H := by
  have left : Scr K H a (ns.map V.int) → t D σ H := fun h => main none H D ⟨⟨a, 0, 0, 0, ns, hr, Int.le_refl 0, h⟩, tab, fun a o u q => (by cases q)⟩ fun σ' H' _ => hD σ' H'
  rcases hs with (h | ⟨o, h⟩) | h
  · have nar : r ≠ a := fun e => by
      rw [e, h] at hr
      exact nsh_ints ns ⟨_, _, _, _, Option.some.inj hr⟩
    refine .inr ⟨a, _, h, True.intro, fun od => main (some (a, od, .lst (ns.map V.int))) _ _ ⟨⟨a, 0, 0, 0, ns, by rw [upd_ne nar]; exact hr, Int.le_refl 0, .inl ⟨od, upd_same⟩⟩, tabs_by tab fun b o hb hx => ?_, fun a2 o u q => ?_⟩ fun σ' H' lg => ⟨lg.frz _ _ _ rfl, hD _ _⟩⟩
    · rw [upd_ne (fun e => by
        rw [e, h] at hb
        cases hb
        rcases hx with ⟨ps, q⟩ | ⟨x, q⟩ <;> cases q)]
      exact hb
    · cases q
      exact upd_same
  · exact .inl (left (.inl ⟨o, h⟩))
  · exact .inl (left (.inr fun H' => .inr h))
theorem w_make {C : Addr} {sp : Sp} {E : XK} {t : TA} {σ : St} {H : Hp} {Q : VK} (k : t σ H fun vs H1 => ∀ x dx, H1 x = none → H1 dx = none → dx ≠ x → sp (.ref x :: (vs ++ [])) (upd (upd H1 dx (.own x)) x (.ins C dx [])) (fun v H2 => v = .non ∧ Q (.ref x) H2) E) : tMake C sp [] E t σ H Q := k
theorem ext_make {H : Hp} {x dx C : Addr} (h1 : H x = none) (h2 : H dx = none) (h3 : dx ≠ x) : Ext H (upd (upd H dx (.own x)) x (.ins C dx [])) := (Ext.new h2).mut h1
theorem make_none {H : Hp} {x dx C b : Addr} (h : upd (upd H dx (.own x)) x (.ins C dx []) b = none) : H b = none := by
  by_cases e : b = x
  · rw [e, upd_same] at h
    cases h
  · rw [upd_ne e] at h
    by_cases e2 : b = dx
    · rw [e2, upd_same] at h
      cases h
    · rw [upd_ne e2] at h
      exact h
theorem ext_fresh {H H1 H' : Hp} {a : Addr} {F' : List Addr} (h : H a = none) (e : Ext H H1) (s : Step [a] F' H1 H') : Ext H H' where
  st := fun b o hb n => s.st b o (e.st b o hb n) (fun q => by
    rw [List.mem_singleton.mp q, h] at hb
    cases hb) n
  rw_ := fun b x i m z hb hi => by
    obtain ⟨i', m', z', h1, h2⟩ := e.rw_ b x i m z hb hi
    exact s.rw_ b x i' m' z' h1 (fun q => by
      rw [List.mem_singleton.mp q, h] at hb
      cases hb) h2
  th := fun b o hb => by
    obtain ⟨o1, h1⟩ := e.th b o hb
    exact s.th b o1 h1
theorem Sts.perm {H : Hp} {l l' : List Own} (h : l.Perm l') (s : Sts H l) : Sts H l' := ⟨fun o ho => s.1 o (h.mem_iff.mpr ho), (h.pairwise_iff (fun {a b} r x hx hy => r x hy hx)).mp s.2⟩
theorem Sts.five {H : Hp} {J K M W L : Own} (s : Sts H [J, K, M, W, L]) : Sts H [K, W, M, J, L] := (s.perm ((List.perm_append_comm (l₁ := [J]) (l₂ := [K, M, W])).append_right [L])).perm ((List.Perm.swap W M [J, L]).cons K)
theorem Sts.swap2 {H : Hp} {A B : Own} (s : Sts H [A, B]) : Sts H [B, A] := s.perm (List.Perm.swap B A [])
theorem w_par {i j : Nat} {ta : TA} {D : Ends} {σ : St} {H : Hp} (k : ta σ H fun vs H1 => ∃ v w, vs = [v, w] ∧ D.nx ((σ.set i (some v)).set j (some w)) H1) : tPar i j ta D σ H := k
theorem WAt.al3 {CW a dx t l : Addr} {M : WM} {H : Hp} (W : WAt CW a dx t l M H) : ∀ b ∈ [a, t, l], ∃ o, H b = some o ∧ Ownd o := (oWire CW a dx t l M).al W
theorem scut {ts : TS} {D : Ends} {σ : St} {H : Hp} (Mid : St → Hp → Prop) (h2 : ∀ σ1 H1, Mid σ1 H1 → D.nx σ1 H1) (h1 : (∀ σ1 H1, Mid σ1 H1 → D.nx σ1 H1) → ts D σ H) : ts D σ H := h1 h2
section
variable {K : PySem.W.Frag} {i : Nat} {dj r n s : Addr} {ps : List Addr} {N : KM} {σ : St} {H : Hp} {Q : Bool → Hp → Prop}
theorem w_isover (hσ : σ[i]? = some (some (.ref dj))) (J : JAt dj r n s ps N H) (k : ∀ H', Ext H H' → Q N.over H') :
    tAnd (tB (tIsN (tDGet (tVar i) (tC (V.str "said"))))) (tTest (tOp (rEqD K) (tDGet (tVar i) (tC (V.str "rest"))) (tLst tNil))) σ H Q := by
  refine w_and ?_
  refine w_B ?_
  refine w_isN ?_
  refine w_dget ?_
  refine w_var (v := .ref dj) hσ ?_
  refine w_c ?_
  refine j_said J.ob ?_
  cases hs : N.said with
  | some b =>
    refine w_isbl ?_
    refine w_iteF (by simp [tvo]) ?_
    have := k H (Ext.refl _)
    rwa [over_some hs] at this
  | none =>
    refine w_isbl ?_
    refine w_iteT rfl ?_
    refine w_test ?_
    refine w_op ?_
    refine w_dget ?_
    refine w_var (v := .ref dj) hσ ?_
    refine w_c ?_
    refine j_rest J.ob ?_
    refine w_lst ?_
    refine w_nil ?_
    refine w_alL (Nat.zero_le _) fun z H1 hz e1 hz1 => ?_
    have J1 : JAt dj r n s ps N H1 := (oJ dj r n s ps N).ext e1 J
    refine w_eqLs (ls := N.rest) (ms := []) (SqL.of J1.rs) (SqL.of hz1) ?_
    refine w_isbl ?_
    have := k H1 e1
    have eo : N.over = decide (N.rest = []) := by simp [KM.over, hs]
    rwa [eo] at this
theorem w_more (hσ : σ[i]? = some (some (.ref dj))) (J : JAt dj r n s ps N H) (k : ∀ H', Ext H H' → Q (!N.over) H') :
    tOr (tB (tNotN (tDGet (tVar i) (tC (V.str "said"))))) (tTest (tOp (rNeD K) (tDGet (tVar i) (tC (V.str "rest"))) (tLst tNil))) σ H Q := by
  refine w_or ?_
  refine w_B ?_
  refine w_notN ?_
  refine w_dget ?_
  refine w_var (v := .ref dj) hσ ?_
  refine w_c ?_
  refine j_said J.ob ?_
  cases hs : N.said with
  | some b =>
    refine w_isbl ?_
    refine w_iteT (by simp [tvo]) ?_
    have := k H (Ext.refl _)
    rwa [over_some hs] at this
  | none =>
    refine w_isbl ?_
    refine w_iteF rfl ?_
    refine w_test ?_
    refine w_op ?_
    refine w_dget ?_
    refine w_var (v := .ref dj) hσ ?_
    refine w_c ?_
    refine j_rest J.ob ?_
    refine w_lst ?_
    refine w_nil ?_
    refine w_alL (Nat.zero_le _) fun z H1 hz e1 hz1 => ?_
    have J1 : JAt dj r n s ps N H1 := (oJ dj r n s ps N).ext e1 J
    refine w_neLs (ls := N.rest) (ms := []) (SqL.of J1.rs) (SqL.of hz1) ?_
    refine w_isbl ?_
    have := k H1 e1
    have eo : N.over = decide (N.rest = []) := by simp [KM.over, hs]
    rwa [eo] at this
end
/-- what a step told stands while a wire and a walk go on -/
theorem dres_step {K : PySem.W.Frag} {F F' : List Addr} {H H' : Hp} {v : V} {e : Res} (s : Step F F' H H') (ho : ∀ b ∈ F, ∃ o, H b = some o ∧ Ownd o) (h3 : ∀ b ∈ F, ∀ xs, H b = some (.tup xs) → xs.length = 3) (h : Dq K H v (dres e)) : Dq K H' v (dres e) := by
  have key : ∀ {a : Addr} {xs : List V}, xs.length ≠ 3 → SqT K H a xs → SqT K H' a xs := fun {a xs} hl q => by
    rcases q with (q | ⟨o, q⟩) | q
    · exact .inl (.inl (s.st _ _ q (fun m => hl (h3 _ m _ q)) nsh_tup))
    · refine .inl (.inr ⟨o, s.st _ _ q (fun m => ?_) nsh_frz⟩)
      obtain ⟨u, e1, _, n, _⟩ := ho _ m
      rw [q] at e1
      cases e1
      exact n _ _ rfl
    · exact .inr q
  cases e with
  | none =>
    cases h
    exact .non
  | lost =>
    obtain ⟨a, xs, rfl, hq, hz, hs⟩ := h.tup_inv
    have hl := hs.len
    cases hs with
    | cons h1 h2 =>
      cases h2
      cases h1
      exact .tup (key (xs := [_]) (show (1 : Nat) ≠ 3 by decide) hq) hz (.cons (.str _) .nil)
  | found x =>
    obtain ⟨a, xs, rfl, hq, hz, hs⟩ := h.tup_inv
    cases hs with
    | cons h1 h2 =>
      cases h2 with
      | cons h2 h3 =>
        cases h3
        cases h1
        cases h2
        exact .tup (key (xs := [_, _]) (show (2 : Nat) ≠ 3 by decide) hq) hz (.cons (.str _) (.cons (.str _) .nil))
theorem tup3 {CW a dx t l CK k dk r n s : Addr} {ps : List Addr} {M : WM} {N : KM} {H : Hp} (W : WAt CW a dx t l M H) (g : KAt CK k dk a r n s ps N H) : ∀ b ∈ [a, t, l] ++ ([k, r, n, s] ++ ps), ∀ xs, H b = some (.tup xs) → xs.length = 3 := by
  intro b hb xs hx
  simp only [List.mem_append, List.mem_cons, List.not_mem_nil, or_false] at hb
  rcases hb with (rfl | rfl | rfl) | (rfl | rfl | rfl | rfl) | hb
  · rw [W.ob] at hx; cases hx
  · rw [W.th] at hx; cases hx
  · rw [W.li] at hx; cases hx
  · rw [g.ob] at hx; cases hx
  · rw [g.rs] at hx; cases hx
  · rw [g.nm] at hx; cases hx
  · rw [g.sn] at hx; cases hx
  · obtain ⟨e, he⟩ := g.mem hb
    rw [he] at hx
    cases hx
    rfl
theorem kround_det {j j' : Nat} {M M1 M1' : WM} {N N1 N1' : KM} {e e' : Res} (a : KRound j M N M1 N1 e) (b : KRound j' M N M1' N1' e') : M1' = M1 ∧ N1' = N1 ∧ e' = e := by
  induction a generalizing j' with
  | last h =>
    cases b with
    | last h2 => exact ⟨rfl, rfl, rfl⟩
    | more h2 _ => exact absurd h2 h
  | more h t ih =>
    cases b with
    | last h2 => exact absurd h h2
    | more h2 t2 => exact ih t2
end Lw
end

section
/-! what the head hands over -/
namespace Lw
open PySem L2 PyProof.Rows
theorem mg_none {K : PySem.W.Frag} {h : Heap} {mg : Str → Option Value} {n : Str} (X : K.In h) (G : h.Ns mainGlobals mg) (e : PySem.W.nsIn K mainGlobals n = some none) : mg n = none := PySem.W.mg_none_of X G e
theorem tabs_hu1 {P1 P2 : Addr} {a b : Str} (h : P1 ≠ P2) : ∀ p ∈ [(P1, a), (P2, b)], p.1 = P1 → p.2 = a := by
  intro p hp e
  simp only [List.mem_cons, List.not_mem_nil, or_false] at hp
  rcases hp with rfl | rfl
  · rfl
  · exact absurd e.symm h
theorem tabs_hu2 {P1 P2 : Addr} {a b : Str} (h : P1 ≠ P2) : ∀ p ∈ [(P1, a), (P2, b)], p.1 = P2 → p.2 = b := by
  intro p hp e
  simp only [List.mem_cons, List.not_mem_nil, or_false] at hp
  rcases hp with rfl | rfl
  · exact absurd e h
  · rfl
theorem tabs_hu {P1 : Addr} {a : Str} : ∀ p ∈ [(P1, a)], p.1 = P1 → p.2 = a := by
  intro p hp _
  rw [List.mem_singleton.mp hp]
theorem FunC.binds {K : PySem.W.Frag} {x qual : Str} {st : Stmt} {f c : Addr} {fd : FuncData} {ps : List Str} (F : FunC K x qual st f fd c)
    (h : ∀ (kV doc pm : Value) (an : Option Addr) (ct : Value) (us : List Value), us.length = ps.length → bindArgs (PySem.W.fnOf x qual (defArgs st) (defBody st) (defScope st) .none kV doc pm an (.ref c) ct) ⟨us, []⟩ = pure (ps.zip us)) : Binds K fd ps [] := by
  obtain ⟨oc, od, kV, doc, pm, an, ct, osl, rfl, lk, hcd⟩ := F.ex
  exact .all (h kV doc pm an ct)
theorem map_at {α β : Type} {l : List α} {f : α → β} {b : β} (h : l.map f = List.replicate 15 b) {c : α} (hc : c ∈ l) : f c = b := by
  have : f c ∈ l.map f := List.mem_map_of_mem hc
  rw [h] at this
  exact (List.mem_replicate.mp this).2
section
variable {K : PySem.W.Frag} {l : List Addr}
theorem kinds_kk (h : (l.map fun c => l.map fun d => PySem.W.kitOne K (.ref c) (.ref d)) = (List.range 15).map fun i => (List.range 15).map fun j => some (decide (i = j))) :
    ∀ (i j : Nat) (c d : Addr), l[i]? = some c → l[j]? = some d → PySem.W.kitOne K (.ref c) (.ref d) = some (decide (i = j)) := by
  intro i j c d hc hd
  have h1 := congrArg (fun m => m[i]?) h
  simp only [List.getElem?_map, hc, Option.map_some] at h1
  have hl : l.length = 15 := by
    have := congrArg List.length h
    simpa using this
  have hi : i < 15 := by
    have := (List.getElem?_eq_some_iff.mp hc).1
    omega
  have hj : j < 15 := by
    have := (List.getElem?_eq_some_iff.mp hd).1
    omega
  rw [List.getElem?_range hi] at h1
  simp only [Option.map_some] at h1
  have h2 := congrArg (fun m => m[j]?) (Option.some.inj h1)
  simp only [List.getElem?_map, hd, Option.map_some] at h2
  rw [List.getElem?_range hj] at h2
  simp only [Option.map_some] at h2
  exact Option.some.inj h2
theorem kinds_kv {cB : Addr} (kv : l.map (fun c => PySem.W.kitOne K (.ref c) (.type "ValueError")) = List.replicate 15 (some true))
    (kg : l.map (fun c => PySem.W.findIn K (.ref c) "__getattribute__") = List.replicate 15 (some (some (.builtin "BaseException.__getattribute__"))))
    (ka : l.map (fun c => PySem.W.findIn K (.ref c) "__getattr__") = List.replicate 15 (some none)) (ks : l.map (fun c => PySem.W.subIn K (.ref c) (.type "BaseException")) = List.replicate 15 (some true))
    (kh : l.map (fun c => PySem.W.hasDictIn K c) = List.replicate 15 true) (kl : l.map (fun c => PySem.W.findIn K (.ref c) "__class__") = List.replicate 15 (some (some (.builtin "object.__class__"))))
    (km : l.map (fun c => PySem.W.mroIn K c (.type "object")) = List.replicate 15 (some true)) (kb : l.map (fun c => PySem.W.exmOne K (.ref c) (.ref cB)) = List.replicate 15 (some true))
    (kn : PySem.W.specialIn K (.builtin "object.__class__") "__get__" = some (some (.builtin "getset_descriptor.__get__"))) (kt : PySem.W.takesIn K (.builtin "object.__class__") = some true) :
    ∀ c, c ∈ l → PySem.W.kitOne K (.ref c) (.type "ValueError") = some true ∧ L2.ExcC K c ∧ PySem.W.exmOne K (.ref c) (.ref cB) = some true := fun c hc =>
  ⟨map_at kv hc, ⟨map_at kg hc, map_at ka hc, map_at ks hc, map_at kh hc, map_at kl hc, kn, kt, map_at km hc⟩, map_at kb hc⟩
end
end Lw
end

section
/-! the first round of a new walk tells the least of its kind -/
namespace Lw
open PySem L2
/-- x is the least of these -/
def Least (rs : List Bits) (x : Bits) : Prop := x ∈ rs ∧ ∀ y ∈ rs, y = x ∨ blt x y = true
/-- behind a beginning of the least, the next sign told is the least's -/
theorem least_next {w : Nat} {rs : List Bits} {x b : Bits} (h : Least rs x) (hl : ∀ y ∈ rs, y.length = w) (hb : b <+: x) (hw : b.length < w) :
    x[b.length]? = some (!lookZ (rs.filter fun l => decide (b <+: l)) b false) := by
  have hx := h.1
  have hlx := hl x hx
  obtain ⟨c, hc⟩ : ∃ c, x[b.length]? = some c := ⟨x[b.length], List.getElem?_eq_getElem (by omega)⟩
  have hcp := (one_more hb (by omega)).mp hc
  cases c with
  | false =>
    have : lookZ (rs.filter fun l => decide (b <+: l)) b false = true := lookZ_ex.mpr ⟨x, List.mem_filter.mpr ⟨hx, decide_eq_true hb⟩, hcp⟩
    rw [hc, this]
    rfl
  | true =>
    have : lookZ (rs.filter fun l => decide (b <+: l)) b false = false := by
      cases e : lookZ (rs.filter fun l => decide (b <+: l)) b false with
      | false => rfl
      | true =>
        obtain ⟨y, hy, hp⟩ := lookZ_ex.mp e
        have hy := (List.mem_filter.mp hy).1
        have hL : Lft y x := by
          obtain ⟨s, hs⟩ := hp
          obtain ⟨t, ht⟩ := hcp
          exact ⟨b, s, t, by rw [← hs]; simp, by rw [← ht]; simp⟩
        rcases h.2 y hy with rfl | h2
        · exact absurd rfl hL.ne
        · have := hL.blt
          have h3 : blt x y = false := by
            obtain ⟨p, s, t, e1, e2⟩ := hL
            rw [e1, e2, blt_pre]
            rfl
          rw [h3] at h2
          cases h2
    rw [hc, this]
    rfl
/-- a round on its way to the least -/
theorem least_round {w : Nat} {rs : List Bits} {x : Bits} (hL : Least rs x) (hl : ∀ y ∈ rs, y.length = w) : ∀ (k : Nat) (M : WM) (N : KM) (b : Bits), w - b.length = k → b.length < w → b <+: x → M.width = w → M.told = some b → M.lis = rs.filter (fun l => decide (b <+: l)) → N.said = some b →
    ∃ M1 N1, KRound (w - b.length) M N M1 N1 (.found x) ∧ M1.things = M.things ∧ M1.width = w ∧ M1.many = M.many + (w - b.length) := by
  intro k
  induction k with
  | zero => intro M N b h1 h2; omega
  | succ k ih =>
    intro M N b hk hb hp hw ht hlis hs
    have hn := least_next hL hl hp hb
    have hlx := hl x hL.1
    have hp2 : b ++ [!lookZ M.lis b false] <+: x := by
      rw [hlis]
      exact (one_more hp (by omega)).mp hn
    have hne : ¬ (!lookZ M.lis b false && !lookZ M.lis b true) = true := by
      intro h
      rw [Bool.and_eq_true] at h
      cases e : lookZ M.lis b false with
      | true => rw [e] at h; exact absurd h.1 (by decide)
      | false =>
        rw [e] at hp2
        have : lookZ M.lis b true = true := lookZ_ex.mpr ⟨x, by rw [hlis]; exact List.mem_filter.mpr ⟨hL.1, decide_eq_true hp⟩, hp2⟩
        rw [this] at h
        exact absurd h.2 (by decide)
    have hst := kstep_some (M := M) hs
    generalize hc : (!lookZ M.lis b false) = c at hp2
    have e1 : (kstep M N).1 = M.look.say b c := by
      rw [hst]
      unfold stepL
      simp only
      rw [if_neg hne, hc]
    have hlen : (b ++ [c]).length = b.length + 1 := by simp
    obtain ⟨N2, e2⟩ : ∃ N2 : KM, ((kstep M N).2.1, (kstep M N).2.2) = KM.ended N2 w (b ++ [c]) := by
      refine ⟨if (lookZ M.lis b false && lookZ M.lis b true) = true then { N with seen := N.seen ++ [(b, lookZ M.lis b false, lookZ M.lis b true)], rest := N.rest ++ [b ++ [true]] } else { N with seen := N.seen ++ [(b, lookZ M.lis b false, lookZ M.lis b true)] }, ?_⟩
      rw [hst]
      unfold stepL
      simp only
      rw [if_neg hne, hc, hw]
    have e21 : (kstep M N).2.1 = (KM.ended N2 w (b ++ [c])).1 := by rw [← e2]
    have e22 : (kstep M N).2.2 = (KM.ended N2 w (b ++ [c])).2 := by rw [← e2]
    by_cases hb2 : (b ++ [c]).length < w
    · have en : KM.ended N2 w (b ++ [c]) = ({ N2 with said := some (b ++ [c]) }, .none) := by unfold KM.ended; rw [if_pos hb2]
      obtain ⟨M1, N1, r1, r2, r3, r4⟩ := ih (kstep M N).1 (kstep M N).2.1 (b ++ [c]) (by omega) hb2 hp2 (by rw [e1]; exact hw) (by rw [e1]; rfl) (by
        rw [e1]
        show M.lis.filter _ = _
        rw [hlis, List.filter_filter]
        apply List.filter_congr
        intro l _
        rw [Bool.eq_iff_iff]
        simp only [Bool.and_eq_true, decide_eq_true_eq]
        exact ⟨fun h => h.1, fun h => ⟨h, snoc_pre h⟩⟩) (by rw [e21, en])
      refine ⟨M1, N1, ?_, ?_, r3, ?_⟩
      · have : w - b.length = (w - (b ++ [c]).length) + 1 := by omega
        rw [this]
        exact .more (by rw [e22, en]) r1
      · rw [r2, e1]
        rfl
      · rw [r4, e1]
        show M.many + 1 + _ = _
        omega
    · have en : KM.ended N2 w (b ++ [c]) = ({ N2 with said := none, names := N2.names ++ [b ++ [c]] }, .found (b ++ [c])) := by unfold KM.ended; rw [if_neg hb2]
      have ex : b ++ [c] = x := List.IsPrefix.eq_of_length hp2 (by omega)
      have hr : (kstep M N).2.2 = .found x := by rw [e22, en, ex]
      have := KRound.last (M := M) (N := N) (by rw [hr]; intro h; cases h)
      rw [hr] at this
      refine ⟨(kstep M N).1, (kstep M N).2.1, ?_, by rw [e1]; rfl, by rw [e1]; exact hw, by rw [e1]; show M.many + 1 = _; omega⟩
      have h1 : w - b.length = 1 := by omega
      rw [h1]
      exact this
/-- the first round of a new walk -/
theorem first_round {M : WM} (ok : WOk M) (c : Bool) (x : Bits) (hL : Least ((M.things.filter fun p => c || p.2).map (·.1)) x) :
    ∃ j M1 N1, KRound j M ⟨c, [[]], none, [], []⟩ M1 N1 (.found x) ∧ j ≤ 13 ∧ M1.things = M.things ∧ M1.width = M.width ∧ M1.many = M.many + M.width := by
  have hl : ∀ y ∈ (M.things.filter fun p => c || p.2).map (·.1), y.length = M.width := fun y hy => ok.len y ((begin_sub M c).subset hy)
  have hw1 := ok.w1
  have hw2 := ok.w2
  have e : kstep M ⟨c, [[]], none, [], []⟩ = (M.tell c [], ⟨c, [], some [], [], []⟩, .none) := by
    rw [kstep_none rfl]
    show (M.tell c [], (if (([] : Bits).length) < M.width then ((⟨c, [], some [], [], []⟩ : KM), Res.none) else ((⟨c, [], none, [[]], []⟩ : KM), Res.found []))) = _
    rw [if_pos (by show 0 < M.width; omega)]
  obtain ⟨M1, N1, r1, r2, r3, r4⟩ := least_round hL hl M.width (M.tell c []) ⟨c, [], some [], [], []⟩ [] rfl (by show 0 < _; omega) List.nil_prefix rfl rfl rfl rfl
  refine ⟨M.width + 1, M1, N1, ?_, by omega, r2, r3, by rw [r4]; rfl⟩
  refine .more (by rw [e]) ?_
  rw [e]
  exact r1
theorem first_lost {M : WM} (ok : WOk M) (c : Bool) (h : (M.things.filter fun p => c || p.2).map (·.1) = []) :
    ∃ j M1 N1, KRound j M ⟨c, [[]], none, [], []⟩ M1 N1 .lost ∧ j ≤ 13 ∧ M1.things = M.things ∧ M1.width = M.width ∧ M1.many = M.many + 1 := by
  have hw1 := ok.w1
  have e : kstep M ⟨c, [[]], none, [], []⟩ = (M.tell c [], ⟨c, [], some [], [], []⟩, .none) := by
    rw [kstep_none rfl]
    show (M.tell c [], (if (([] : Bits).length) < M.width then ((⟨c, [], some [], [], []⟩ : KM), Res.none) else ((⟨c, [], none, [[]], []⟩ : KM), Res.found []))) = _
    rw [if_pos (by show 0 < M.width; omega)]
  have el : (M.tell c []).lis = [] := by
    unfold WM.tell
    simp only
    rw [h]
    rfl
  have e2 : kstep (M.tell c []) ⟨c, [], some [], [], []⟩ = ((M.tell c []).look, ⟨c, [], none, [], [([], false, false)]⟩, .lost) := by
    rw [kstep_some rfl]
    unfold stepL
    simp only
    rw [el]
    rfl
  refine ⟨2, (M.tell c []).look, ⟨c, [], none, [], [([], false, false)]⟩, ?_, by decide, rfl, rfl, rfl⟩
  refine .more (by rw [e]) ?_
  rw [e]
  have := KRound.last (M := M.tell c []) (N := ⟨c, [], some [], [], []⟩) (by rw [e2]; intro h; cases h)
  rwa [e2] at this
/-! a desk -/
def dfl (a k : Addr) : List (Str × V) := [("bus", .ref a), ("tour", .ref k)]
structure ClD (K : PySem.W.Frag) (CD : Addr) : Prop where
  cl : Cls K CD
  n_bus : NoAttr K CD "bus"
  n_tour : NoAttr K CD "tour"
section
variable {K : PySem.W.Frag} {CD e de a k : Addr} {H : Hp} {Q : VK}
theorem h_bus (T : ClD K CD) (h : H e = some (.ins CD de (dfl a k))) (q : Q (.ref a) H) : FldOk K "bus" (.ref e) H Q := ⟨e, CD, de, _, _, rfl, h, T.cl, T.n_bus, by kernel_rfl, q⟩
theorem h_tour (T : ClD K CD) (h : H e = some (.ins CD de (dfl a k))) (q : Q (.ref k) H) : FldOk K "tour" (.ref e) H Q := ⟨e, CD, de, _, _, rfl, h, T.cl, T.n_tour, by kernel_rfl, q⟩
end
/-- new places are forgotten -/
theorem Step.forget {F G F' G' : List Addr} {H H3 H4 : Hp} (e : Ext H H3) (fr : ∀ b ∈ G, H b = none) (m : Step (F ++ G) (F' ++ G') H3 H4) : Step F F' H H4 where
  st := fun b o h n ns => m.st b o (e.st b o h ns) (fun q => by
    rcases List.mem_append.mp q with q | q
    · exact n q
    · rw [fr b q] at h
      cases h) ns
  rw_ := fun b x i y z h n hi => by
    obtain ⟨i', y', z', h1, h2⟩ := e.rw_ b x i y z h hi
    exact m.rw_ b x i' y' z' h1 (fun q => by
      rcases List.mem_append.mp q with q | q
      · exact n q
      · rw [fr b q] at h
        cases h) h2
  th := fun b o h => by
    obtain ⟨o1, h1⟩ := e.th b o h
    exact m.th b o1 h1
  nw := fun b h => by
    rcases m.nw b (List.mem_append_left _ h) with q | q
    · rcases List.mem_append.mp q with q | q
      · exact .inl q
      · exact .inr (fr b q)
    · exact .inr (e.free q)
theorem least_ex : ∀ (rs : List Bits), rs ≠ [] → ∃ x, Least rs x
  | [], h => absurd rfl h
  | a :: l, _ => by
    by_cases hl : l = []
    · exact ⟨a, by rw [hl]; exact ⟨List.mem_cons_self, fun y hy => .inl (List.mem_singleton.mp hy)⟩⟩
    · obtain ⟨x, hx, hy⟩ := least_ex l hl
      by_cases h : blt a x = true
      · refine ⟨a, List.mem_cons_self, fun y hy2 => ?_⟩
        rcases List.mem_cons.mp hy2 with rfl | hy2
        · exact .inl rfl
        · rcases hy y hy2 with rfl | h2
          · exact .inr h
          · exact .inr (blt_trans h h2)
      · refine ⟨x, List.mem_cons_of_mem _ hx, fun y hy2 => ?_⟩
        rcases List.mem_cons.mp hy2 with rfl | hy2
        · rcases blt_tri x y with q | q | q
          · exact .inr q
          · exact .inl q.symm
          · exact absurd q h
        · exact hy y hy2
theorem rise_least {x : Bits} {l rs : List Bits} (h : Rise (x :: l)) (p : (x :: l).Perm rs) : Least rs x := by
  refine ⟨p.subset List.mem_cons_self, fun y hy => ?_⟩
  rcases List.mem_cons.mp (p.symm.subset hy) with rfl | hy
  · exact .inl rfl
  · exact .inr ((List.pairwise_cons.mp h).1 y hy)
/-! ### between two rounds only what hangs, the width and the count matter -/
def WM.bare (M : WM) : WM := { M with told := none, lis := [] }
theorem kstep_bare {M : WM} {N : KM} (h : N.said = none) : kstep M.bare N = kstep M N := by
  rw [kstep_none h, kstep_none h]
  rfl
theorem kround_bare {j : Nat} {M M2 : WM} {N N2 : KM} {z : Res} (h : N.said = none) : KRound j M.bare N M2 N2 z ↔ KRound j M N M2 N2 z := by
  have e := kstep_bare (M := M) h
  constructor
  · intro r
    cases r with
    | last q =>
      have := KRound.last (M := M) (N := N) (by rw [← e]; exact q)
      rwa [← e] at this
    | more q t => exact .more (by rw [← e]; exact q) (by rw [← e]; exact t)
  · intro r
    cases r with
    | last q =>
      have := KRound.last (M := M.bare) (N := N) (by rw [e]; exact q)
      rwa [e] at this
    | more q t => exact .more (by rw [e]; exact q) (by rw [e]; exact t)
theorem bare_eq {M Mm : WM} (h1 : Mm.things = M.things) (h2 : Mm.width = M.width) (h3 : Mm.many = M.many) : Mm.bare = M.bare := by
  unfold WM.bare
  rw [h1, h2, h3]
theorem WOk.bare {M : WM} (h : WOk M) : WOk M.bare := ⟨h.w1, h.w2, h.nd, h.len, h.sz, List.Pairwise.nil, fun x hx => absurd hx (by simp [WM.bare]), Nat.zero_le _, fun b hb => (by cases hb), fun _ => rfl⟩
theorem ended_done {N : KM} {w : Nat} {b : Bits} (h : (N.ended w b).2 ≠ .none) : (N.ended w b).1.said = none := by
  unfold KM.ended at h ⊢
  by_cases c : b.length < w
  · rw [if_pos c] at h
    exact absurd rfl h
  · rw [if_neg c]
theorem kstep_done {M : WM} {N : KM} (h : (kstep M N).2.2 ≠ .none) : (kstep M N).2.1.said = none := by
  cases hs : N.said with
  | none =>
    rw [kstep_none hs] at h ⊢
    exact ended_done h
  | some b =>
    rw [kstep_some hs] at h ⊢
    unfold stepL at h ⊢
    simp only at h ⊢
    split
    · rfl
    · rename_i c
      rw [if_neg c] at h
      exact ended_done h
theorem kround_done {j : Nat} {M M2 : WM} {N N2 : KM} {z : Res} (t : KRound j M N M2 N2 z) : N2.said = none := by
  induction t with
  | last h => exact kstep_done h
  | more _ _ ih => exact ih
/-- a tour between two rounds -/
structure TInv (n : Nat) (ls : List Bits) (M : WM) (N : KM) : Prop where
  g : GInv n ls M.bare N
  s : N.said = none
theorem TInv.round {n j : Nat} {ls : List Bits} {M M2 : WM} {N N2 : KM} {z : Res} (h : TInv n ls M N) (ho : N.rest ≠ []) (t : KRound j M N M2 N2 z) : TInv n ls M2 N2 ∧ M2.things = M.things ∧ M2.width = M.width := by
  have hov : N.over = false := by simp [KM.over, h.s, ho]
  have g2 := (h.g.round hov ((kround_bare h.s).mpr t)).1
  obtain ⟨_, _, _, e1, e2, e3⟩ := kround_sz t
  refine ⟨⟨⟨g2.hw, g2.n12, g2.l40, g2.hl, g2.ok.bare, g2.ki, ⟨fun b hb => ?_, g2.kp.lr⟩, g2.kl, fun x hx => absurd hx (by simp [WM.bare])⟩, ?_⟩, e2, e1⟩
  · rw [kround_done t] at hb
    cases hb
  · exact kround_done t
theorem TInv.other {n : Nat} {ls : List Bits} {M M' : WM} {N : KM} (h : TInv n ls M N) (hw : M'.width = n) (ok : WOk M') (kl : ∀ x ∈ M'.keys, x ∈ ls) : TInv n ls M' N :=
  ⟨⟨hw, h.g.n12, h.g.l40, h.g.hl, ok.bare, h.g.ki, ⟨fun b hb => (by rw [h.s] at hb; cases hb), fun y hy => by
    have := h.g.kp.lr y hy
    have e : M.bare.width = n := h.g.hw
    rw [e] at this
    show y.length ≤ M'.width
    rw [hw]
    exact this⟩, kl, fun x hx => absurd hx (by simp [WM.bare])⟩, h.s⟩
theorem TInv.sz {n : Nat} {ls : List Bits} {M : WM} {N : KM} (h : TInv n ls M N) : N.rest.length ≤ 8900 ∧ N.names.length ≤ 8900 ∧ N.seen.length ≤ 8900 := h.g.sz 8900 (by decide)
theorem TInv.lr {n : Nat} {ls : List Bits} {M : WM} {N : KM} (h : TInv n ls M N) : ∀ g ∈ N.rest, g.length ≤ M.width := h.g.kp.lr
theorem aput_kl {ls : List Bits} {M M' : WM} {x : Bits} {c : Bool} (kl : ∀ y ∈ M.keys, y ∈ ls) (hx : x ∈ M.keys) (e : M'.things = aput M.things x c) : ∀ y ∈ M'.keys, y ∈ ls := fun y hy => by
  unfold WM.keys at hy
  rw [e, aput_keys hx] at hy
  exact kl y hy
theorem least_one {rs : List Bits} {x y : Bits} (hx : Least rs x) (hy : Least rs y) : x = y := by
  rcases hx.2 y hy.1 with h | h
  · exact h.symm
  · rcases hy.2 x hx.1 with h2 | h2
    · exact h2
    · rw [blt_asymm h] at h2
      cases h2
theorem rise_perm : ∀ {a b : List Bits}, Rise a → Rise b → a.Perm b → a = b
  | [], b, _, _, h => (List.perm_nil.mp h.symm).symm
  | x :: a, [], _, _, h => absurd (List.perm_nil.mp h) (by simp)
  | x :: a, y :: b, ha, hb, h => by
    have e : x = y := least_one (rise_least ha h) (rise_least hb (List.Perm.refl _))
    subst e
    rw [rise_perm (List.pairwise_cons.mp ha).2 (List.pairwise_cons.mp hb).2 (List.Perm.cons_inv h)]
def oDesk (CD e de a k : Addr) : Own where
  S := fun H => H e = some (.ins CD de (dfl a k))
  F := [e]
  loc := fun h s => h e List.mem_cons_self _ s
  al := fun s b hb => by
    rw [List.mem_singleton.mp hb]
    exact ⟨_, s, own_ins⟩
theorem Sts.six {H : Hp} {J D K M W L : Own} (s : Sts H [J, D, K, M, W, L]) : Sts H [K, W, M, J, D, L] := (s.perm ((List.perm_append_comm (l₁ := [J, D]) (l₂ := [K, M, W])).append_right [L])).perm ((List.Perm.swap W M [J, D, L]).cons K)
theorem WOk.deed {M : WM} {wd : Str} {x : Bits} (h : WOk M) (hx : x.length = M.width) (hz : M.things.length < 60) : WOk (deedM M wd x).1 ∧ (deedM M wd x).1.width = M.width ∧ (deedM M wd x).1.many = M.many := by
  unfold deedM
  split
  · split
    · exact ⟨h, rfl, rfl⟩
    · rename_i hk
      exact ⟨h.hang hk hx hz, rfl, rfl⟩
  · split
    · rename_i hk
      split
      · exact ⟨h.off, rfl, rfl⟩
      · exact ⟨h.set hk, rfl, rfl⟩
    · exact ⟨h, rfl, rfl⟩
theorem deed_things {M Mm : WM} {wd : Str} {x : Bits} (h : Mm.things = M.things) : (deedM Mm wd x).1.things = (deedM M wd x).1.things := by
  unfold deedM WM.keys
  rw [h]
  split
  · split
    · exact h
    · show Mm.things ++ _ = M.things ++ _
      rw [h]
  · split
    · split
      · show adrop Mm.things x = adrop M.things x
        rw [h]
      · show aput Mm.things x _ = aput M.things x _
        rw [h]
    · exact h
theorem deed_kl {M : WM} {wd : Str} {x : Bits} {ls : List Bits} (kl : ∀ y ∈ M.keys, y ∈ ls) (hx : x ∈ ls) : ∀ y ∈ (deedM M wd x).1.keys, y ∈ ls := by
  unfold deedM
  split
  · split
    · exact kl
    · intro y hy
      change y ∈ List.map _ (M.things ++ [(x, false)]) at hy
      rw [List.map_append, List.mem_append] at hy
      rcases hy with hy | hy
      · exact kl y hy
      · simp at hy
        rw [hy]
        exact hx
  · split
    · rename_i hk
      split
      · intro y hy
        change y ∈ (adrop M.things x).map (·.1) at hy
        rw [adrop_keys] at hy
        exact kl y (List.mem_filter.mp hy).1
      · intro y hy
        change y ∈ (aput M.things x _).map (·.1) at hy
        rw [aput_keys hk] at hy
        exact kl y hy
    · exact kl
theorem WOk.put {M : WM} {x : Bits} {m : Nat} (h : WOk M) (hx : x ∈ M.keys) : WOk { M with things := aput M.things x false, many := m } := by
  have := h.set (c := false) hx
  exact ⟨this.w1, this.w2, this.nd, this.len, this.sz, this.lnd, this.llen, this.lsz, this.tl, this.tn⟩
theorem tup3J {d tm lm dj r n s : Addr} {ps : List Addr} {M : WM} {N : KM} {H : Hp} (W : MAt d tm lm M H) (g : JAt dj r n s ps N H) : ∀ b ∈ [d, tm, lm] ++ ([dj, r, n, s] ++ ps), ∀ xs, H b = some (.tup xs) → xs.length = 3 := by
  intro b hb xs hx
  simp only [List.mem_append, List.mem_cons, List.not_mem_nil, or_false] at hb
  rcases hb with (rfl | rfl | rfl) | (rfl | rfl | rfl | rfl) | hb
  · rw [W.ob] at hx; cases hx
  · rw [W.th] at hx; cases hx
  · rw [W.li] at hx; cases hx
  · rw [g.ob] at hx; cases hx
  · rw [g.rs] at hx; cases hx
  · rw [g.nm] at hx; cases hx
  · rw [g.sn] at hx; cases hx
  · obtain ⟨e, he⟩ := g.mem hb
    rw [he] at hx
    cases hx
    rfl
theorem tup_step {F F' : List Addr} {H H' : Hp} {p : Addr} {xs : List V} (s : Step F F' H H') (h3 : ∀ b ∈ F, ∀ xs, H b = some (.tup xs) → xs.length = 3) (h : H p = some (.tup xs)) (hl : xs.length ≠ 3) : H' p = some (.tup xs) := s.st p _ h (fun m => hl (h3 p m xs h)) nsh_tup
theorem nsh_ne4 {xs : List V} (h : xs.length ≠ 4) : ¬ RowSh (.lst xs) := nsh_of fun a i m z e => by
  have := congrArg (fun o => match o with | HO.lst xs => xs.length | _ => 0) e
  exact h this
theorem dpt_list {n : Nat} {ds : List PyData} (h : ∀ x ∈ ds, PyData.depth x ≤ n) : PyData.depth (.list ds) ≤ n + 1 := by
  simp only [PyData.depth]
  have := dep_all h
  omega
theorem dpt_tup {n : Nat} {ds : List PyData} (h : ∀ x ∈ ds, PyData.depth x ≤ n) : PyData.depth (.tuple ds) ≤ n + 1 := by
  simp only [PyData.depth]
  have := dep_all h
  omega
theorem dpt_dbs (ls : List Bits) : PyData.depth (.list (ls.map db)) ≤ 1 := dpt_list fun x hx => by
  obtain ⟨l, _, rfl⟩ := List.mem_map.mp hx
  simp [db, PyData.depth]
/-- what a law compares of a wire: what hangs, what rings, how many looks -/
theorem dq_three {K : PySem.W.Frag} {H : Hp} {z pa pb : Addr} {la lb : List Bits} {m : Int} (hz : H z = some (.lst [.ref pa, .ref pb, .int m])) (ha : H pa = some (.lst (bvs la))) (hb : H pb = some (.lst (bvs lb))) (h1 : la.length ≤ 100000) (h2 : lb.length ≤ 100000) :
    Dq K H (.ref z) (.list [.list (la.map db), .list (lb.map db), .int m]) := .lst (SqL.of hz) (nsh_ne4 (show (3 : Nat) ≠ 4 by decide)) (by show 3 ≤ 100000; decide) (.cons (dq_bits (SqL.of ha) h1) (.cons (dq_bits (SqL.of hb) h2) (.cons (.int _) .nil)))
theorem dpt_three (la lb : List Bits) (m : Int) : PyData.depth (.list [.list (la.map db), .list (lb.map db), .int m]) < 7 := Nat.lt_of_le_of_lt (dpt_list (n := 1) fun x hx => by
  simp only [List.mem_cons, List.not_mem_nil, or_false] at hx
  rcases hx with rfl | rfl | rfl
  · exact dpt_dbs _
  · exact dpt_dbs _
  · simp [PyData.depth]) (by decide)
theorem keys_things {M M' : WM} {ls : List Bits} (e : M'.things = M.things) (kl : ∀ y ∈ M.keys, y ∈ ls) : ∀ y ∈ M'.keys, y ∈ ls := fun y hy => kl y (by unfold WM.keys at hy ⊢; rw [← e]; exact hy)
end Lw
end

section
/-! walks find all that stay; how many rounds; what a still wire tells -/
namespace Lw
open PySem L2
/-- those that answer a round of a kind -/
def kindL (M : WM) (c : Bool) : List Bits := (M.things.filter fun p => c || p.2).map (·.1)
theorem kindL_keys (M : WM) : kindL M true = M.keys := by
  unfold kindL WM.keys
  congr 1
  rw [List.filter_eq_self]
  intro a _
  rfl
/-- looked at, or found -/
def KM.Done (w : Nat) (N : KM) (c : Bits) : Prop := (c.length < w → c ∈ N.seen.map (·.1)) ∧ (¬ c.length < w → c ∈ N.names)
def BegS (S : Bits → Prop) (c : Bits) : Prop := c = [] ∨ ∃ x, S x ∧ c <+: x
structure KW (w : Nat) (S : Bits → Prop) (M : WM) (N : KM) : Prop where
  a : ∀ c, BegS S c → N.Done w c ∨ ∃ g ∈ N.pend, g <+: c
  l : ∀ b, N.said = some b → ∀ x, S x → b <+: x → x ∈ M.lis
section
variable {w : Nat} {S U : Bits → Prop} {M : WM} {N : KM}
theorem begS_len (hS : ∀ x, S x → x.length = w) {c : Bits} (h : BegS S c) : c.length ≤ w := by
  rcases h with rfl | ⟨x, hx, hp⟩
  · exact Nat.zero_le _
  · rw [← hS x hx]
    exact hp.length_le
theorem ended_done_ {b : Bits} (hS : ∀ x, S x → x.length = w) (h : ∀ c, BegS S c → N.Done w c ∨ ∃ g ∈ N.rest ++ [b], g <+: c) : ∀ c, BegS S c → (N.ended w b).1.Done w c ∨ ∃ g ∈ (N.ended w b).1.pend, g <+: c := by
  intro c hc
  unfold KM.ended
  by_cases hb : b.length < w
  · rw [if_pos hb]
    rcases h c hc with h | ⟨g, hg, hp⟩
    · exact .inl h
    · exact .inr ⟨g, by rw [pend_said rfl]; exact hg, hp⟩
  · rw [if_neg hb]
    rcases h c hc with h | ⟨g, hg, hp⟩
    · exact .inl ⟨h.1, fun q => List.mem_append_left _ (h.2 q)⟩
    · rcases List.mem_append.mp hg with hg | hg
      · exact .inr ⟨g, by rw [pend_none rfl]; exact hg, hp⟩
      · rw [List.mem_singleton.mp hg] at hp
        have h1 := begS_len hS hc
        have h2 := hp.length_le
        have e : b = c := List.IsPrefix.eq_of_length hp (by omega)
        exact .inl ⟨fun q => by omega, fun _ => by rw [← e]; simp⟩
theorem KW.stepB (h : KW w S M N) (hw : M.width = w) (hs : N.said = none) (hr : N.rest ≠ []) (hl : ∀ x, S x → x.length = w) (hS : ∀ x, S x → x ∈ kindL M N.kind) : KW w S (stepB M N (N.rest.getLastD [])).1 (stepB M N (N.rest.getLastD [])).2.1 := by
  have er : N.rest = N.rest.dropLast ++ [N.rest.getLastD []] := by
    have e := (List.dropLast_concat_getLast hr).symm
    have e2 : N.rest.getLastD [] = N.rest.getLast hr := by rw [List.getLastD_eq_getLast?, List.getLast?_eq_some_getLast hr]; rfl
    rw [e2]
    exact e
  unfold Lw.stepB
  refine ⟨?_, fun b hb x hx hp => ?_⟩
  · rw [hw]
    refine ended_done_ (N := { N with rest := N.rest.dropLast }) hl fun c hc => ?_
    rcases h.a c hc with h | ⟨g, hg, hp⟩
    · exact .inl h
    · exact .inr ⟨g, by rw [pend_none hs, er] at hg; exact hg, hp⟩
  · obtain ⟨rfl, _, _⟩ := ended_said b hb
    exact List.mem_filter.mpr ⟨hS x hx, decide_eq_true hp⟩
theorem KW.stepL {b : Bits} (h : KW w S M N) (hw : M.width = w) (hs : N.said = some b) (hbl : b.length < w) (hl : ∀ x, S x → x.length = w) : KW w S (stepL M N b).1 (stepL M N b).2.1 := by
  have nx : ∀ c, BegS S c → b <+: c → c = b ∨ ∃ t, b ++ [t] <+: c ∧ lookZ M.lis b t = true := by
    intro c hc hp
    obtain ⟨s, rfl⟩ := hp
    cases s with
    | nil => exact .inl (List.append_nil b)
    | cons t s =>
      have hq : b ++ [t] <+: b ++ t :: s := ⟨s, by simp⟩
      rcases hc with hc | ⟨x, hx, hp⟩
      · simp at hc
      · exact .inr ⟨t, hq, lookZ_ex.mpr ⟨x, h.l b hs x hx ((List.prefix_append b _).trans hp), hq.trans hp⟩⟩
  have dn : ∀ c, N.Done w c → ({ N with seen := N.seen ++ [(b, lookZ M.lis b false, lookZ M.lis b true)] } : KM).Done w c := fun c q => ⟨fun z => by rw [List.map_append]; exact List.mem_append_left _ (q.1 z), q.2⟩
  have db : ({ N with seen := N.seen ++ [(b, lookZ M.lis b false, lookZ M.lis b true)] } : KM).Done w b := ⟨fun _ => by simp, fun z => absurd hbl z⟩
  unfold Lw.stepL
  simp only
  by_cases hzo : (!lookZ M.lis b false && !lookZ M.lis b true) = true
  · rw [if_pos hzo]
    refine ⟨fun c hc => ?_, fun d hd => (by cases hd)⟩
    rw [pend_none rfl]
    rcases h.a c hc with q | ⟨g, hg, hp⟩
    · exact .inl (dn c q)
    · rw [pend_said hs] at hg
      rcases List.mem_append.mp hg with hg | hg
      · exact .inr ⟨g, hg, hp⟩
      · rw [List.mem_singleton.mp hg] at hp
        rcases nx c hc hp with rfl | ⟨t, _, ht⟩
        · exact .inl db
        · rw [Bool.and_eq_true] at hzo
          cases t
          · rw [ht] at hzo
            exact absurd hzo.1 (by decide)
          · rw [ht] at hzo
            exact absurd hzo.2 (by decide)
  · rw [if_neg hzo]
    simp only
    refine ⟨?_, fun d hd x hx hp => ?_⟩
    · rw [hw]
      refine ended_done_ hl fun c hc => ?_
      have key : ∀ t, lookZ M.lis b t = true → t = (!lookZ M.lis b false) ∨ (t = true ∧ (lookZ M.lis b false && lookZ M.lis b true) = true) := by
        intro t ht
        cases t with
        | false => rw [ht]; exact .inl rfl
        | true =>
          rw [ht]
          cases lookZ M.lis b false
          · exact .inl rfl
          · exact .inr ⟨rfl, rfl⟩
      by_cases hb2 : (lookZ M.lis b false && lookZ M.lis b true) = true
      · rw [if_pos hb2]
        rcases h.a c hc with q | ⟨g, hg, hp⟩
        · exact .inl (dn c q)
        · rw [pend_said hs] at hg
          rcases List.mem_append.mp hg with hg | hg
          · exact .inr ⟨g, by simp [hg], hp⟩
          · rw [List.mem_singleton.mp hg] at hp
            rcases nx c hc hp with rfl | ⟨t, hq, ht⟩
            · exact .inl db
            · rcases key t ht with rfl | ⟨rfl, _⟩
              · exact .inr ⟨_, by simp, hq⟩
              · exact .inr ⟨_, by simp, hq⟩
      · rw [if_neg hb2]
        rcases h.a c hc with q | ⟨g, hg, hp⟩
        · exact .inl (dn c q)
        · rw [pend_said hs] at hg
          rcases List.mem_append.mp hg with hg | hg
          · exact .inr ⟨g, by simp [hg], hp⟩
          · rw [List.mem_singleton.mp hg] at hp
            rcases nx c hc hp with rfl | ⟨t, hq, ht⟩
            · exact .inl db
            · rcases key t ht with rfl | ⟨rfl, q⟩
              · exact .inr ⟨_, by simp, hq⟩
              · exact absurd q hb2
    · obtain ⟨rfl, _, _⟩ := ended_said d hd
      exact List.mem_filter.mpr ⟨h.l b hs x hx (snoc_pre hp), decide_eq_true hp⟩
theorem KW.kstep (h : KW w S M N) (hp : KP M N) (hw : M.width = w) (ho : N.over = false) (hl : ∀ x, S x → x.length = w) (hS : ∀ x, S x → x ∈ kindL M N.kind) : KW w S (kstep M N).1 (kstep M N).2.1 := by
  cases hs : N.said with
  | none =>
    have hr : N.rest ≠ [] := fun e => by simp [KM.over, hs, e] at ho
    rw [kstep_none hs]
    exact h.stepB hw hs hr hl hS
  | some b =>
    rw [kstep_some hs]
    exact h.stepL hw hs (by rw [← hw]; exact (hp.ls b hs).1) hl
/-- .. a step that looks needs nothing of those that hang -/
theorem KW.klook {b : Bits} (h : KW w S M N) (hp : KP M N) (hw : M.width = w) (hs : N.said = some b) (hl : ∀ x, S x → x.length = w) : KW w S (Lw.kstep M N).1 (Lw.kstep M N).2.1 := by
  rw [kstep_some hs]
  exact h.stepL hw hs (by rw [← hw]; exact (hp.ls b hs).1) hl
theorem kindL_step (c : Bool) : kindL (Lw.kstep M N).1 c = kindL M c := by unfold kindL; rw [(kstep_width M N).2]
theorem KW.round {j : Nat} {M1 : WM} {N1 : KM} {r : Res} (h : KW w S M N) (hp : KP M N) (hw : M.width = w) (ho : N.over = false) (hl : ∀ x, S x → x.length = w) (hS : ∀ x, S x → x ∈ kindL M N.kind) (t : KRound j M N M1 N1 r) : KW w S M1 N1 := by
  induction t with
  | last h2 => exact h.kstep hp hw ho hl hS
  | more h2 t ih =>
    refine ih (h.kstep hp hw ho hl hS) (hp.step ho) ((kstep_width _ _).1.trans hw) (kstep_gap hp h2).2 fun x hx => ?_
    rw [kindL_step, kstep_kind]
    exact hS x hx
theorem KW.run {j : Nat} {M1 : WM} {N1 : KM} (h : KW w S M N) (hp : KP M N) (hw : M.width = w) (hl : ∀ x, S x → x.length = w) (hS : ∀ x, S x → x ∈ kindL M N.kind) (t : KRun j M N M1 N1) : KW w S M1 N1 := by
  induction t with
  | last _ => exact h
  | more h2 t ih =>
    refine ih (h.kstep hp hw h2 hl hS) (hp.step h2) ((kstep_width _ _).1.trans hw) fun x hx => ?_
    rw [kindL_step, kstep_kind]
    exact hS x hx
theorem KW.new {c : Bool} : KW w S M ⟨c, [[]], none, [], []⟩ := ⟨fun d _ => .inr ⟨[], by simp [KM.pend], List.nil_prefix⟩, fun b hb => (by cases hb)⟩
/-- fewer that stay, others that hang -/
theorem KW.sub {S' : Bits → Prop} {M' : WM} (h : KW w S M N) (hs : ∀ x, S' x → S x) (hl : ∀ x, S' x → x ∈ M.lis → x ∈ M'.lis) : KW w S' M' N := ⟨fun c hc => h.a c (by
  rcases hc with rfl | ⟨x, hx, hp⟩
  · exact .inl rfl
  · exact .inr ⟨x, hs x hx, hp⟩), fun b hb x hx hp => hl x hx (h.l b hb x (hs x hx) hp)⟩
theorem over_pend (ho : N.over = true) : N.pend = [] := by
  unfold KM.over at ho
  rw [Bool.and_eq_true, decide_eq_true_iff, decide_eq_true_iff] at ho
  rw [pend_none ho.1, ho.2]
theorem KW.all (h : KW w S M N) (ho : N.over = true) (hl : ∀ x, S x → x.length = w) : ∀ x, S x → x ∈ N.names := fun x hx => by
  rcases h.a x (.inr ⟨x, hx, List.prefix_refl _⟩) with q | ⟨g, hg, _⟩
  · exact q.2 (by rw [hl x hx]; exact Nat.lt_irrefl _)
  · rw [over_pend ho] at hg
    cases hg
theorem KW.looked (h : KW w S M N) (ho : N.over = true) {c : Bits} (hc : BegS S c) (hw : c.length < w) : c ∈ N.seen.map (·.1) := by
  rcases h.a c hc with q | ⟨g, hg, _⟩
  · exact q.1 hw
  · rw [over_pend ho] at hg
    cases hg
end
/-! ### how many looks, what is found -/
section
variable {M : WM} {N : KM}
theorem kstep_many : (kstep M N).1.many + N.seen.length = M.many + (kstep M N).2.1.seen.length := by
  cases hs : N.said with
  | none =>
    rw [kstep_none hs]
    unfold stepB
    rw [ended_rest.2.1]
    rfl
  | some b =>
    rw [kstep_some hs]
    unfold stepL
    simp only
    split
    · simp [WM.look]
      omega
    · simp only
      rw [ended_rest.2.1]
      split <;> simp [WM.say, WM.look] <;> omega
theorem kround_many {j : Nat} {M1 : WM} {N1 : KM} {r : Res} (t : KRound j M N M1 N1 r) : M1.many + N.seen.length = M.many + N1.seen.length := by
  induction t with
  | last _ => exact kstep_many
  | more _ _ ih =>
    have := kstep_many (M := ‹WM›) (N := ‹KM›)
    rename_i n M M' N N' r h t
    have := kstep_many (M := M) (N := N)
    omega
theorem krun_many {j : Nat} {M1 : WM} {N1 : KM} (t : KRun j M N M1 N1) : M1.many + N.seen.length = M.many + N1.seen.length := by
  induction t with
  | last _ => rfl
  | more _ _ ih =>
    rename_i n M M' N N' h t
    have := kstep_many (M := M) (N := N)
    omega
def resN : Res → List Bits
  | .found x => [x]
  | _ => []
theorem ended_res {N : KM} {w : Nat} {b : Bits} : (N.ended w b).1.names = N.names ++ resN (N.ended w b).2 := by
  unfold KM.ended
  by_cases h : b.length < w
  · rw [if_pos h]
    simp [resN]
  · rw [if_neg h]
    rfl
theorem kstep_names : (kstep M N).2.1.names = N.names ++ resN (kstep M N).2.2 := by
  cases hs : N.said with
  | none =>
    rw [kstep_none hs]
    unfold stepB
    exact ended_res
  | some b =>
    rw [kstep_some hs]
    unfold stepL
    simp only
    split
    · simp [resN]
    · simp only
      rw [ended_res]
      split <;> rfl
theorem kround_names {j : Nat} {M1 : WM} {N1 : KM} {r : Res} (t : KRound j M N M1 N1 r) : N1.names = N.names ++ resN r := by
  induction t with
  | last _ => exact kstep_names
  | more h _ ih =>
    rename_i n M M' N N' r t
    rw [ih, kstep_names, h]
    simp [resN]
theorem kround_kind {j : Nat} {M1 : WM} {N1 : KM} {r : Res} (t : KRound j M N M1 N1 r) : N1.kind = N.kind := by
  induction t with
  | last _ => exact kstep_kind _ _
  | more _ _ ih => exact ih.trans (kstep_kind _ _)
theorem krun_kind {j : Nat} {M1 : WM} {N1 : KM} (t : KRun j M N M1 N1) : N1.kind = N.kind := by
  induction t with
  | last _ => rfl
  | more _ _ ih => exact ih.trans (kstep_kind _ _)
end
/-! ### how many rounds -/
/-- where the rounds came to an end -/
structure KD (U : Bits → Prop) (D : List Bits) (N : KM) : Prop where
  d : D.Pairwise Lft
  p : ∀ x ∈ D, ∀ g ∈ N.pend, Lft x g
  u : ∀ x ∈ D, U x
theorem ended_pend {N : KM} {w : Nat} {b g : Bits} (h : g ∈ (N.ended w b).1.pend) : g ∈ N.rest ∨ g = b := by
  unfold KM.ended at h
  by_cases c : b.length < w
  · rw [if_pos c, pend_said rfl] at h
    rcases List.mem_append.mp h with h | h
    · exact .inl h
    · exact .inr (List.mem_singleton.mp h)
  · rw [if_neg c, pend_none rfl] at h
    exact .inl h
theorem ended_found {N : KM} {w : Nat} {b x : Bits} (h : (N.ended w b).2 = .found x) : b = x := by
  unfold KM.ended at h
  by_cases c : b.length < w
  · rw [if_pos c] at h
    cases h
  · rw [if_neg c] at h
    injection h
theorem ended_lost {N : KM} {w : Nat} {b : Bits} (h : (N.ended w b).2 = .lost) : False := by
  unfold KM.ended at h
  by_cases c : b.length < w
  · rw [if_pos c] at h
    cases h
  · rw [if_neg c] at h
    cases h
section
variable {w : Nat} {U : Bits → Prop} {M : WM} {N : KM} {D : List Bits}
/-- what is pending behind a step lies within what was -/
theorem kstep_pend (ho : N.over = false) {g : Bits} (h : g ∈ (kstep M N).2.1.pend) : ∃ b ∈ N.pend, b <+: g := by
  cases hs : N.said with
  | none =>
    have hr : N.rest ≠ [] := fun e => by simp [KM.over, hs, e] at ho
    rw [kstep_none hs] at h
    unfold stepB at h
    rw [pend_none hs]
    rcases ended_pend h with h | h
    · exact ⟨g, (List.dropLast_sublist _).subset h, List.prefix_refl _⟩
    · exact ⟨g, by rw [h]; exact getLastD_mem hr, List.prefix_refl _⟩
  | some b =>
    rw [kstep_some hs] at h
    rw [pend_said hs]
    unfold stepL at h
    simp only at h
    split at h
    · rw [pend_none rfl] at h
      exact ⟨g, List.mem_append_left _ h, List.prefix_refl _⟩
    · rcases ended_pend h with h | h
      · split at h
        · rcases List.mem_append.mp h with h | h
          · exact ⟨g, List.mem_append_left _ h, List.prefix_refl _⟩
          · exact ⟨b, by simp, by rw [List.mem_singleton.mp h]; exact List.prefix_append _ _⟩
        · exact ⟨g, List.mem_append_left _ h, List.prefix_refl _⟩
      · exact ⟨b, by simp, by rw [h]; exact List.prefix_append _ _⟩
theorem kstep_found (ho : N.over = false) {x : Bits} (h : (kstep M N).2.2 = .found x) : ∃ b ∈ N.pend, b <+: x := by
  cases hs : N.said with
  | none =>
    have hr : N.rest ≠ [] := fun e => by simp [KM.over, hs, e] at ho
    rw [kstep_none hs] at h
    unfold stepB at h
    rw [pend_none hs]
    exact ⟨_, getLastD_mem hr, by rw [ended_found h]; exact List.prefix_refl _⟩
  | some b =>
    rw [kstep_some hs] at h
    rw [pend_said hs]
    unfold stepL at h
    simp only at h
    split at h
    · cases h
    · exact ⟨b, by simp, by rw [← ended_found h]; exact List.prefix_append _ _⟩
theorem kstep_lost (ho : N.over = false) (h : (kstep M N).2.2 = .lost) : ∃ b, N.said = some b ∧ (kstep M N).2.1.pend = N.rest := by
  cases hs : N.said with
  | none =>
    rw [kstep_none hs] at h
    unfold stepB at h
    exact (ended_lost h).elim
  | some b =>
    rw [kstep_some hs] at h ⊢
    unfold stepL at h ⊢
    simp only at h ⊢
    split at h
    · rename_i c
      rw [if_pos c]
      exact ⟨b, rfl, pend_none rfl⟩
    · exact (ended_lost h).elim
theorem KD.kstep (h : KD U D N) (ho : N.over = false) (ki : KI w U N) (ki2 : KI w U (kstep M N).2.1) : ∃ D', KD U D' (Lw.kstep M N).2.1 ∧ D'.length = D.length + (if (Lw.kstep M N).2.2 = .none then 0 else 1) := by
  have hp : ∀ x ∈ D, ∀ g ∈ (Lw.kstep M N).2.1.pend, Lft x g := fun x hx g hg => by
    obtain ⟨b, hb, hp⟩ := kstep_pend ho hg
    exact (h.p x hx b hb).pre hp
  cases hr : (Lw.kstep M N).2.2 with
  | none => exact ⟨D, ⟨h.d, hp, h.u⟩, by simp⟩
  | found x =>
    have hx : x ∈ (Lw.kstep M N).2.1.names := by
      rw [kstep_names, hr]
      simp [resN]
    refine ⟨D ++ [x], ⟨List.pairwise_append.mpr ⟨h.d, by simp, fun y hy z hz => ?_⟩, fun y hy g hg => ?_, fun y hy => ?_⟩, by simp⟩
    · rw [List.mem_singleton.mp hz]
      obtain ⟨b, hb, hp⟩ := kstep_found ho hr
      exact (h.p y hy b hb).pre hp
    · rcases List.mem_append.mp hy with hy | hy
      · exact hp y hy g hg
      · rw [List.mem_singleton.mp hy]
        exact ki2.nn x hx g hg
    · rcases List.mem_append.mp hy with hy | hy
      · exact h.u y hy
      · rw [List.mem_singleton.mp hy]
        exact (ki2.pn x hx).2
  | lost =>
    obtain ⟨b, hb, hpd⟩ := kstep_lost ho hr
    have ord := ki.ord
    rw [pend_said hb] at ord
    refine ⟨D ++ [b], ⟨List.pairwise_append.mpr ⟨h.d, by simp, fun y hy z hz => ?_⟩, fun y hy g hg => ?_, fun y hy => ?_⟩, by simp⟩
    · rw [List.mem_singleton.mp hz]
      exact h.p y hy b (by rw [pend_said hb]; simp)
    · rcases List.mem_append.mp hy with hy | hy
      · exact hp y hy g hg
      · rw [List.mem_singleton.mp hy]
        rw [hpd] at hg
        exact (List.pairwise_append.mp ord).2.2 g hg b (by simp)
    · rcases List.mem_append.mp hy with hy | hy
      · exact h.u y hy
      · rw [List.mem_singleton.mp hy]
        exact (ki.ps b hb).2
theorem KD.new {c : Bool} : KD U [] ⟨c, [[]], none, [], []⟩ := ⟨List.Pairwise.nil, fun x hx => absurd hx (by simp), fun x hx => absurd hx (by simp)⟩
end
def Apt (a b : Bits) : Prop := Lft a b ∨ Lft b a
theorem cones_le : ∀ (L ls : List Bits), L.Pairwise Apt → (∀ b ∈ L, ∃ x ∈ ls, b <+: x) → L.length ≤ ls.length
  | [], _, _, _ => Nat.zero_le _
  | a :: L, ls, h, hs => by
    obtain ⟨h1, h2⟩ := List.pairwise_cons.mp h
    obtain ⟨x, hx, hp⟩ := hs a List.mem_cons_self
    have := cones_le L (ls.erase x) h2 fun b hb => by
      obtain ⟨y, hy, hq⟩ := hs b (List.mem_cons_of_mem _ hb)
      refine ⟨y, (List.mem_erase_of_ne fun e => ?_).mpr hy, hq⟩
      subst e
      rcases List.prefix_or_prefix_of_prefix hp hq with q | q
      · rcases h1 b hb with z | z
        · exact z.np q
        · exact z.np2 q
      · rcases h1 b hb with z | z
        · exact z.np2 q
        · exact z.np q
    have e := List.length_erase_of_mem hx
    have hp : 0 < ls.length := List.length_pos_of_mem hx
    rw [List.length_cons]
    omega
theorem lft_nil {b : Bits} : ¬ Apt [] b := by
  rintro (h | h)
  · exact h.np List.nil_prefix
  · exact h.np2 List.nil_prefix
theorem apt_symm {a b : Bits} (h : Apt a b) : Apt b a := h.symm
theorem no_nil {L : List Bits} (h : L.Pairwise Apt) (h2 : 2 ≤ L.length) : ([] : Bits) ∉ L := by
  intro hm
  match L, h, h2, hm with
  | a :: b :: t, h, _, hm =>
    rcases List.mem_cons.mp hm with e | hm
    · rw [← e] at h
      exact lft_nil ((List.pairwise_cons.mp h).1 b List.mem_cons_self)
    · exact lft_nil (apt_symm ((List.pairwise_cons.mp h).1 [] hm))
theorem KD.le {w : Nat} {U : Bits → Prop} {N : KM} {D ls : List Bits} (h : KD U D N) (ki : KI w U N) (hU : ∀ b, U b → Beg ls b) : D.length + N.pend.length ≤ max 1 ls.length := by
  have hL : (D ++ N.pend).Pairwise Apt := List.pairwise_append.mpr ⟨h.d.imp fun z => .inl z, ki.ord.imp fun z => .inr z, fun a ha b hb => .inl (h.p a ha b hb)⟩
  have hB : ∀ b ∈ D ++ N.pend, Beg ls b := fun b hb => by
    rcases List.mem_append.mp hb with hb | hb
    · exact hU b (h.u b hb)
    · unfold KM.pend at hb
      rcases List.mem_append.mp hb with hb | hb
      · exact hU b (ki.pr b hb).2
      · cases hs : N.said with
        | none => rw [hs] at hb; cases hb
        | some c =>
          rw [hs] at hb
          rw [show b = c by simpa using hb]
          exact hU c (ki.ps c hs).2
  by_cases h2 : 2 ≤ (D ++ N.pend).length
  · have nn := no_nil hL h2
    have := cones_le (D ++ N.pend) ls hL fun b hb => by
      rcases hB b hb with rfl | z
      · exact absurd hb nn
      · exact z
    rw [List.length_append] at this
    omega
  · rw [List.length_append] at h2
    omega
theorem KI.mono {w : Nat} {U U' : Bits → Prop} {N : KM} (h : KI w U N) (hu : ∀ b, U b → U' b) : KI w U' N := ⟨fun g hg => ⟨(h.pr g hg).1, hu _ (h.pr g hg).2⟩, fun b hb => ⟨(h.ps b hb).1, hu _ (h.ps b hb).2⟩, fun e he => ⟨(h.pe e he).1, hu _ (h.pe e he).2⟩, fun x hx => ⟨(h.pn x hx).1, hu _ (h.pn x hx).2⟩, h.ord, h.sn, h.sd, h.nn, h.nr, h.rs⟩
theorem KD.mono {U U' : Bits → Prop} {D : List Bits} {N : KM} (h : KD U D N) (hu : ∀ b, U b → U' b) : KD U' D N := ⟨h.d, h.p, fun x hx => hu x (h.u x hx)⟩
theorem KD.ground {n j : Nat} {ls D : List Bits} {M M1 : WM} {N N1 : KM} {r : Res} (h : KD (Beg ls) D N) (g : GInv n ls M N) (ho : N.over = false) (t : KRound j M N M1 N1 r) : ∃ D', KD (Beg ls) D' N1 ∧ D'.length = D.length + 1 := by
  induction t generalizing D with
  | last h2 =>
    obtain ⟨D', a, b⟩ := h.kstep ho g.ki (g.kstep ho).ki
    rw [if_neg h2] at b
    exact ⟨D', a, b⟩
  | more h2 t ih =>
    obtain ⟨D', a, b⟩ := h.kstep ho g.ki (g.kstep ho).ki
    rw [if_pos h2] at b
    obtain ⟨D2, c, d⟩ := ih a (g.kstep ho) (kstep_gap g.kp h2).2
    exact ⟨D2, c, by omega⟩
theorem KD.tround {n j : Nat} {ls D : List Bits} {M M1 : WM} {N N1 : KM} {r : Res} (h : KD (Beg ls) D N) (g : TInv n ls M N) (ho : N.rest ≠ []) (t : KRound j M N M1 N1 r) : ∃ D', KD (Beg ls) D' N1 ∧ D'.length = D.length + 1 :=
  h.ground g.g (by simp [KM.over, g.s, ho]) ((kround_bare g.s).mpr t)
theorem KW.between {w : Nat} {S S' : Bits → Prop} {M M' : WM} {N : KM} (h : KW w S M N) (hs : N.said = none) (hu : ∀ x, S' x → S x) : KW w S' M' N := ⟨fun c hc => h.a c (by
  rcases hc with rfl | ⟨x, hx, hp⟩
  · exact .inl rfl
  · exact .inr ⟨x, hu x hx, hp⟩), fun b hb => by rw [hs] at hb; cases hb⟩
theorem mem_kind0 {M : WM} {y : Bits} : y ∈ kindL M false ↔ (y, true) ∈ M.things := by
  unfold kindL
  rw [List.mem_map]
  constructor
  · rintro ⟨⟨z, u⟩, h, rfl⟩
    obtain ⟨h1, h2⟩ := List.mem_filter.mp h
    have h2 : u = true := by simpa using h2
    rw [h2] at h1
    exact h1
  · intro h
    exact ⟨(y, true), List.mem_filter.mpr ⟨h, rfl⟩, rfl⟩
theorem mem_put {M M1 : WM} {x y : Bits} (hx : x ∈ M.keys) (e : M1.things = aput M.things x false) : y ∈ kindL M1 false ↔ y ∈ kindL M false ∧ y ≠ x := by
  rw [mem_kind0, mem_kind0, e]
  unfold aput
  rw [if_pos (show x ∈ M.things.map (·.1) from hx), List.mem_map]
  constructor
  · rintro ⟨⟨z, u⟩, h, q⟩
    by_cases c : z = x
    · rw [if_pos c] at q
      cases q
    · rw [if_neg c] at q
      cases q
      exact ⟨h, c⟩
  · rintro ⟨h, c⟩
    exact ⟨(y, true), h, if_neg c⟩
/-- of the ringing ones the least is calmed: the others ring still -/
theorem ring_tail {M M1 : WM} {x : Bits} {l la : List Bits} (hx : x ∈ M.keys) (e : M1.things = aput M.things x false) (hr : Rise (x :: l)) (hp : (x :: l).Perm (kindL M false)) (ha : Rise la) (hpa : la.Perm (kindL M1 false)) : la = l := by
  refine rise_ext ha (List.pairwise_cons.mp hr).2 fun y => ?_
  rw [hpa.mem_iff, mem_put hx e, ← hp.mem_iff, List.mem_cons]
  have nd := List.nodup_cons.mp (rise_nodup hr)
  constructor
  · rintro ⟨h | h, c⟩
    · exact absurd h c
    · exact h
  · intro h
    exact ⟨.inr h, fun c => nd.1 (c ▸ h)⟩
theorem kind_keys {M : WM} {c : Bool} {x : Bits} (h : x ∈ kindL M c) : x ∈ M.keys := (begin_sub M c).subset h
theorem set_names {us ms ls : List Bits} (h1 : us.Perm ms) (h2 : ∀ z, z ∈ ms ↔ z ∈ ls) (hr : Rise us) (hl : Rise ls) : us = ls := rise_ext hr hl fun x => by rw [h1.mem_iff, h2 x]
theorem Sts.seven {H : Hp} {F S D K M W L : Own} (s : Sts H [F, S, D, K, M, W, L]) : Sts H [K, W, M, D, L, S, F] :=
  (((s.perm ((List.perm_append_comm (l₁ := [F, S, D]) (l₂ := [K, M, W])).append_right [L])).perm ((List.Perm.swap W M [F, S, D, L]).cons K)).perm ((List.perm_append_comm (l₁ := [F, S]) (l₂ := [D, L])).append_left [K, W, M])).perm ((List.Perm.swap S F []).append_left [K, W, M, D, L])
/-- a list is told anew elsewhere -/
theorem Sts.newList {H H' : Hp} {l1 l2 : List Own} {p q : Addr} {ls ms : List Bits} (s : Sts H (l1 ++ oList p ls :: l2)) (e : Ext H H') (hq : H q = none) (h : H' q = some (.lst (bvs ms))) : Sts H' (l1 ++ oList q ms :: l2) :=
  Sts.step (W' := oList q ms) s h ((Step.of e).to fun b hb => .inr (by rw [List.mem_singleton.mp hb]; exact hq))
theorem w_eqDb {K : PySem.W.Frag} {H : Hp} {Q : VK} {x y : V} {d e : PyData} {b : Bool} (h1 : Dp K H x d) (h2 : Dp K H y e) (s1 : SeqAt.shaped d = true) (s2 : SeqAt.shaped e = true) (hb : PyData.eqv d e = b) (k : Q (.bl b) H) : rEqD K x y H Q := by
  subst hb
  exact w_eqD h1 h2 s1 s2 k
theorem w_neDb {K : PySem.W.Frag} {H : Hp} {Q : VK} {x y : V} {d e : PyData} {b : Bool} (h1 : Dp K H x d) (h2 : Dp K H y e) (s1 : SeqAt.shaped d = true) (s2 : SeqAt.shaped e = true) (hb : PyData.eqv d e = b) (k : Q (.bl (!b)) H) : rNeD K x y H Q := by
  subst hb
  exact w_neD h1 h2 s1 s2 k
theorem shp1 {z : Str} (h : PyData.canLay0 (.str z) = true) : SeqAt.shaped (.tuple [.str z]) = true := shaped_mk (n := 1) (by
  simp only [PyData.canLay0, PyData.canLayAll0, Bool.and_true] at h ⊢
  exact h) (by simp [PyData.depth, PyData.depthAll]) (by decide)
theorem shp2 {z y : Str} (h : PyData.canLay0 (.str z) = true) (h2 : PyData.canLay0 (.str y) = true) : SeqAt.shaped (.tuple [.str z, .str y]) = true := shaped_mk (n := 1) (by
  simp only [PyData.canLay0, PyData.canLayAll0, Bool.and_true, Bool.and_eq_true] at h h2 ⊢
  exact ⟨h, h2⟩) (by simp [PyData.depth, PyData.depthAll]) (by decide)
theorem dp_tup1 {K : PySem.W.Frag} {H : Hp} {p : Addr} {z : Str} (h : H p = some (.tup [.str z])) : Dp K H (.ref p) (.tuple [.str z]) := .tup (SqT.of h) (.cons (.str _) .nil)
theorem dp_tup2 {K : PySem.W.Frag} {H : Hp} {p : Addr} {z y : Str} (h : H p = some (.tup [.str z, .str y])) : Dp K H (.ref p) (.tuple [.str z, .str y]) := .tup (SqT.of h) (.cons (.str _) (.cons (.str _) .nil))
end Lw
end

section
/-! what a walk tells of a wire on which nothing changes -/
namespace Lw
open PySem L2
theorem krun_bare {j : Nat} {M M2 : WM} {N N2 : KM} (h : N.said = none) (ho : N.over = false) (t : KRun j M.bare N M2 N2) : KRun j M N M2 N2 := by
  have e := kstep_bare (M := M) h
  cases t with
  | last q => rw [q] at ho; cases ho
  | more q t => exact .more q (by rw [← e]; exact t)
/-- a walk of a kind on a still wire; L: those that answer -/
structure KS (L : List Bits) (c : Bool) (M : WM) (N : KM) : Prop where
  ki : KI M.width (Beg L) N
  kp : KP M N
  kd : N.kind = c
  kl : kindL M c = L
  ll : N.said ≠ none → ∀ x ∈ M.lis, x ∈ L
  ok : WOk M
  kw : KW M.width (· ∈ L) M N
section
variable {L : List Bits} {c : Bool} {M : WM} {N : KM}
theorem KS.len (h : KS L c M N) : ∀ x ∈ L, x.length = M.width := fun x hx => by
  rw [← h.kl] at hx
  exact h.ok.len x (kind_keys hx)
theorem KS.kstep (h : KS L c M N) (ho : N.over = false) : KS L c (kstep M N).1 (kstep M N).2.1 where
  ki := by
    rw [(kstep_width M N).1]
    cases hs : N.said with
    | none =>
      have hr : N.rest ≠ [] := fun e => by simp [KM.over, hs, e] at ho
      rw [kstep_none hs]
      exact h.ki.stepB rfl hs hr
    | some b =>
      rw [kstep_some hs]
      refine h.ki.stepL rfl hs fun t ht => ?_
      obtain ⟨l, hl, hp⟩ := lookZ_ex.mp ht
      exact .inr ⟨l, h.ll (by rw [hs]; exact fun q => nomatch q) l hl, hp⟩
  kp := h.kp.step ho
  kd := (kstep_kind M N).trans h.kd
  kl := by rw [kindL_step]; exact h.kl
  ll := fun hn x hx => by
    cases hs : N.said with
    | none =>
      rw [kstep_none hs] at hx
      have := (List.mem_filter.mp hx).1
      rw [← h.kl, ← h.kd]
      exact this
    | some b =>
      rw [kstep_some hs] at hx
      unfold stepL at hx
      simp only at hx
      have q := h.ll (by rw [hs]; exact fun q => nomatch q)
      split at hx
      · exact q x hx
      · exact q x (List.mem_filter.mp hx).1
  ok := kstep_ok h.ok h.kp ho
  kw := by
    rw [(kstep_width M N).1]
    exact h.kw.kstep h.kp rfl ho h.len fun x hx => by rw [h.kd, h.kl]; exact hx
theorem KS.round {j : Nat} {M1 : WM} {N1 : KM} {r : Res} (h : KS L c M N) (ho : N.over = false) (t : KRound j M N M1 N1 r) : KS L c M1 N1 := by
  induction t with
  | last h2 => exact h.kstep ho
  | more h2 t ih => exact ih (h.kstep ho) (kstep_gap h.kp h2).2
theorem KS.run {j : Nat} {M1 : WM} {N1 : KM} (h : KS L c M N) (t : KRun j M N M1 N1) : KS L c M1 N1 := by
  induction t with
  | last _ => exact h
  | more h2 t ih => exact ih (h.kstep h2)
theorem KS.new (ok : WOk M) : KS (kindL M c) c M ⟨c, [[]], none, [], []⟩ where
  ki := ⟨fun g hg => by rw [List.mem_singleton.mp hg]; exact ⟨Nat.zero_le _, .inl rfl⟩, fun b hb => (by cases hb), fun e he => absurd he (by simp), fun x hx => absurd hx (by simp), by simp [KM.pend], fun e he => absurd he (by simp), by simp, fun x hx => absurd hx (by simp), List.Pairwise.nil, by simp⟩
  kp := ⟨fun b hb => (by cases hb), fun g hg => by rw [List.mem_singleton.mp hg]; exact Nat.zero_le _⟩
  kd := rfl
  kl := rfl
  ll := fun h => absurd rfl h
  ok := ok
  kw := KW.new
/-- where it has nowhere to go -/
structure Still (L : List Bits) (M M1 : WM) (N1 : KM) : Prop where
  nr : Rise N1.names
  nm : ∀ x, x ∈ N1.names ↔ x ∈ L
  th : M1.things = M.things
  wd : M1.width = M.width
  mn : M1.many = M.many + N1.seen.length
  sd : (N1.seen.map (·.1)).Nodup
  sm : ∀ b, b ∈ N1.seen.map (·.1) ↔ Beg L b ∧ b.length < M.width
  ok : WOk M1
  ov : N1.over = true
  sz : N1.names.length ≤ 41 ∧ N1.seen.length ≤ 441
theorem KS.names (h : KS L c M N) : ∀ x ∈ N.names, x ∈ L := fun x hx => by
  obtain ⟨h1, h2⟩ := h.ki.pn x hx
  rcases h2 with rfl | ⟨y, hy, hp⟩
  · have := h.ok.w1
    have h1 : 0 = M.width := h1
    omega
  · have e := List.IsPrefix.eq_of_length hp (by rw [h1, h.len y hy])
    rw [e]
    exact hy
theorem KS.still {j : Nat} {M1 : WM} {N1 : KM} (h : KS L c M1 N1) (ho : N1.over = true) (hz : L.length ≤ 40) (th : M1.things = M.things) (wd : M1.width = M.width) (mn : M1.many = M.many + N1.seen.length) : Still L M M1 N1 := by
  have nm : ∀ x, x ∈ N1.names ↔ x ∈ L := fun x => ⟨h.names x, h.kw.all ho h.len x⟩
  have sm : ∀ b, b ∈ N1.seen.map (·.1) ↔ Beg L b ∧ b.length < M.width := fun b => by
    constructor
    · intro hb
      obtain ⟨e, he, rfl⟩ := List.mem_map.mp hb
      obtain ⟨a1, a2⟩ := h.ki.pe e he
      exact ⟨a2, by rw [← wd]; exact a1⟩
    · rintro ⟨a1, a2⟩
      exact h.kw.looked ho a1 (by rw [wd]; exact a2)
  refine ⟨h.ki.nr, nm, th, wd, mn, h.ki.sd, sm, h.ok, ho, ?_, ?_⟩
  · exact Nat.le_trans (nodup_le _ L (rise_nodup h.ki.nr) fun x hx => (nm x).mp hx) (by omega)
  · have h1 := nodup_le (N1.seen.map (·.1)) (begs M.width L) h.ki.sd fun b hb => by
      obtain ⟨a1, a2⟩ := (sm b).mp hb
      exact beg_mem a1 a2
    rw [List.length_map, begs_len] at h1
    have h2 : L.length * (M.width - 1) ≤ 40 * 11 := Nat.mul_le_mul hz (by have := h.ok.w2; omega)
    omega
theorem still_run (ok : WOk M) (hz : M.things.length ≤ 40) (c : Bool) : ∃ j M1 N1, KRun j M ⟨c, [[]], none, [], []⟩ M1 N1 ∧ j ≤ 883 ∧ Still (kindL M c) M M1 N1 := by
  have hk : M.keys.length ≤ 40 := by
    unfold WM.keys
    rw [List.length_map]
    exact hz
  have g : GInv M.width M.keys M.bare ⟨c, [[]], none, [], []⟩ := GInv.new c rfl ok.w2 hk ok.len ok.bare (fun x hx => hx) (fun x hx => absurd hx (by simp [WM.bare]))
  obtain ⟨j, M1, N1, hr, hj, _⟩ := g.run
  have hr := krun_bare rfl (by rfl) hr
  have hm := krun_many hr
  obtain ⟨_, _, _, e1, e2, e3⟩ := krun_sz hr
  have hL : (kindL M c).length ≤ 40 := by
    unfold kindL
    rw [List.length_map]
    exact Nat.le_trans (List.length_filter_le _ _) hz
  refine ⟨j, M1, N1, hr, ?_, ((KS.new (c := c) ok).run hr).still (j := j) e3 hL e2 e1 (by simpa using hm)⟩
  have : (⟨c, [[]], none, [], []⟩ : KM).mu = 883 := rfl
  omega
end
/-- the beginnings met: as many as were looked at -/
theorem Still.met {L : List Bits} {M M1 : WM} {N1 : KM} (h : Still L M M1 N1) {us : List Bits} (hu : Rise us) (hm : ∀ b, b ∈ us ↔ Beg L b ∧ b.length < M.width) : us.length = N1.seen.length := by
  have h1 := nodup_le us (N1.seen.map (·.1)) (rise_nodup hu) fun b hb => (h.sm b).mpr ((hm b).mp hb)
  have h2 := nodup_le (N1.seen.map (·.1)) us h.sd fun b hb => (hm b).mpr ((h.sm b).mp hb)
  rw [List.length_map] at h1 h2
  omega
theorem Still.sorted {L ms : List Bits} {M M1 : WM} {N1 : KM} (h : Still L M M1 N1) (hr : Rise ms) (hp : ms.Perm L) : N1.names = ms := rise_ext h.nr hr fun x => by rw [h.nm x, hp.mem_iff]
/-! a keeper -/
def kpf (a kp : Addr) : List (Str × V) := [("bus", .ref a), ("kept", .ref kp)]
structure ClP (K : PySem.W.Frag) (CP : Addr) : Prop where
  cl : Cls K CP
  n_bus : NoAttr K CP "bus"
  n_kept : NoAttr K CP "kept"
section
variable {K : PySem.W.Frag} {CP e de a kp : Addr} {H : Hp} {Q : VK}
theorem p_bus (T : ClP K CP) (h : H e = some (.ins CP de (kpf a kp))) (q : Q (.ref a) H) : FldOk K "bus" (.ref e) H Q := ⟨e, CP, de, _, _, rfl, h, T.cl, T.n_bus, by kernel_rfl, q⟩
theorem p_kept (T : ClP K CP) (h : H e = some (.ins CP de (kpf a kp))) (q : Q (.ref kp) H) : FldOk K "kept" (.ref e) H Q := ⟨e, CP, de, _, _, rfl, h, T.cl, T.n_kept, by kernel_rfl, q⟩
end
def oKeep (CP e de a kp : Addr) (ks : List Bits) : Own where
  S := fun H => H e = some (.ins CP de (kpf a kp)) ∧ H kp = some (.lst (bvs ks))
  F := [e, kp]
  loc := fun h s => ⟨h e (by simp) _ s.1, h kp (by simp) _ s.2⟩
  al := fun s b hb => by
    simp only [List.mem_cons, List.not_mem_nil, or_false] at hb
    rcases hb with rfl | rfl
    · exact ⟨_, s.1, own_ins⟩
    · exact ⟨_, s.2, own_bvs _⟩
theorem Sts.fiveB {H : Hp} {A K M W L : Own} (s : Sts H [A, K, M, W, L]) : Sts H [M, W, K, L, A] :=
  (s.perm ((List.perm_append_comm (l₁ := [A, K]) (l₂ := [M, W])).append_right [L])).perm ((List.perm_append_comm (l₁ := [A]) (l₂ := [K, L])).append_left [M, W])
theorem dq_pair {K : PySem.W.Frag} {H : Hp} {z pa pb : Addr} {la lb : List Bits} (hz : SqT K H z [.ref pa, .ref pb]) (ha : H pa = some (.lst (bvs la))) (hb : H pb = some (.lst (bvs lb))) (h1 : la.length ≤ 100000) (h2 : lb.length ≤ 100000) :
    Dq K H (.ref z) (.tuple [.list (la.map db), .list (lb.map db)]) := .tup hz (by show 2 ≤ 100000; decide) (.cons (dq_bits (SqL.of ha) h1) (.cons (dq_bits (SqL.of hb) h2) .nil))
theorem dpt_pair (la lb : List Bits) : PyData.depth (.tuple [.list (la.map db), .list (lb.map db)]) < 7 := Nat.lt_of_le_of_lt (dpt_tup (n := 1) fun x hx => by
  simp only [List.mem_cons, List.not_mem_nil, or_false] at hx
  rcases hx with rfl | rfl
  · exact dpt_dbs _
  · exact dpt_dbs _) (by decide)
/-! dicts whose values are all True -/
theorem liK_new {ks : List Bits} {u : Bits} (h : u ∉ ks) : aput (liK ks) u true = liK (ks ++ [u]) := by
  rw [aput_new (by rw [liK_keys]; exact h)]
  simp [liK]
theorem liK_old {ks : List Bits} {u : Bits} (h : u ∈ ks) : aput (liK ks) u true = liK ks := by
  unfold aput
  rw [if_pos (by rw [liK_keys]; exact h)]
  unfold liK
  rw [List.map_map]
  apply List.map_congr_left
  intro x _
  simp only [Function.comp]
  split <;> rfl
theorem liK_drop {ks : List Bits} {u : Bits} : adrop (liK ks) u = liK (ks.filter fun x => decide (x ≠ u)) := by
  unfold adrop liK
  rw [List.filter_map]
  rfl
theorem liK_len (ks : List Bits) : (liK ks).length = ks.length := by simp [liK]
def oSet (p : Addr) (ks : List Bits) : Own where
  S := fun H => H p = some (.dK (tK V.bl (liK ks)))
  F := [p]
  loc := fun h s => h p List.mem_cons_self _ s
  al := fun s b hb => by
    rw [List.mem_singleton.mp hb]
    exact ⟨_, s, own_dK⟩
theorem Beg.mono {ls ls' : List Bits} (h : ∀ x ∈ ls, x ∈ ls') {b : Bits} (hb : Beg ls b) : Beg ls' b := by
  rcases hb with rfl | ⟨x, hx, hp⟩
  · exact .inl rfl
  · exact .inr ⟨x, h x hx, hp⟩
theorem GInv.grow {n : Nat} {ls ls' : List Bits} {M : WM} {N : KM} (g : GInv n ls M N) (h : ∀ x ∈ ls, x ∈ ls') (l40 : ls'.length ≤ 40) (hl : ∀ x ∈ ls', x.length = n) : GInv n ls' M N :=
  ⟨g.hw, g.n12, l40, hl, g.ok, g.ki.mono fun b hb => hb.mono h, g.kp, fun x hx => h x (g.kl x hx), fun x hx => h x (g.ll x hx)⟩
theorem over_iff {N : KM} : N.over = true ↔ N.said = none ∧ N.rest = [] := by
  unfold KM.over
  rw [Bool.and_eq_true, decide_eq_true_iff, decide_eq_true_iff]
theorem not_over {N : KM} (h : N.over = false) : N.said.isSome = true ∨ (N.said = none ∧ N.rest ≠ []) := by
  cases hs : N.said with
  | some b => exact .inl rfl
  | none =>
    refine .inr ⟨rfl, fun hr => ?_⟩
    rw [over_iff.mpr ⟨hs, hr⟩] at h
    cases h
theorem mem_hang {M : WM} {u : Bits} : (M.hang u).keys = M.keys ++ [u] := by simp [WM.hang, WM.keys]
/-! d.get(k, x) -/
def GetK (a : Addr) (y z : V) (H : Hp) (Q : VK) : Prop := ∃ o, DGet H a y o ∧ Q (o.getD z) H
def GetD (ty tx : TE) (σ : St) (x : V) (H : Hp) (Q : VK) : Prop := ∃ a, x = .ref a ∧ IsD H a ∧ ty σ H fun y H2 => tx σ H2 fun z H3 => GetK a y z H3 Q
theorem w_get2 {td ty tx : TE} {σ : St} {H : Hp} {Q : VK} (k : td σ H fun x H1 => GetD ty tx σ x H1 Q) : tDGet2 td ty tx σ H Q := k
theorem w_getD {ty tx : TE} {σ : St} {H : Hp} {Q : VK} {α : Type} {g : α → V} {ts : List (Bits × α)} {d : Addr} (h : H d = some (.dK (tK g ts))) (k : ty σ H fun y H2 => tx σ H2 fun z H3 => GetK d y z H3 Q) : GetD ty tx σ (.ref d) H Q := ⟨d, rfl, .inl ⟨_, .inl h⟩, k⟩
theorem w_getK {H : Hp} {Q : VK} {ts : List (Bits × Bool)} {d : Addr} {l : Bits} {b : Bool} (h : H d = some (.dK (tK V.bl ts))) (k : Q (.bl ((alook ts l).getD b)) H) : GetK d (.str (B l)) (.bl b) H Q :=
  ⟨_, .inl ⟨_, Sum.inr (B l), .inl h, rfl, rfl⟩, by
    rw [val_tK]
    cases e : alook ts l with
    | none => rw [e] at k; exact k
    | some w => rw [e] at k; exact k⟩
theorem look_kind {M : WM} (ok : WOk M) {y : Bits} : (alook M.things y).getD false = true ↔ y ∈ kindL M false := by
  rw [mem_kind0]
  constructor
  · intro h
    cases e : alook M.things y with
    | none => rw [e] at h; cases h
    | some w =>
      rw [e] at h
      have h : w = true := h
      subst h
      unfold alook at e
      rw [Option.map_eq_some_iff] at e
      obtain ⟨⟨z, w⟩, e1, e2⟩ := e
      have h1 := List.find?_some e1
      have h2 := List.mem_of_find?_eq_some e1
      simp only [decide_eq_true_eq] at h1
      have e2 : w = true := e2
      rw [← h1, ← e2]
      exact h2
  · intro h
    rw [alook_of ok.nd h]
    rfl
/-- those that a walk may come upon, of a kind -/
structure KU (n : Nat) (Ev : List Bits) (M : WM) (N : KM) : Prop where
  ki : KI n (Beg Ev) N
  ll : N.said ≠ none → ∀ x ∈ M.lis, x ∈ Ev
  rg : ∀ x ∈ kindL M N.kind, x ∈ Ev
theorem KU.kstep {n : Nat} {Ev : List Bits} {M : WM} {N : KM} (h : KU n Ev M N) (hw : M.width = n) (ho : N.over = false) : KU n Ev (kstep M N).1 (kstep M N).2.1 where
  ki := by
    cases hs : N.said with
    | none =>
      have hr : N.rest ≠ [] := fun e => by simp [KM.over, hs, e] at ho
      rw [kstep_none hs]
      exact h.ki.stepB hw hs hr
    | some b =>
      rw [kstep_some hs]
      refine h.ki.stepL hw hs fun t ht => ?_
      obtain ⟨l, hl, hp⟩ := lookZ_ex.mp ht
      exact .inr ⟨l, h.ll (by rw [hs]; exact fun q => nomatch q) l hl, hp⟩
  ll := fun hn x hx => by
    cases hs : N.said with
    | none =>
      rw [kstep_none hs] at hx
      exact h.rg x (List.mem_filter.mp hx).1
    | some b =>
      rw [kstep_some hs] at hx
      unfold stepL at hx
      simp only at hx
      have q := h.ll (by rw [hs]; exact fun q => nomatch q)
      split at hx
      · exact q x hx
      · exact q x (List.mem_filter.mp hx).1
  rg := fun x hx => by
    rw [kindL_step, kstep_kind] at hx
    exact h.rg x hx
theorem KU.new {n : Nat} {c : Bool} {Ev : List Bits} {M : WM} (h : ∀ x ∈ kindL M c, x ∈ Ev) : KU n Ev M ⟨c, [[]], none, [], []⟩ :=
  ⟨⟨fun g hg => by rw [List.mem_singleton.mp hg]; exact ⟨Nat.zero_le _, .inl rfl⟩, fun b hb => (by cases hb), fun e he => absurd he (by simp), fun x hx => absurd hx (by simp), by simp [KM.pend], fun e he => absurd he (by simp), by simp, fun x hx => absurd hx (by simp), List.Pairwise.nil, by simp⟩, fun h => absurd rfl h, h⟩
theorem deed_lis {M : WM} {wd : Str} {y x : Bits} (h : x ∈ (deedM M wd y).1.lis) : x ∈ M.lis := by
  unfold deedM at h
  split at h
  · split at h
    · exact h
    · exact h
  · split at h
    · split at h
      · exact (List.mem_filter.mp h).1
      · exact h
    · exact h
theorem deed_lis2 {M : WM} {wd : Str} {y x : Bits} (h : x ∈ M.lis) (hk : x ∈ (deedM M wd y).1.keys) : x ∈ (deedM M wd y).1.lis := by
  unfold deedM at hk ⊢
  split
  · split
    · exact h
    · exact h
  · rename_i c1
    rw [if_neg c1] at hk
    split
    · rename_i c2
      rw [if_pos c2] at hk
      split
      · rename_i c3
        rw [if_pos c3] at hk
        change x ∈ (adrop M.things y).map (·.1) at hk
        rw [adrop_keys] at hk
        exact List.mem_filter.mpr ⟨h, (List.mem_filter.mp hk).2⟩
      · exact h
    · exact h
theorem KU.names {n : Nat} {Ev : List Bits} {M : WM} {N : KM} (h : KU n Ev M N) (hn : 1 ≤ n) (hl : ∀ x ∈ Ev, x.length = n) : ∀ x ∈ N.names, x ∈ Ev := fun x hx => by
  obtain ⟨h1, h2⟩ := h.ki.pn x hx
  rcases h2 with rfl | ⟨y, hy, hp⟩
  · have h1 : 0 = n := h1
    omega
  · have e := List.IsPrefix.eq_of_length hp (by rw [h1, hl y hy])
    rw [e]
    exact hy
end Lw
end

section
/-! texts: sorted, any number of them; sets of them -/
namespace Lu
open PySem PySem.Spec PyProof.Rows L2 Lw
abbrev tx (v : Value) : Str := PyProof.Rows.strOf v
def ltT (v u : Value) : Bool := decide ((tx v).cps.toList < (tx u).cps.toList)
theorem swoT : SrtO.Swo ltT where
  asym := fun x y h => decide_eq_false fun b => List.lt_irrefl _ (List.lt_trans (of_decide_eq_true h) b)
  tr := fun x y z h1 h2 => decide_eq_false fun c => by
    have a := of_decide_eq_false h1
    have b := of_decide_eq_false h2
    by_cases q : (tx z).cps.toList < (tx y).cps.toList
    · exact b q
    · exact a (List.lt_of_le_of_lt (List.not_lt.mp q) c)
section
variable {prog : Program} {w : World} {A : Around} {E : Value → Shared → Prop} {s : Shared}
theorem t_cmp {vs : List Value} {ss : List Str} (hI : StrsAre vs ss) : SrtO.Cmp prog w A s oneType' (fun p => p.1 ∈ vs) (SrtO.lt2 ltT) := fun p q hm hn => by
  obtain ⟨a, t, e⟩ := hI.all _ hm
  obtain ⟨b, u, f⟩ := hI.all _ hn
  show wpAny (model prog w) A (keyLt' oneType' p.1 q.1) (fun r z => z = s ∧ r = ltT p.1 q.1) (fun _ _ => False) s
  rw [e, f, keyLt'_oneType]
  exact oneLt_str ⟨rfl, rfl⟩
theorem t_able {a : Addr} {vs : List Value} {ss : List Str} (hI : StrsAre vs ss) (h2 : 2 ≤ vs.length) : SrtO.SortableO prog w A s a vs ltT := fun h' _ => by
  refine ⟨oneType', fun Q E hq => ?_, t_cmp hI⟩
  cases vs with
  | nil => exact absurd h2 (by simp)
  | cons v vs =>
    cases vs with
    | nil => exact absurd h2 (by simp)
    | cons u vs =>
      rw [keyKind_strs hI]
      exact wpAny_pure hq
theorem t_out {vs out : List Value} {ss : List Str} (hI : StrsAre vs ss) (hs : SrtO.Srtd ltT out) (hb : SrtO.Stb ltT out vs) : StrsAre out (out.map tx) ∧ (out.map tx).Perm ss ∧ sortedS (out.map tx) = true := by
  refine ⟨strsAre_map _ fun v hv => hI.all v (hb.perm.mem_iff.mp hv), ?_, sortedS_of_pairwise _ (List.pairwise_map.mpr (hs.imp fun {x y} h => ?_))⟩
  · have q := hb.perm.map tx
    rwa [hI.strs] at q
  · rw [ltCps_eq]
    exact h
end
/-! ### sorted of a list, of a dict's keys -/
def rSortT (K : PySem.W.Frag) : List V → Hp → VK → Prop := fun vs H Q => ∃ (a : Addr) (xs : List Str), vs = [V.ref a] ∧ SqL K H a (xs.map V.str) ∧ ∀ (ys : List Str) (p : Addr), ys.Perm xs → sortedS ys = true → H p = none → Q (.ref p) (upd H p (.lst (ys.map V.str)))
def rSortDT : List V → Hp → VK → Prop := fun vs H Q => ∃ (a : Addr) (kvs : List (Key × V)) (ks : List Str), vs = [.ref a] ∧ Rd H a (.dK kvs) ∧ kvs.map (·.1) = ks.map Sum.inr ∧ ks.length ≤ 100000 ∧ ∀ ys p, ys.Perm ks → sortedS ys = true → H p = none → Q (.ref p) (upd H p (.lst (ys.map V.str)))
theorem line_le {n : Nat} (h : n ≤ 100000) : n ≤ sizeLine := Nat.le_trans h (by decide)
section
variable {X : Cx}
theorem cr_sortT : CallR X (.builtin "sorted") (rSortT X.K) := by
  intro pins s σ H vs us Q I r h
  obtain ⟨a, xs, rfl, hs, q⟩ := h
  obtain ⟨its, rv, hl, hz⟩ := I.list hs
  rw [Vals.ref1 r]
  have hi := strsAre_of rv
  refine SrtO.sorted_ord swoT hl.isList (by rw [← rv.length]; exact hz) (fun h2 _ _ _ _ => t_able hi h2) fun out g1 g2 => ?_
  obtain ⟨k1, k2, k3⟩ := t_out hi g1 g2
  obtain ⟨ep, hat⟩ := PyProof.Rows.sortedAll_at s.heap its out.toArray
  have hlen : ((out.map tx).map V.str).length ≤ sizeLine := by
    rw [List.length_map] at hz ⊢
    rw [k2.length_eq]
    exact hz
  exact ⟨.ref _, upd H (s.heap.objs.size + 1) (.lst ((out.map tx).map V.str)), I.laid (t' := s.toks) (fun _ _ => PyProof.Rows.sortedAll_old) (Nat.le_succ _) ⟨hlen, out, ep, vals_of_strs k1, hat⟩, rfl, q _ _ k2 k3 (I.hok.fresh (Nat.le_succ _))⟩
theorem cr_sortDT (hc : X.calm = true) : CallR X (.builtin "sorted") rSortDT := by
  intro pins s σ H vs us Q I r h
  obtain ⟨a, kvs, ks, rfl, hd, hk, hz, q⟩ := h
  rw [Vals.ref1 r]
  obtain ⟨z, lo, ps, rel, dd⟩ := dk_rd I.hok hd
  obtain ⟨ep, hat⟩ := dd.dictAt
  have hkeys : ps.map (·.1) = ks.map Sum.inr := rel.keys.symm.trans hk
  have hl : ps.length = ks.length := by simpa using congrArg List.length hkeys
  refine Calls.call_function_entry PyProof.Rows.kind_sorted PyProof.Rows.plain_sorted PyProof.Rows.entry_sorted (PyProof.Rows.args_sorted1 _) ?_
  unfold Builtin.«sorted»
  refine wpAny_bind (m := checkCount "sorted" 1 1 _) (wpAny_pure ?_)
  refine wpAny_bind (PySem.W.kdu_collect (A := X.A.in1) (PySem.W.kdl_dict (knd := mixKind X.prog X.w) (kvs := ps) (ep := ep) lo) (I.ok.hd hc) hat (by rw [hl]; exact line_le hz) fun h' tk acc hkeep hacc => ?_)
  have hal : acc.toList.length = ks.length := by rw [Array.length_toList, hacc.1, hl]
  have hS : StrsAre acc.toList ks := strs_at hal fun j v e => by
    obtain ⟨k, x, e1, e2⟩ := hacc.2 j v (by rw [← Array.getElem?_toList]; exact e)
    have e3 : (ps.map (·.1))[j]? = some k := by rw [List.getElem?_map, e1]; rfl
    rw [hkeys, List.getElem?_map] at e3
    cases e4 : ks[j]? with
    | none => rw [e4] at e3; cases e3
    | some y =>
      rw [e4] at e3
      have e5 : Sum.inr y = k := Option.some.inj e3
      subst e5
      obtain ⟨t, ev⟩ := Value.isStrOf_shape (x := y) (v := v) e2
      exact ⟨y, t, rfl, ev⟩
  have I1 : Inv X pins σ H { s with heap := h', toks := tk } := I.kept hkeep
  have hzl : acc.toList.length ≤ sizeLine := by rw [hal]; exact line_le hz
  refine wpAny_bind (wpAny_newList ?_ hzl)
  have hoL : (h'.push (seqObj "list" acc.toList.toArray 0)).get? h'.objs.size = some (seqObj "list" acc.toList.toArray 0) := Heap.get?_push_size _ rfl
  show wpAny _ _ _ _ _ { s with heap := h'.push (seqObj "list" acc.toList.toArray 0), toks := tk }
  refine wpAny_bind (wpAny_holding (wpAny_call_entry PyProof.Rows.slot_list_sort ⟨_, hoL, rfl⟩ PyProof.Rows.entry_list_sort
    (SrtO.list_sort_ord swoT hoL hzl (fun h2 => t_able hS h2) fun out g1 g2 => ⟨_, rfl, ?_⟩) (PyProof.Rows.args_list_sort _)))
  obtain ⟨k1, k2, k3⟩ := t_out hS g1 g2
  obtain ⟨e', he'⟩ := PyProof.Rows.sortedHeap_at (vs := acc.toList) (out := out.toArray) hoL
  have hlen : ((out.map tx).map V.str).length ≤ sizeLine := by rw [List.length_map, k2.length_eq]; exact line_le hz
  refine wpAny_pure ⟨_, rfl, .ref h'.objs.size, upd H h'.objs.size (.lst ((out.map tx).map V.str)), I1.laid (t' := tk) (fun b u e => ?_) (Nat.le_refl _) ⟨hlen, out, e', vals_of_strs k1, he'⟩, rfl, q _ _ k2 k3 (I1.hok.fresh (Nat.le_refl _))⟩
  have hb : b < h'.objs.size := Heap.lt_size e
  rw [PyProof.Rows.sortedHeap_old (Nat.ne_of_lt hb) (by rw [size_push']; exact Nat.lt_succ_of_lt hb)]
  exact Heap.get?_push_of_some _ e
end
/-! ### sets of texts -/
/-- the set of the texts xs at a; it can be walked -/
def TSet (w : World) (h : Heap) (a : Addr) (xs : List Str) : Prop :=
  ∃ o es ep t, h.get? a = some o ∧ o.ExactSet ∧ o.data = .set es ep t ∧ (∀ e ∈ es.toList, ∃ x k, e.2 = Value.str x k ∧ e.1 = hashStr w x) ∧ (es.toList.map fun e => tx e.2).Perm xs ∧ xs.Nodup ∧
    es.size < scanBound ∧ t.fits es.size = true ∧ Ris t.place.toList ∧ (w.params.followText "set-order" = true ∨ t.led = true)
theorem TSet.at {w : World} {h h' : Heap} {a : Addr} {xs : List Str} (R : TSet w h a xs) (k : ∀ o, h.get? a = some o → h'.get? a = some o) : TSet w h' a xs := by
  obtain ⟨o, es, ep, t, ho, r⟩ := R
  exact ⟨o, es, ep, t, k o ho, r⟩
def SetS (w : World) (a : Addr) (xs : List Str) : HO := .ext fun h => TSet w h a xs
theorem sets_new {w : World} {P : Program} {H : Hp} {h : Heap} {a : Addr} {xs : List Str} (R : TSet w h a xs) : ObjOk P w H h a (SetS w a xs) := by
  have ⟨o, _, _, _, ho, _⟩ := R
  exact ⟨R, ⟨o, ho⟩, fun h1 h2 p k => TSet.at p k⟩
theorem sets_get {X : Cx} {pins : List (Addr × Obj)} {σ : L2.St} {H : Hp} {s : Shared} {a : Addr} {xs : List Str} (I : Inv X pins σ H s) (ha : H a = some (SetS X.w a xs)) : TSet X.w s.heap a xs := (I.hok a _ ha).1
/-- a set's object, nothing in it -/
abbrev noneIn (w : World) : Obj := { cls := .type "set", dict := none, data := .set #[] 0 (.fresh 0 0 (!w.params.followText "set-order")) }
theorem tset_new {w : World} {h : Heap} {a : Addr} (ho : h.get? a = some (noneIn w)) : TSet w h a [] :=
  ⟨_, #[], 0, _, ho, ⟨rfl, rfl, rfl⟩, rfl, (fun e he => by simp at he), (by simp), List.nodup_nil, (by decide), (by rfl), List.Pairwise.nil, by
    show _ ∨ (!w.params.followText "set-order") = true
    cases w.params.followText "set-order" <;> simp⟩
section
variable {P : Program} {w : World} {A : Around} {E : Value → Shared → Prop} {s : Shared} {a : Addr} {xs : List Str}
theorem t_elems {l : List (Int × Value)} (g : ∀ e ∈ l, ∃ x k, e.2 = Value.str x k ∧ e.1 = hashStr w x) : ElemsOf (PySem.strKind P w) l := fun e he => by
  obtain ⟨x, k, e1, e2⟩ := g e he
  exact ⟨⟨x, by rw [e1]; exact strKind_is P w x k, e2⟩, by rw [e1]; rfl⟩
theorem t_mem {l : List (Int × Value)} (g : ∀ e ∈ l, ∃ x k, e.2 = Value.str x k ∧ e.1 = hashStr w x) (x : Str) : x ∈ l.map (fun e => tx e.2) ↔ ∃ e ∈ l, (PySem.strKind P w).is x e.2 = true := by
  rw [List.mem_map]
  constructor
  · rintro ⟨e, he, q⟩
    obtain ⟨y, k, e1, _⟩ := g e he
    rw [e1] at q
    have q : y = x := q
    exact ⟨e, he, by rw [e1, q]; exact strKind_is P w x k⟩
  · rintro ⟨e, he, q⟩
    obtain ⟨t, e2⟩ := Value.isStrOf_shape (x := x) (v := e.2) q
    exact ⟨e, he, by rw [e2]; rfl⟩
/-- the entries are stored, and laid anew where the table is too full -/
theorem tset_store {g : Bool → Sem Unit} (hg : ∀ (b : Bool) (s₁ : Shared) (Q' : Unit → Shared → Prop), Q' () s₁ → wpAny (model P w) A (g b) Q' E s₁)
    {o : Obj} {es : Array (Int × Value)} {ep : Nat} {t : SetTable} (ho : s.heap.get? a = some o) (hex : o.ExactSet) (hd : o.data = .set es ep t) {es1 : Array (Int × Value)} {t2 : SetTable}
    (g1 : ∀ e ∈ es1.toList, ∃ x k, e.2 = Value.str x k ∧ e.1 = hashStr w x) (m1 : (es1.toList.map fun e => tx e.2).Perm xs) (nd : xs.Nodup) (hb1 : es1.size < scanBound) (hf2 : t2.fits es1.size = true) (hr : Ris t2.place.toList)
    (hl : w.params.followText "set-order" = true ∨ t2.led = true) {wasDummy : Bool} {R : Option Bool → Shared → Prop} (hR : ∀ h', Heap.SameBut a s.heap h' → TSet w h' a xs → R (some true) { s with heap := h' }) :
    wpAny (model P w) A (do
        storeSet a es1 t2
        if (!wasDummy && t2.tooFull) = true then do
            g (relayAll t2 es1 (SetTable.grown es1.size)).2.2
            storeSet a (relayAll t2 es1 (SetTable.grown es1.size)).1 (relayAll t2 es1 (SetTable.grown es1.size)).2.1
            pure (some true)
          else pure (some true)) R E s := by
  refine wpAny_bind (wpAny_storeSet_of ho hd ?_ (fits_of_scanBound hb1))
  have ho1 := store_at (es' := es1) (t' := t2) ho hd
  have sb1 := Heap.SameBut.update s.heap a (Obj.putSet es1 t2)
  split
  · have pm := relayAll_perm t2 es1 (SetTable.grown es1.size)
    have hf3 := relayAll_fits t2 es1 (SetTable.grown es1.size)
    have hr3 := relayAll_ris t2 es1 (SetTable.grown es1.size)
    have hl3 := relayAll_led t2 es1 (SetTable.grown es1.size)
    generalize relayAll t2 es1 (SetTable.grown es1.size) = Z at pm hf3 hr3 hl3 ⊢
    obtain ⟨es2, t3, gave⟩ := Z
    dsimp only at pm hf3 hr3 hl3 ⊢
    have hb2 : es2.size < scanBound := by
      have : es2.size = es1.size := by simpa using pm.length_eq
      omega
    refine wpAny_bind (hg _ _ _ ?_)
    refine wpAny_bind (wpAny_storeSet_of ho1 rfl ?_ (fits_of_scanBound hb2))
    have ho2 := store_at (es' := es2) (t' := t3) ho1 rfl
    exact wpAny_pure (hR _ (sb1.trans (Heap.SameBut.update _ a _)) ⟨_, es2, _, t3, ho2, hex, rfl, fun e he => g1 e (pm.mem_iff.mp he), (pm.map _).trans m1, nd, hb2, hf3, hr3, hl.imp id fun z => by rw [hl3]; exact z⟩)
  · exact wpAny_pure (hR _ sb1 ⟨_, es1, _, t2, ho1, hex, rfl, g1, m1, nd, hb1, hf2, hr, hl⟩)
theorem tset_add {x : Str} {k : Tok} {Q : Bool → Shared → Prop} (R : TSet w s.heap a xs) (room : xs.length + 1 < scanBound)
    (hQ : ∀ h' ys, Heap.SameBut a s.heap h' → TSet w h' a ys → (∀ z, z ∈ ys ↔ z ∈ xs ∨ z = x) → ys.length ≤ xs.length + 1 → ∀ b, Q b { s with heap := h' }) :
    wpAny (model P w) A (setAddHashed a (.str x k) ((PySem.strKind P w).hash x)) Q E s := by
  obtain ⟨o, es, ep, t, ho, hex, hd, g, pm0, nd, hb, hf, hr, hl⟩ := R
  have hkey : (PySem.strKind P w).is x (.str x k) = true := strKind_is P w x k
  have hsc : (Value.str x k).scannable = true := rfl
  have hel : ElemsOf (PySem.strKind P w) es.toList := t_elems g
  unfold setAddHashed setAddHashedIn
  refine wpAny_holding (wpAny_bind (wpAny_setState_of ho hd hf ?_))
  dsimp only
  rw [byScan_of hsc hb hel]
  simp only [↓reduceIte]
  unfold setAddByScan
  refine wpAny_bind ?_
  refine wpAny_bind (wpAny_rule ?_)
  refine wpAny_bind (wpAny_setScan_of hkey ho hd hf hel ?_)
  cases hfi : List.findIdx? (fun e => (PySem.strKind P w).is x e.2) es.toList with
  | some j =>
    dsimp only
    obtain ⟨hj, pj, _⟩ := List.findIdx?_eq_some_iff_getElem.mp hfi
    have hx : x ∈ xs := pm0.mem_iff.mp ((t_mem (P := P) (w := w) g x).mpr ⟨es.toList[j], List.getElem_mem hj, pj⟩)
    refine wpAny_pure (wpAny_pure ?_)
    exact hQ s.heap xs (Heap.SameBut.refl a s.heap) ⟨o, es, ep, t, ho, hex, hd, g, pm0, nd, hb, hf, hr, hl⟩ (fun z => ⟨.inl, fun h => h.elim id fun e => e ▸ hx⟩) (Nat.le_succ _) _
  | none =>
    dsimp only
    have hnx : x ∉ xs := fun z => by
      obtain ⟨e, he, q⟩ := (t_mem (P := P) (w := w) g x).mp (pm0.mem_iff.mpr z)
      have c := List.findIdx?_eq_none_iff.mp hfi e he
      rw [q] at c
      cases c
    have hgw : ∀ (b : Bool) (s₁ : Shared) (Q' : Unit → Shared → Prop), Q' () s₁ → wpAny (model P w) A (match b with | true => rule "set.scan.the-table-gave-way" | false => pure ()) Q' E s₁ :=
      fun b s₁ Q' q => by cases b <;> first | exact wpAny_pure q | exact wpAny_rule q
    have pm := layNew_perm t es ((PySem.strKind P w).hash x) (.str x k)
    have hf1 := layNew_fits t es ((PySem.strKind P w).hash x) (.str x k)
    have hr1 := layNew_ris t es ((PySem.strKind P w).hash x) (.str x k) hr
    have hl1 := layNew_led t es ((PySem.strKind P w).hash x) (.str x k)
    generalize layNew t es ((PySem.strKind P w).hash x) (.str x k) = Z at pm hf1 hr1 hl1 ⊢
    obtain ⟨es1, t1, wasDummy, gave⟩ := Z
    dsimp only at pm hf1 hr1 hl1 ⊢
    rw [Array.toList_push] at pm
    have pc : es1.toList.Perm (((PySem.strKind P w).hash x, Value.str x k) :: es.toList) := pm.trans (List.perm_append_singleton _ _)
    have m1 : (es1.toList.map fun e => tx e.2).Perm (x :: xs) := (pc.map fun e : Int × Value => tx e.2).trans (show ((((PySem.strKind P w).hash x, Value.str x k) :: es.toList).map fun e : Int × Value => tx e.2).Perm (x :: xs) from pm0.cons x)
    have g1 : ∀ e ∈ es1.toList, ∃ x k, e.2 = Value.str x k ∧ e.1 = hashStr w x := fun e he => by
      rcases List.mem_cons.mp (pc.mem_iff.mp he) with z | z
      · rw [z]; exact ⟨x, k, rfl, rfl⟩
      · exact g e z
    have nd1 : (x :: xs).Nodup := List.nodup_cons.mpr ⟨hnx, nd⟩
    have hb1 : es1.size < scanBound := by
      have h1 := m1.length_eq
      rw [List.length_map, Array.length_toList, List.length_cons] at h1
      omega
    have hled : w.params.followText "set-order" = true ∨ t1.led = true := hl.imp id fun z => by rw [hl1]; exact z
    have fin : ∀ h', Heap.SameBut a s.heap h' → TSet w h' a (x :: xs) → ∀ b, Q b { s with heap := h' } := fun h' sb r => hQ h' (x :: xs) sb r (fun z => by rw [List.mem_cons]; exact Or.comm) (Nat.le_refl _)
    refine wpAny_bind (hgw _ _ _ ?_)
    split
    · refine wpAny_bind ?_
      rw [hashByValue_scannable 8 hsc]
      refine wpAny_pure ?_
      refine tset_store hgw ho hex hd g1 m1 nd1 hb1 ?_ ?_ ?_ ?_
      · first | (split <;> first | exact hf1 | exact SetTable.fits_plain_off hf1) | exact hf1 | exact SetTable.fits_plain_off hf1
      · first | (split <;> exact hr1) | exact hr1
      · first | (split <;> exact hled) | exact hled
      · intro h' sb r; dsimp only; exact wpAny_pure (fin h' sb r _)
    · refine wpAny_bind (wpAny_pure ?_)
      simp only [↓reduceIte]
      refine tset_store hgw ho hex hd g1 m1 nd1 hb1 hf1 hr1 hled ?_
      · intro h' sb r; dsimp only; exact wpAny_pure (fin h' sb r _)
/-- the loop that fills a set -/
theorem tset_fill {I : Addr} {fp wr : List Addr} {G : Array GenState → Array GenState → Prop} {n : Nat} {Pv : Nat → Value → Prop} {St : Nat → Shared → Prop} {R : Result → Shared → Prop}
    (W : WalksS P w A.in1 I fp wr G n Pv St) (S : Addr) (hSf : S ∉ fp) (ys : List Str) (hn : n = ys.length) (hb : ys.length + 1 < scanBound) (hval : ∀ i v, Pv i v → ∃ x k, ys[i]? = some x ∧ v = .str x k) :
    ∀ (d i : Nat) (s : Shared), n - i = d → i ≤ n → St i s → (∃ xs, xs.length ≤ i ∧ (∀ z, z ∈ xs ↔ z ∈ ys.take i) ∧ TSet w s.heap S xs) →
      (∀ s' xs, Moved (S :: wr) G s s' → (∀ z, z ∈ xs ↔ z ∈ ys) → TSet w s'.heap S xs → R (.ok (.ret .none)) s') →
      codeAny (model P w) A (.builtin "set.update.loop" ⟨[.ref S, .ref I], []⟩) R s := by
  have hSw : S ∉ wr := fun h => hSf (W.sub _ h)
  have hsub : ∀ b ∈ wr, b ∈ S :: wr := fun b hb => List.mem_cons_of_mem _ hb
  intro d
  induction d with
  | zero =>
    intro i s hd hi hst ⟨xs, hc, hm, hS⟩ hR
    have e : i = n := by omega
    subst e
    refine codeAny_builtin PyProof.Rows.F.entry_set_update_loop ?_
    rw [Around.under_plainId PyProof.Rows.F.plain_set_update_loop _]
    show wpAny _ A.in1 (pyNext (.ref I) >>= _) _ _ s
    refine wpAny_bind (W.done s _ _ hst fun s' mv => ?_)
    show wpAny _ A.in1 (ret Value.none) _ _ s'
    exact wpAny_pure (hR s' xs (mv.mono hsub) (fun z => by rw [hm z, List.take_of_length_le (by omega)]) (hS.at fun o e => mv.heap S o hSw e))
  | succ d ih =>
    intro i s hd hi hst ⟨xs, hc, hm, hS⟩ hR
    have hlt : i < n := by omega
    refine codeAny_builtin PyProof.Rows.F.entry_set_update_loop ?_
    rw [Around.under_plainId PyProof.Rows.F.plain_set_update_loop _]
    show wpAny _ A.in1 (pyNext (.ref I) >>= _) _ _ s
    refine wpAny_bind (W.item i s _ _ hlt hst fun v s' hP hst' mv => ?_)
    obtain ⟨z, t, hz, rfl⟩ := hval i v hP
    have hS1 : TSet w s'.heap S xs := hS.at fun o e => mv.heap S o hSw e
    show wpAny _ A.in1 (holding [Value.str z t] (setAdd S (.str z t)) >>= _) _ _ s'
    refine wpAny_bind (wpAny_holding ?_)
    unfold setAdd
    refine wpAny_holding ?_
    refine wpAny_bind ((PySem.strKind P w).pyHash (k := z) (strKind_is _ _ _ _) ?_)
    refine tset_add (s := { s' with toks := s'.toks + 1 }) hS1 (by omega) fun h' zs hsb hS2 hm2 hc2 b => ?_
    refine wpAny_pure ⟨plainId_quiet PyProof.Rows.F.plain_set_update_loop _, ih (i + 1) _ (by omega) hlt (W.frame _ s' _ _ hst' (Nat.le_succ _) fun b hb o e => ?_) ⟨zs, by omega, fun y => ?_, hS2⟩ fun s'' us mv2 hm3 hS3 => ?_⟩
    · rw [hsb.2 b (fun h : b = S => hSf (by rw [← h]; exact hb))]; exact e
    · rw [hm2 y, hm y, List.take_add_one, hz]
      simp [List.mem_append]
    · refine hR s'' us (Moved.trans W.gtrans ((mv.mono hsub).then_heap (Nat.le_succ _) fun b o hb e => ?_) mv2) hm3 hS3
      rw [hsb.2 b (fun h : b = S => hb (by rw [h]; exact List.mem_cons_self))]; exact e
set_option maxHeartbeats 8000000 in
theorem call_setT {l : Addr} {items : Array Value} (ys : List Str) {Q : Value → Shared → Prop} (hh : A.handled = none) (hl : s.heap.IsList l items) (hit : StrsAre items.toList ys) (hb : ys.length + 1 < scanBound)
    (h : ∀ (h' : Heap) (tk : Nat) (xs : List Str), TSet w h' s.heap.objs.size xs → (∀ z, z ∈ xs ↔ z ∈ ys) → (∀ b o, s.heap.get? b = some o → h'.get? b = some o) → Q (.ref s.heap.objs.size) { s with heap := h', toks := tk }) :
    wpAny (model P w) A (call (.type "set") [.ref l]) Q E s := by
  have hisz : items.size = ys.length := by
    have q := StrsAre.len_eq hit
    rwa [Array.length_toList] at q
  obtain ⟨c, tl, hmro⟩ := PySem.F.called_set.mro
  have hmade := PySem.F.called_set.made
  have hsub := PySem.F.called_set.sub
  refine wpAny_call (codeAny_of_tree ?_)
  show wpAny _ _ (callAny (.type "set") _) _ _ _
  refine wpAny_pure ⟨Code.quiet_builtin _ (by decide +kernel), codeAny_builtin PySem.F.entry_type_call ?_⟩
  rw [Around.under_plain (weight_type_call_type "set" [.ref l] []) rfl]
  have h1 := PySem.F.called_set.notType
  have h2 := PySem.F.called_set.canCreate
  have hct := PySem.F.typeCall_set_1 (.ref l)
  repeat (any_goals (first | assumption | wp_step))
  refine codeAny_mono (code_set_led1 (.ref l) (E := E) (Q₁ := fun obj s₁ => obj = .ref s.heap.objs.size ∧ s₁ = { s with heap := s.heap.push (noneIn w) }) ⟨rfl, rfl⟩) fun r s₁ hr => ?_
  cases r with
  | error e => exact hr
  | ok fl =>
    cases fl with
    | ret obj =>
      obtain ⟨rfl, rfl⟩ := hr
      have hS : (s.heap.push (noneIn w)).get? s.heap.objs.size = some (noneIn w) := Heap.get?_push_size _ rfl
      have hT : Shared.TypeIs { s with heap := s.heap.push (noneIn w) } (.ref s.heap.objs.size) "set" := ⟨_, hS, rfl⟩
      have hli := PySem.F.called_set.init.lookup
      have hbi := PySem.F.called_set.init.bind (.ref s.heap.objs.size)
      repeat (any_goals (first | assumption | wp_step))
      refine codeAny_mono (codeAny_call_builtin (R := wants (fun r s₂ => r = .none ∧ ∃ h' tk xs, s₂ = { s with heap := h', toks := tk } ∧ TSet w h' s.heap.objs.size xs ∧ (∀ z, z ∈ xs ↔ z ∈ ys) ∧
          (∀ b o, s.heap.get? b = some o → h'.get? b = some o)) E) PySem.F.called_set.init.plain PySem.F.entry_set_init (check_set_init_1 hT ?_)) fun r₂ s₂ hr₂ => ?_
      · obtain ⟨⟨ocls, odict, odata, oslots⟩, hol, hcl, nl, hdl⟩ := hl
        simp only at hcl hdl
        subst hcl; subst hdl
        have hol' : (s.heap.push (noneIn w)).get? l = some { cls := .type "list", dict := odict, data := .seq items nl, slots := oslots } := Heap.get?_push_of_some _ hol
        have hsls := PySem.F.sub_list_set
        have hslf := PySem.F.sub_list_frozenset
        have hne : (Value.type "list" == Value.type "dict") = false := by decide
        have hl1 : (s.heap.push (noneIn w)).IsList l items := ⟨_, hol', rfl, nl, rfl⟩
        unfold Builtin.«set.__init__» noKeywords Builtin.Frozenset.updateFrom
        generalize hPI : pyIter = PI
        wp_walk
        subst hPI
        refine wpAny_pyIter_list hl1 ?_
        refine wpAny_bind (wpAny_runValue ?_)
        have hlS : l < s.heap.objs.size := Heap.lt_size hol
        have hh3 : A.in1.in1.in1.handled = none := by simp [hh]
        have hz1 : (s.heap.push (noneIn w)).objs.size = s.heap.objs.size + 1 := Heap.size_push ..
        have hneI : l ≠ (s.heap.push (noneIn w)).objs.size := by rw [hz1]; exact Nat.ne_of_lt (Nat.lt_succ_of_lt hlS)
        have hSf : s.heap.objs.size ∉ [(s.heap.push (noneIn w)).objs.size, l] := by
          rw [hz1]
          simp only [List.mem_cons, List.not_mem_nil, or_false, not_or]
          exact ⟨Nat.ne_of_lt (Nat.lt_succ_self _), Nat.ne_of_gt hlS⟩
        have hval : ∀ (i : Nat) (v : Value), items[i]? = some v → ∃ x k, ys[i]? = some x ∧ v = .str x k := fun i v hv => by
          obtain ⟨y, t, e1, e2⟩ := hit.item i v (by rw [Array.getElem?_toList]; exact hv)
          exact ⟨y, t, e2, e1⟩
        refine tset_fill ((Walks.list hh3 _ l hneI items).toS) s.heap.objs.size hSf ys hisz hb hval (items.size - 0) 0 _ (by omega) (Nat.zero_le _) ⟨⟨_, Heap.get?_push_size _ rfl, rfl, rfl⟩, (hl1.push _)⟩ ?hS0 ?hR
        case hS0 =>
          refine ⟨[], Nat.zero_le _, fun z => by simp, tset_new ?_⟩
          exact Heap.get?_push_of_some _ hS
        case hR =>
          intro s' xs hm hmem hS'
          obtain ⟨h', g2, d', tk', os'⟩ := s'
          have eg : g2 = s.gens := hm.gens
          have ed : d' = s.drawn := hm.drawn
          have eo : os' = s.os := hm.os
          subst eg; subst ed; subst eo
          show wpAny _ _ _ _ _ _
          refine wpAny_pure ?_
          show wpAny _ _ (ret Value.none) _ _ _
          refine wpAny_pure ⟨rfl, h', tk', xs, rfl, hS', hmem, fun b o e => ?_⟩
          have hb0 : b < s.heap.objs.size := Heap.lt_size e
          refine hm.heap b o ?_ (Heap.get?_push_of_some _ (Heap.get?_push_of_some _ e))
          rw [hz1]
          simp only [List.mem_cons, List.not_mem_nil, or_false, not_or]
          exact ⟨Nat.ne_of_lt hb0, Nat.ne_of_lt (Nat.lt_succ_of_lt hb0)⟩
      · cases r₂ with
        | error e => exact hr₂
        | ok fl₂ =>
          cases fl₂ with
          | ret r =>
            obtain ⟨rfl, h', tk, xs, rfl, hS', hmem, hk'⟩ := hr₂
            repeat (any_goals (first | assumption | wp_step))
            exact h _ _ _ hS' hmem hk'
          | _ => exact hr₂.elim
    | _ => exact hr.elim
end
def rSetT (K : PySem.W.Frag) (w : World) : List V → Hp → VK → Prop := fun vs H Q => ∃ (a : Addr) (ys : List Str), vs = [V.ref a] ∧ SqL K H a (ys.map V.str) ∧ ys.length ≤ 4000 ∧
  ∀ (xs : List Str) (p : Addr), xs.Nodup → (∀ z, z ∈ xs ↔ z ∈ ys) → H p = none → Q (.ref p) (upd H p (SetS w p xs))
def rSortSetT (w : World) : List V → Hp → VK → Prop := fun vs H Q => ∃ (a : Addr) (xs : List Str), vs = [V.ref a] ∧ H a = some (SetS w a xs) ∧
  ∀ (ys : List Str) (p : Addr), ys.Perm xs → sortedS ys = true → H p = none → Q (.ref p) (upd H p (.lst (ys.map V.str)))
def rLenSetT (w : World) : List V → Hp → VK → Prop := fun vs H Q => ∃ (a : Addr) (xs : List Str), vs = [V.ref a] ∧ H a = some (SetS w a xs) ∧ Q (.int (xs.length : Int)) H
section
variable {X : Cx}
theorem cr_setT (hc : X.calm = true) : CallR X (.type "set") (rSetT X.K X.w) := by
  intro pins s σ H vs us Q I r h
  obtain ⟨a, ys, rfl, hs, hz, q⟩ := h
  obtain ⟨its, rv, pl, _⟩ := I.list hs
  rw [Vals.ref1 r]
  refine call_setT ys (I.ok.hd hc) pl.isList (by simpa using strsAre_of rv) (Nat.lt_of_le_of_lt (Nat.succ_le_succ hz) (by decide)) fun h' tk xs hS hm hk => ?_
  have nd : xs.Nodup := by
    obtain ⟨_, _, _, _, _, _, _, _, _, nd, _⟩ := hS
    exact nd
  exact ⟨.ref s.heap.objs.size, upd H s.heap.objs.size (SetS X.w s.heap.objs.size xs), I.laid (t' := tk) hk (Nat.le_refl _) (sets_new hS), rfl, q xs _ nd hm (I.hok.fresh (Nat.le_refl _))⟩
theorem cr_sortSetT (hc : X.calm = true) : CallR X (.builtin "sorted") (rSortSetT X.w) := by
  intro pins s σ H vs us Q I r h
  obtain ⟨a, xs, rfl, ha, q⟩ := h
  obtain ⟨o, es, ep, t, ho, hex, hd, g, pm, nd, hb, hf, hr, hl⟩ := sets_get I ha
  rw [Vals.ref1 r]
  refine Calls.call_function_entry PyProof.Rows.kind_sorted PyProof.Rows.plain_sorted PyProof.Rows.entry_sorted (PyProof.Rows.args_sorted1 _) ?_
  unfold Builtin.«sorted»
  refine wpAny_bind (m := checkCount "sorted" 1 1 _) (wpAny_pure ?_)
  refine wpAny_bind (collect_set (A := X.A.in1) (I.ok.hd hc) ⟨o, ho, hex.1, hd⟩ hf hb hr hl fun s1 vs k1 hz g1 o1 pv => ?_)
  have hI : StrsAre vs (vs.map tx) := strsAre_map _ fun v hv => by
    obtain ⟨e, he, e1⟩ := List.mem_map.mp (pv.mem_iff.mp hv)
    obtain ⟨x, k, e2, _⟩ := g e he
    exact ⟨x, k, by rw [← e1]; exact e2⟩
  have pk : (vs.map tx).Perm xs := by
    have p2 := pv.map tx
    rw [List.map_map] at p2
    exact p2.trans pm
  have hvl : vs.length ≤ sizeLine := by
    rw [pv.length_eq, List.length_map, Array.length_toList]
    exact fits_of_scanBound hb
  refine wpAny_bind (wpAny_newList ?_ hvl)
  have hoL : (s1.heap.push (seqObj "list" vs.toArray 0)).get? s1.heap.objs.size = some (seqObj "list" vs.toArray 0) := Heap.get?_push_size _ rfl
  refine wpAny_bind (wpAny_holding (wpAny_call_entry PyProof.Rows.slot_list_sort ⟨_, hoL, rfl⟩ PyProof.Rows.entry_list_sort
    (SrtO.list_sort_ord swoT hoL hvl (fun h2 => t_able hI h2) fun out c1 c2 => ⟨_, rfl, ?_⟩) (PyProof.Rows.args_list_sort _)))
  obtain ⟨j1, j2, j3⟩ := t_out hI c1 c2
  obtain ⟨e', he'⟩ := PyProof.Rows.sortedHeap_at (vs := vs) (out := out.toArray) hoL
  have hn : H s1.heap.objs.size = none := I.hok.fresh hz
  have hlen : ((out.map tx).map V.str).length ≤ sizeLine := by
    rw [List.length_map, (j2.trans pk).length_eq, ← pm.length_eq, List.length_map, Array.length_toList]
    exact fits_of_scanBound hb
  have keep : ∀ b u, s.heap.get? b = some u → (sortedHeap (s1.heap.push (seqObj "list" vs.toArray 0)) s1.heap.objs.size vs out.toArray).get? b = some u := fun b u e => by
    have e1 := k1 b u e
    have hlt := Heap.lt_size e1
    rw [sortedHeap_old (Nat.ne_of_lt hlt) (by rw [size_push']; exact Nat.lt_succ_of_lt hlt)]
    exact Heap.get?_push_of_some _ e1
  refine wpAny_pure ⟨_, rfl, .ref s1.heap.objs.size, upd H s1.heap.objs.size (.lst ((out.map tx).map V.str)), ?_, rfl, q _ _ (j2.trans pk) j3 hn⟩
  exact I.call' (ch := []) o1 (Un.laid keep hz hn) (I.hok.laid keep hz ⟨hlen, out, e', vals_of_strs j1, he'⟩) (by rw [show _ = s.gens from g1]; exact I.bare) (fun _ z => nomatch z)
theorem cr_lenSetT : CallR X (.builtin "len") (rLenSetT X.w) := by
  intro pins s σ H vs us Q I r h
  obtain ⟨a, xs, rfl, ha, q⟩ := h
  obtain ⟨o, es, ep, t, ho, hex, hd, g, pm, nd, hb, hf, hr, hl⟩ := sets_get I ha
  rw [Vals.ref1 r]
  have hn : es.size = xs.length := by rw [← pm.length_eq, List.length_map, Array.length_toList]
  have hb2 : es.size < 4096 := hb
  exact call_len_set ho hex hd hf (by omega) ⟨.int xs.length, H, I.tok _, ⟨_, by rw [hn]⟩, q⟩
end
/-! ### the same, told of texts of signs 0 and 1 -/
section
variable {X : Cx} {K : PySem.W.Frag} {w : World} {H : Hp} {Q : VK}
theorem cSortT (h : X.K = K) : CallR X (.builtin "sorted") (rSortT K) := h ▸ cr_sortT
theorem cSetT (h : X.K = K) (hw : X.w = w) (hc : X.calm = true) : CallR X (.type "set") (rSetT K w) := by
  subst h hw
  exact cr_setT hc
theorem cSortSetT (hw : X.w = w) (hc : X.calm = true) : CallR X (.builtin "sorted") (rSortSetT w) := by
  subst hw
  exact cr_sortSetT hc
theorem cLenSetT (hw : X.w = w) : CallR X (.builtin "len") (rLenSetT w) := by
  subst hw
  exact cr_lenSetT
/-- rising, not strictly -/
def RiseE (ls : List (List Bool)) : Prop := ls.Pairwise fun a b => blt b a = false
theorem sortedS_rise {ls : List (List Bool)} (h : PyProof.Rows.sortedS (ls.map B) = true) : RiseE ls := by
  cases ls with
  | nil => exact List.Pairwise.nil
  | cons a l => exact risingS_pw l a h
theorem w_sortT {a : Addr} {ls : List (List Bool)} (h : SqL K H a (bvs ls)) (k : ∀ (ms : List (List Bool)) (p : Addr) (H' : Hp), ms.Perm ls → RiseE ms → H p = none → Ext H H' → H' p = some (.lst (bvs ms)) → Q (.ref p) H') : rSortT K [.ref a] H Q := by
  refine ⟨a, ls.map B, rfl, by rw [← bvs_strs]; exact h, fun ys p hp hs hn => ?_⟩
  obtain ⟨ms, rfl, hm⟩ := perm_B hp
  exact k ms p _ hm (sortedS_rise hs) hn (Ext.new hn) (by rw [upd_same, bvs_strs])
theorem w_setT {a : Addr} {ls : List (List Bool)} (h : SqL K H a (bvs ls)) (hz : ls.length ≤ 4000) (k : ∀ (ms : List (List Bool)) (p : Addr) (H' : Hp), ms.Nodup → (∀ z, z ∈ ms ↔ z ∈ ls) → H p = none → Ext H H' → H' p = some (SetS w p (ms.map B)) → Q (.ref p) H') : rSetT K w [.ref a] H Q := by
  refine ⟨a, ls.map B, rfl, by rw [← bvs_strs]; exact h, by rw [List.length_map]; exact hz, fun xs p nd hm hn => ?_⟩
  have hx : ∀ x ∈ xs, ∃ l, x = B l := fun x hx => by
    obtain ⟨l, _, e⟩ := List.mem_map.mp ((hm x).mp hx)
    exact ⟨l, e.symm⟩
  obtain ⟨ms, rfl⟩ : ∃ ms : List (List Bool), xs = ms.map B := by
    clear nd hm
    induction xs with
    | nil => exact ⟨[], rfl⟩
    | cons x xs ih =>
      obtain ⟨l, rfl⟩ := hx x List.mem_cons_self
      obtain ⟨ms, rfl⟩ := ih fun y hy => hx y (List.mem_cons_of_mem _ hy)
      exact ⟨l :: ms, rfl⟩
  refine k ms p _ (List.Pairwise.of_map B (fun a b h e => h (by rw [e])) nd) (fun z => ?_) hn (Ext.new hn) upd_same
  have := hm (B z)
  rw [List.mem_map, List.mem_map] at this
  constructor
  · intro hz
    obtain ⟨y, hy, e⟩ := this.mp ⟨z, hz, rfl⟩
    rw [← B_inj e]
    exact hy
  · intro hz
    obtain ⟨y, hy, e⟩ := this.mpr ⟨z, hz, rfl⟩
    rw [← B_inj e]
    exact hy
theorem w_sortSetT {a : Addr} {ms : List (List Bool)} (h : H a = some (SetS w a (ms.map B))) (nd : ms.Nodup) (k : ∀ (us : List (List Bool)) (p : Addr) (H' : Hp), us.Perm ms → Rise us → H p = none → Ext H H' → H' p = some (.lst (bvs us)) → Q (.ref p) H') : rSortSetT w [.ref a] H Q := by
  refine ⟨a, ms.map B, rfl, h, fun ys p hp hs hn => ?_⟩
  obtain ⟨us, rfl, hm⟩ := perm_B hp
  exact k us p _ hm (rise_of hs (hm.nodup_iff.mpr nd)) hn (Ext.new hn) (by rw [upd_same, bvs_strs])
theorem w_lenSetT {a : Addr} {ms : List (List Bool)} (h : H a = some (SetS w a (ms.map B))) (k : Q (.int (ms.length : Int)) H) : rLenSetT w [.ref a] H Q := ⟨a, ms.map B, rfl, h, by rw [List.length_map]; exact k⟩
theorem nsh_set {a : Addr} {xs : List Str} : ¬ RowSh (SetS w a xs) := nsh_ext
end
end Lu
end

section
/-! sorted keys of a dict, any number; what rounds tell of a still wire -/
namespace Lw
open PySem L2
theorem cSortDT {X : Cx} (hc : X.calm = true) : CallR X (.builtin "sorted") Lu.rSortDT := Lu.cr_sortDT hc
theorem w_sortDT {H : Hp} {Q : VK} {α : Type} {g : α → V} {ts : List (Bits × α)} {d : Addr} (h : Rd H d (.dK (tK g ts))) (hn : ts.length ≤ 100000) (nd : (ts.map (·.1)).Nodup)
    (k : ∀ ms p H', ms.Perm (ts.map (·.1)) → Rise ms → H p = none → Ext H H' → H' p = some (.lst (bvs ms)) → Q (.ref p) H') : Lu.rSortDT [.ref d] H Q := by
  refine ⟨d, _, (ts.map (·.1)).map B, rfl, h, tK_keys, by simp; exact hn, fun ys p hp hs hn => ?_⟩
  obtain ⟨ms, rfl, hm⟩ := perm_B hp
  exact k ms p _ hm (rise_of hs (hm.nodup_iff.mpr nd)) hn (Ext.new hn) (by rw [upd_same, bvs_strs])
/-- one more True in a dict of these -/
theorem liK_put (ks : List Bits) (u : Bits) : ∃ ks2, aput (liK ks) u true = liK ks2 ∧ (∀ b, b ∈ ks2 ↔ b ∈ ks ∨ b = u) ∧ (ks.Nodup → ks2.Nodup) ∧ ks2.length ≤ ks.length + 1 := by
  by_cases h : u ∈ ks
  · exact ⟨ks, liK_old h, fun b => ⟨.inl, fun q => q.elim id fun e => e ▸ h⟩, id, Nat.le_succ _⟩
  · refine ⟨ks ++ [u], liK_new h, fun b => by simp, fun nd => List.nodup_append.mpr ⟨nd, by simp, fun x hx y hy e => ?_⟩, by simp⟩
    rw [List.mem_singleton.mp hy] at e
    exact h (e ▸ hx)
/-! ### rounds on a still wire -/
theorem low_seg : ∀ {ds ns : List Bits}, Rise ds → Rise ns → (∀ x ∈ ns, x ∈ ds) → (∀ y ∈ ds, y ∈ ns ∨ ∀ x ∈ ns, blt x y = true) → ns = ds.take ns.length
  | ds, [], _, _, _, _ => by simp
  | [], n :: ns, _, _, h, _ => absurd (h n List.mem_cons_self) (by simp)
  | d :: ds, n :: ns, hd, hn, hs, hl => by
    obtain ⟨d1, d2⟩ := List.pairwise_cons.mp hd
    obtain ⟨n1, n2⟩ := List.pairwise_cons.mp hn
    have e : d = n := by
      rcases List.mem_cons.mp (hs n List.mem_cons_self) with h | h
      · exact h.symm
      · have h1 := d1 n h
        rcases hl d List.mem_cons_self with q | q
        · rcases List.mem_cons.mp q with q | q
          · exact q
          · have := n1 d q
            rw [blt_asymm h1] at this
            cases this
        · have := q n List.mem_cons_self
          rw [blt_asymm h1] at this
          cases this
    subst e
    rw [List.length_cons, List.take_succ_cons]
    congr 1
    have ndd := (List.nodup_cons.mp (rise_nodup hd)).1
    have ndn := (List.nodup_cons.mp (rise_nodup hn)).1
    refine low_seg d2 n2 (fun x hx => ?_) fun y hy => ?_
    · rcases List.mem_cons.mp (hs x (List.mem_cons_of_mem _ hx)) with h | h
      · exact absurd (h ▸ hx) ndn
      · exact h
    · rcases hl y (List.mem_cons_of_mem _ hy) with q | q
      · rcases List.mem_cons.mp q with q | q
        · exact absurd (q ▸ hy) ndd
        · exact .inl q
      · exact .inr fun x hx => q x (List.mem_cons_of_mem _ hx)
section
variable {L : List Bits} {c : Bool} {M : WM} {N : KM}
/-- what was found so far of those that answer, rising -/
theorem KS.seg {due : List Bits} (h : KS L c M N) (hd : Rise due) (hp : due.Perm L) : N.names = due.take N.names.length := by
  refine low_seg hd h.ki.nr (fun x hx => hp.mem_iff.mpr (h.names x hx)) fun y hy => ?_
  have hyL := hp.mem_iff.mp hy
  rcases h.kw.a y (.inr ⟨y, hyL, List.prefix_refl _⟩) with q | ⟨g, hg, hp⟩
  · exact .inl (q.2 (by rw [h.len y hyL]; exact Nat.lt_irrefl _))
  · exact .inr fun x hx => ((h.ki.nn x hx g hg).pre hp).blt
/-- somebody answers at all that is pending -/
def Ans (L : List Bits) (N : KM) : Prop := ∀ g ∈ N.pend, ∃ x ∈ L, g <+: x
theorem Ans.kstep (h : KS L c M N) (ho : N.over = false) (a : Ans L N) : Ans L (kstep M N).2.1 ∧ (kstep M N).2.2 ≠ .lost := by
  cases hs : N.said with
  | none =>
    have hr : N.rest ≠ [] := fun e => by simp [KM.over, hs, e] at ho
    refine ⟨fun g hg => ?_, fun hl => ?_⟩
    · rw [kstep_none hs] at hg
      unfold stepB at hg
      rcases ended_pend hg with hg | hg
      · exact a g (by rw [pend_none hs]; exact (List.dropLast_sublist _).subset hg)
      · exact a g (by rw [pend_none hs, hg]; exact getLastD_mem hr)
    · rw [kstep_none hs] at hl
      unfold stepB at hl
      exact ended_lost hl
  | some b =>
    obtain ⟨x, hx, hbx⟩ := a b (by rw [pend_said hs]; simp)
    have hbl := (h.ki.ps b hs).1
    have hxl := h.len x hx
    have hlis := h.kw.l b hs x hx hbx
    obtain ⟨t, ht⟩ : ∃ t, lookZ M.lis b t = true := by
      obtain ⟨s, rfl⟩ := hbx
      cases s with
      | nil => simp at hxl; omega
      | cons t s => exact ⟨t, lookZ_ex.mpr ⟨_, hlis, ⟨s, by simp⟩⟩⟩
    have hin : ∀ t, lookZ M.lis b t = true → ∃ x ∈ L, b ++ [t] <+: x := fun t ht => by
      obtain ⟨l, hl, hp⟩ := lookZ_ex.mp ht
      exact ⟨l, h.ll (by rw [hs]; exact fun q => nomatch q) l hl, hp⟩
    have hzo : ¬ (!lookZ M.lis b false && !lookZ M.lis b true) = true := fun q => by
      rw [Bool.and_eq_true] at q
      cases t
      · rw [ht] at q; exact absurd q.1 (by decide)
      · rw [ht] at q; exact absurd q.2 (by decide)
    have hc : lookZ M.lis b (!lookZ M.lis b false) = true := by
      cases e : lookZ M.lis b false with
      | true => exact e
      | false =>
        cases t
        · rw [e] at ht; cases ht
        · exact ht
    refine ⟨fun g hg => ?_, fun hl => ?_⟩
    · rw [kstep_some hs] at hg
      unfold stepL at hg
      simp only at hg
      rw [if_neg hzo] at hg
      rcases ended_pend hg with hg | hg
      · split at hg
        · rename_i hb2
          rcases List.mem_append.mp hg with hg | hg
          · exact a g (by rw [pend_said hs]; exact List.mem_append_left _ hg)
          · rw [List.mem_singleton.mp hg]
            exact hin true (Bool.and_eq_true_iff.mp hb2).2
        · exact a g (by rw [pend_said hs]; exact List.mem_append_left _ hg)
      · rw [hg]
        exact hin _ hc
    · rw [kstep_some hs] at hl
      unfold stepL at hl
      simp only at hl
      rw [if_neg hzo] at hl
      exact ended_lost hl
theorem Ans.round {j : Nat} {M1 : WM} {N1 : KM} {r : Res} (h : KS L c M N) (ho : N.over = false) (a : Ans L N) (t : KRound j M N M1 N1 r) : Ans L N1 ∧ r ≠ .lost := by
  induction t with
  | last h2 => exact Ans.kstep h ho a
  | more h2 t ih => exact ih (h.kstep ho) (kstep_gap h.kp h2).2 (Ans.kstep h ho a).1
theorem Ans.new {c : Bool} (h : L ≠ []) : Ans L ⟨c, [[]], none, [], []⟩ := fun g hg => by
  have hg : g = [] := by simpa [KM.pend] using hg
  obtain ⟨x, l, e⟩ := List.exists_cons_of_ne_nil h
  exact ⟨x, by rw [e]; exact List.mem_cons_self, by rw [hg]; exact List.nil_prefix⟩
theorem KD.sround {j : Nat} {D : List Bits} {M1 : WM} {N1 : KM} {r : Res} (d : KD (Beg L) D N) (h : KS L c M N) (ho : N.over = false) (t : KRound j M N M1 N1 r) : ∃ D', KD (Beg L) D' N1 ∧ D'.length = D.length + 1 := by
  induction t generalizing D with
  | last h2 =>
    rename_i M N
    have k2 := (h.kstep ho).ki
    rw [(kstep_width M N).1] at k2
    obtain ⟨D', a, b⟩ := d.kstep ho h.ki k2
    rw [if_neg h2] at b
    exact ⟨D', a, b⟩
  | more h2 t ih =>
    rename_i n M M' N N' r
    have k2 := (h.kstep ho).ki
    rw [(kstep_width M N).1] at k2
    obtain ⟨D', a, b⟩ := d.kstep ho h.ki k2
    rw [if_pos h2] at b
    obtain ⟨D2, e1, e2⟩ := ih a (h.kstep ho) (kstep_gap h.kp h2).2
    exact ⟨D2, e1, by omega⟩
end
/-- between two rounds of a walk on a still wire: m0 looks ahead of it, j rounds so far -/
structure WS (due : List Bits) (c : Bool) (M0 : WM) (M : WM) (N : KM) (j : Nat) : Prop where
  ks : KS (kindL M0 c) c M N
  sn : N.said = none
  th : M.things = M0.things
  wd : M.width = M0.width
  mn : M.many = M0.many + N.seen.length
  kd : ∃ D, KD (Beg (kindL M0 c)) D N ∧ D.length = j
  an : due ≠ [] → Ans (kindL M0 c) N ∧ N.names.length = j
  nl : due = [] → N.names = []
  j0 : j = 0 → N.rest ≠ []
section
variable {due : List Bits} {c : Bool} {M0 M : WM} {N : KM} {j : Nat}
theorem WS.new (ok : WOk M0) (hp : due.Perm (kindL M0 c)) : WS due c M0 M0 ⟨c, [[]], none, [], []⟩ 0 where
  ks := KS.new ok
  sn := rfl
  th := rfl
  wd := rfl
  mn := rfl
  kd := ⟨[], KD.new, rfl⟩
  an := fun h => ⟨Ans.new fun e => h (by
    have := hp.length_eq
    rw [e] at this
    exact List.length_eq_zero_iff.mp this), rfl⟩
  nl := fun _ => rfl
  j0 := fun _ => by simp
theorem WS.le (h : WS due c M0 M N j) (hp : due.Perm (kindL M0 c)) : j + N.rest.length ≤ max 1 due.length := by
  obtain ⟨D, d1, d2⟩ := h.kd
  have := d1.le h.ks.ki (fun b hb => hb)
  rw [pend_none h.sn, d2, ← hp.length_eq] at this
  exact this
theorem WS.round {i : Nat} {M1 : WM} {N1 : KM} {r : Res} (h : WS due c M0 M N j) (hd : Rise due) (hp : due.Perm (kindL M0 c)) (ho : N.rest ≠ []) (t : KRound i M N M1 N1 r) :
    WS due c M0 M1 N1 (j + 1) ∧ (if due = [] then r = .lost else ∃ x, due[j]? = some x ∧ r = .found x) := by
  have hov : N.over = false := by simp [KM.over, h.sn, ho]
  have k1 := h.ks.round hov t
  obtain ⟨D, d1, d2⟩ := h.kd
  obtain ⟨D2, e1, e2⟩ := d1.sround h.ks hov t
  obtain ⟨_, _, _, f1, f2, f3⟩ := kround_sz t
  have hm := kround_many t
  have hmn := h.mn
  have hn := kround_names t
  have hsn := kround_done t
  have hnl : due = [] → N1.names = [] := fun e => List.eq_nil_iff_forall_not_mem.mpr fun x hx => by
    have := hp.mem_iff.mpr (k1.names x hx)
    rw [e] at this
    cases this
  have han : due ≠ [] → Ans (kindL M0 c) N1 ∧ r ≠ .lost := fun e => Ans.round h.ks hov (h.an e).1 t
  have hfound : due ≠ [] → ∃ x, r = .found x := fun e => by
    cases r with
    | none => exact absurd rfl f3
    | lost => exact absurd rfl (han e).2
    | found x => exact ⟨x, rfl⟩
  refine ⟨⟨k1, hsn, f2.trans h.th, f1.trans h.wd, by omega, ⟨D2, e1, by omega⟩, fun e => ⟨(han e).1, ?_⟩, hnl, fun e => by omega⟩, ?_⟩
  · obtain ⟨x, rfl⟩ := hfound e
    rw [hn]
    simp [resN, (h.an e).2]
  · by_cases e : due = []
    · rw [if_pos e]
      cases r with
      | none => exact absurd rfl f3
      | lost => rfl
      | found x =>
        have := hnl e
        rw [hn] at this
        simp [resN] at this
    · rw [if_neg e]
      obtain ⟨x, rfl⟩ := hfound e
      refine ⟨x, ?_, rfl⟩
      have h1 := k1.seg hd hp
      have h2 : N1.names.length = j + 1 := by rw [hn]; simp [resN, (h.an e).2]
      have h3 : N1.names[j]? = some x := by
        rw [hn, List.getElem?_append_right (by rw [(h.an e).2]; exact Nat.le_refl _), (h.an e).2]
        simp [resN]
      rw [h1, h2, List.getElem?_take] at h3
      simpa using h3
/-- where it has nowhere to go -/
theorem WS.still (h : WS due c M0 M N j) (hd : Rise due) (hp : due.Perm (kindL M0 c)) (hz : due.length ≤ 40) (hr : N.rest = []) : Still (kindL M0 c) M0 M N ∧ N.names = due ∧ j = max 1 due.length := by
  have ho : N.over = true := over_iff.mpr ⟨h.sn, hr⟩
  have S := h.ks.still (j := 0) ho (by rw [← hp.length_eq]; exact hz) h.th h.wd h.mn
  have hnm := S.sorted hd hp
  refine ⟨S, hnm, ?_⟩
  have hle := h.le hp
  rw [hr] at hle
  by_cases e : due = []
  · have hj : j ≠ 0 := fun e => h.j0 e hr
    rw [e] at hle ⊢
    simp at hle ⊢
    omega
  · have h1 := (h.an e).2
    rw [hnm] at h1
    have : 0 < due.length := List.length_pos_iff.mpr e
    omega
end
theorem ext_news {H H1 H' : Hp} {G G' : List Addr} (fr : ∀ b ∈ G, H b = none) (e : Ext H H1) (s : Step G G' H1 H') : Ext H H' where
  st := fun b o hb n => s.st b o (e.st b o hb n) (fun q => by rw [fr b q] at hb; cases hb) n
  rw_ := fun b x i m z hb hi => by
    obtain ⟨i', m', z', h1, h2⟩ := e.rw_ b x i m z hb hi
    exact s.rw_ b x i' m' z' h1 (fun q => by rw [fr b q] at hb; cases hb) h2
  th := fun b o hb => by
    obtain ⟨o1, h1⟩ := e.th b o hb
    exact s.th b o1 h1
theorem mem_put1 {M : WM} {x y : Bits} (hx : x ∈ M.keys) : y ∈ kindL (M.set x true) false ↔ y ∈ kindL M false ∨ y = x := by
  rw [mem_kind0, mem_kind0]
  show (y, true) ∈ aput M.things x true ↔ _
  unfold aput
  rw [if_pos (show x ∈ M.things.map (·.1) from hx), List.mem_map]
  constructor
  · rintro ⟨⟨z, u⟩, h, q⟩
    by_cases c : z = x
    · rw [if_pos c] at q
      have := (Prod.mk.inj q).1
      exact .inr (this.symm.trans c)
    · rw [if_neg c] at q
      cases q
      exact .inl h
  · rintro (h | h)
    · by_cases c : y = x
      · exact ⟨(y, true), h, by rw [if_pos c]⟩
      · exact ⟨(y, true), h, if_neg c⟩
    · obtain ⟨⟨z, u⟩, hz, e⟩ := List.mem_map.mp hx
      have e : z = x := e
      exact ⟨(z, u), hz, by rw [if_pos e, h, e]⟩
theorem kindL_nodup {M : WM} (ok : WOk M) (c : Bool) : (kindL M c).Nodup := ok.nd.sublist (begin_sub M c)
theorem KS.sz {L : List Bits} {c : Bool} {M : WM} {N : KM} (h : KS L c M N) (hz : L.length ≤ 40) : N.names.length ≤ 40 ∧ N.seen.length ≤ 441 := by
  refine ⟨Nat.le_trans (nodup_le _ L (rise_nodup h.ki.nr) h.names) hz, ?_⟩
  have h1 := nodup_le (N.seen.map (·.1)) (begs M.width L) h.ki.sd fun b hb => by
    obtain ⟨e, he, rfl⟩ := List.mem_map.mp hb
    obtain ⟨a1, a2⟩ := h.ki.pe e he
    exact beg_mem a2 a1
  rw [List.length_map, begs_len] at h1
  have h2 : L.length * (M.width - 1) ≤ 40 * 11 := Nat.mul_le_mul hz (by have := h.ok.w2; omega)
  omega
theorem perm_mem {a b : List Bits} (h1 : a.Nodup) (h2 : b.Nodup) (h : ∀ x, x ∈ a ↔ x ∈ b) : a.Perm b := (List.perm_ext_iff_of_nodup h1 h2).mpr h
theorem riseE_rise {ls : List Bits} (h : Lu.RiseE ls) (n : ls.Nodup) : Rise ls := by
  have := List.pairwise_and_iff.mpr ⟨h, n⟩
  exact this.imp fun {a b} ⟨h1, h2⟩ => blt_of_not h1 h2
theorem kindL_things {M M' : WM} (e : M'.things = M.things) (c : Bool) : kindL M' c = kindL M c := by unfold kindL; rw [e]
/-- three pairs of a kind and a list -/
def oKinds (z t1 t2 t3 p q : Addr) : Own where
  S := fun H => H z = some (.lst [.ref t1, .ref t2, .ref t3]) ∧ H t1 = some (.tup [.str "all", .ref p]) ∧ H t2 = some (.tup [.str "alarm", .ref q]) ∧ H t3 = some (.tup [.str "all", .ref p])
  F := [z, t1, t2, t3]
  loc := fun h s => ⟨h z (by simp) _ s.1, h t1 (by simp) _ s.2.1, h t2 (by simp) _ s.2.2.1, h t3 (by simp) _ s.2.2.2⟩
  al := fun s b hb => by
    simp only [List.mem_cons, List.not_mem_nil, or_false] at hb
    rcases hb with rfl | rfl | rfl | rfl
    · exact ⟨_, s.1, own_refs [t1, t2, t3]⟩
    · exact ⟨_, s.2.1, own_tup⟩
    · exact ⟨_, s.2.2.1, own_tup⟩
    · exact ⟨_, s.2.2.2, own_tup⟩
theorem dq_two {K : PySem.W.Frag} {H : Hp} {z pa pb : Addr} {la lb : List Bits} (hz : H z = some (.lst [.ref pa, .ref pb])) (ha : H pa = some (.lst (bvs la))) (hb : H pb = some (.lst (bvs lb))) (h1 : la.length ≤ 100000) (h2 : lb.length ≤ 100000) :
    Dq K H (.ref z) (.list [.list (la.map db), .list (lb.map db)]) := .lst (SqL.of hz) (nsh_ne4 (show (2 : Nat) ≠ 4 by decide)) (by show 2 ≤ 100000; decide) (.cons (dq_bits (SqL.of ha) h1) (.cons (dq_bits (SqL.of hb) h2) .nil))
theorem dpt_two (la lb : List Bits) : PyData.depth (.list [.list (la.map db), .list (lb.map db)]) < 7 := Nat.lt_of_le_of_lt (dpt_list (n := 1) fun x hx => by
  simp only [List.mem_cons, List.not_mem_nil, or_false] at hx
  rcases hx with rfl | rfl
  · exact dpt_dbs _
  · exact dpt_dbs _) (by decide)
end Lw
end

section
/-! lambdas as values: made, kept in lists, handed to a def that calls them; one parameter with the default 0 -/
namespace Lw
open PySem PySem.Spec PyProof.Rows L2 LamX
/-- captured names, globals, parameters of its own that the maker (whose names are N) does not have -/
structure LamD (N : List Str) (sc scope : Scope) : Prop where
  kind : scope.kind = .function
  co : scope.isCoroutine = false
  gen : scope.isGenerator = false
  nocell : ∀ y ∈ scope.names, y.2 ≠ .cell
  own : ∀ y ∈ scope.names, y.2 = .local → y.1 ∉ N
  free : ∀ y ∈ scope.names, y.2 = .free → sc.names.lookup y.1 = some .cell ∨ sc.names.lookup y.1 = some .free
def lamDB (N : List Str) (sc scope : Scope) : Bool :=
  decide (scope.kind = .function) && !scope.isCoroutine && !scope.isGenerator && scope.names.all fun y => !decide (y.2 = .cell) && (!decide (y.2 = .local) || !decide (y.1 ∈ N)) && (!decide (y.2 = .free) || decide (sc.names.lookup y.1 = some .cell) || decide (sc.names.lookup y.1 = some .free))
theorem lamD_by {N : List Str} {sc scope : Scope} (h : lamDB N sc scope = true) : LamD N sc scope := by
  unfold lamDB at h
  simp only [Bool.and_eq_true, Bool.or_eq_true, Bool.not_eq_true', decide_eq_true_eq, decide_eq_false_iff_not, List.all_eq_true] at h
  obtain ⟨⟨⟨a1, a2⟩, a3⟩, a4⟩ := h
  exact ⟨a1, a2, a3, fun y hy => (a4 y hy).1.1, fun y hy e => (a4 y hy).1.2.resolve_left fun z => z e, fun y hy e => by
    rcases (a4 y hy).2 with (z | z) | z
    · exact (z e).elim
    · exact .inl z
    · exact .inr z⟩
theorem LamD.has {X : Cx} {scope : Scope} (L : LamD X.N X.env.scope scope) (ok : X.Ok) : ∀ y ∈ scope.names, y.2 = .free → ∃ c, X.env.cells.lookup y.1 = some c := fun y hy e => (L.free y hy e).elim (fun z => ok.has _ (.inl z)) fun z => ok.has _ (.inr z)
/-- the function object at f -/
def LamO (f : Addr) (q : Str) (params : Arguments) (body : Expr) (scope : Scope) (cl : List (Str × Addr)) (dV : Value) (c' : Addr) : HO :=
  .ext fun h => ∃ doc pm ctv : Value, h.get? f = some (PySem.W.kdv_obj "<lambda>" q params (.expr body) scope cl dV doc pm c' ctv)
/-- its default: none, or 0 -/
def DflO (H : Hp) (dV : Value) : Prop := dV = .none ∨ ∃ T, dV = .ref T ∧ H T = some (.tup [.int 0])
/-- what a call without arguments binds -/
def BndO (q : Str) (params : Arguments) (body : Expr) (scope : Scope) (cl : List (Str × Addr)) (dV : Value) (c' : Addr) : Prop :=
  ∀ (s : Shared) (doc pm ctv : Value), (∀ T, dV = .ref T → ∃ o tk n, s.heap.get? T = some o ∧ o.data = .seq #[Value.int 0 tk] n) → ∃ binds, BindsTo s (PySem.W.kdv_fn "<lambda>" q params (.expr body) scope cl dV doc pm (.ref c') ctv) ⟨[], []⟩ binds ∧ ∀ y ∈ binds, scope.names.lookup y.1 = some .local
/-- at f stands a lambda of the def X that does t -/
structure Lam (X : Cx) (k : Nat) (H : Hp) (f : Addr) (t : XK → TE) : Prop where
  ex : ∃ (params : Arguments) (body : Expr) (scope : Scope) (dV : Value) (c' : Addr), LamD X.N X.env.scope scope ∧ H f = some (LamO f (X.env.qual ++ "<lambda>") params body scope (cloFrom X.env.cells scope.names []) dV c') ∧ H c' = some (CodeO c' (X.env.qual ++ "<lambda>")) ∧ DflO H dV ∧
    BndO (X.env.qual ++ "<lambda>") params body scope (cloFrom X.env.cells scope.names []) dV c' ∧
    ∀ (A : Around) (outer : List Env) (s : Shared) (H : Hp) (E : XK) (f c' : Addr), Room k (A.deeper (lamEnv X scope s.heap.objs.size f c')) → PE (lamCx X A outer s H E scope f c') body (t E)
theorem Lam.st {X : Cx} {k : Nat} {H H' : Hp} {f : Addr} {t : XK → TE} (h : Lam X k H f t) (st : ∀ b o, H b = some o → ((∃ φ, o = .ext φ) ∨ ∃ xs, o = .tup xs) → H' b = some o) : Lam X k H' f t := by
  obtain ⟨params, body, scope, dV, c', a1, a2, a3, a4, a5, a6⟩ := h.ex
  refine ⟨params, body, scope, dV, c', a1, st _ _ a2 (.inl ⟨_, rfl⟩), st _ _ a3 (.inl ⟨_, rfl⟩), ?_, a5, a6⟩
  rcases a4 with e | ⟨T, e, hT⟩
  · exact .inl e
  · exact .inr ⟨T, e, st _ _ hT (.inr ⟨_, rfl⟩)⟩
section
variable {X : Cx} {pins : List (Addr × Obj)} {σ : L2.St} {H HZ : Hp} {s s1 : Shared}
/-- the last part of the making: the code object is new, or found in the table; the function object is known from now on -/
theorem lam_tail {T : List (Addr × Str)} {c P : Addr} {params : Arguments} {body : Expr} {scope : Scope} {dV : Value} {pos : Pos} {E : Value → Shared → Prop} {Q : Value → Shared → Prop} (I : Inv X pins σ H s) (TB : TabB X.base X.mg c P) (hcode : X.env.code = .ref c)
    (hmem : (P, X.env.qual ++ "<lambda>") ∈ T) (huni : ∀ p ∈ T, p.1 = P → p.2 = X.env.qual ++ "<lambda>") (hT : Tabs T H) (hfree : ∀ y ∈ scope.names, y.2 = .free → ∃ c, X.env.cells.lookup y.1 = some c)
    (go : ∀ (f c' : Addr) (H1 : Hp) (s' : Shared), Inv X pins σ H1 s' → ExtN H H1 → Tabs T H1 → H f = none → H1 f = some (LamO f (X.env.qual ++ "<lambda>") params body scope (cloFrom X.env.cells scope.names []) dV c') → H1 c' = some (CodeO c' (X.env.qual ++ "<lambda>")) → Q (.ref f) s') :
    wpAny (model X.prog X.w) X.A (makeTail "<lambda>" (X.env.qual ++ "<lambda>") params (.expr body) scope X.env dV .none none pos pos.line) Q E s := by
  obtain ⟨ps, hP, ht, known⟩ := hT _ hmem
  have bP : s.heap.BuiltinsAt X.mg P := TB.bm.keeps I.bk
  have raw : s.heap.get? P = some { cls := .none, data := .fields ps } := I.hok P _ hP
  -- the function object, laid last
  have last : ∀ {H1 : Hp} {h1 : Heap} {t1 : Nat} {c' : Addr} {doc pm ctv : Value}, Inv X pins σ H1 { s with heap := h1, toks := t1 } → ExtN H H1 → Tabs T H1 → H h1.objs.size = none → H1 c' = some (CodeO c' (X.env.qual ++ "<lambda>")) →
      Q (.ref h1.objs.size) { s with heap := h1.push (PySem.W.kdv_obj "<lambda>" (X.env.qual ++ "<lambda>") params (.expr body) scope (cloFrom X.env.cells scope.names []) dV doc pm c' ctv), toks := t1 } := fun {H1 h1 t1 c' doc pm ctv} I1 eN T1 nf hc => by
    have nf1 : H1 h1.objs.size = none := I1.hok.fresh (Nat.le_refl _)
    have got : (h1.push (PySem.W.kdv_obj "<lambda>" (X.env.qual ++ "<lambda>") params (.expr body) scope (cloFrom X.env.cells scope.names []) dV doc pm c' ctv)).get? h1.objs.size = some (PySem.W.kdv_obj "<lambda>" (X.env.qual ++ "<lambda>") params (.expr body) scope (cloFrom X.env.cells scope.names []) dV doc pm c' ctv) := Heap.get?_push_size _ rfl
    have I2 := I1.laid (a := h1.objs.size) (t' := t1) (o := LamO h1.objs.size (X.env.qual ++ "<lambda>") params body scope (cloFrom X.env.cells scope.names []) dV c') (fun b u e => Heap.get?_push_of_some _ e) (Nat.le_refl _)
      ⟨⟨doc, pm, ctv, got⟩, ⟨_, got⟩, fun h1 h2 ⟨d, p, t, z⟩ st => ⟨d, p, t, st _ z⟩⟩
    have keep : ∀ b o, H1 b = some o → upd H1 h1.objs.size (LamO h1.objs.size (X.env.qual ++ "<lambda>") params body scope (cloFrom X.env.cells scope.names []) dV c') b = some o := fun b o e => by rw [upd_ne (ne_of_none e nf1)]; exact e
    exact go _ c' _ _ I2 (eN.trans (ExtN.of keep)) (T1.ext keep) nf upd_same (keep _ _ hc)
  cases hc : codeAmong pos ps.toList with
  | none =>
    refine PySem.W.kdv_makeTail (mg := X.mg) (c := c) (P := P) (ps := ps) (closure_ok hfree) I.ok.glob (I.mod.glob.keeps I.bk) hcode (TB.code.keeps I.bk) raw ht hc TB.gP bP fun c' ctv doc h' tk hx hge hlt hrec htb => ?_
    obtain ⟨c2, oc, vs, t, e2, o1, o2, o3⟩ := hrec
    cases e2
    have nC : H c' = none := I.hok.fresh hge
    have I1 := inv_table (t' := tk) (more := #[rawInt pos.line, rawInt pos.col, .ref c']) (h' := h') (q := X.env.qual ++ "<lambda>") I hP (fun b o hb e => hx b o hb e) htb hge ⟨oc, vs, t, o1, o2, o3⟩
    have grown : (ps ++ #[rawInt pos.line, rawInt pos.col, .ref c']).toList = ps.toList ++ [rawInt pos.line, rawInt pos.col, .ref c'] := by simp
    have eN : ExtN H (upd (upd H P (.tbl (ps ++ #[rawInt pos.line, rawInt pos.col, .ref c']))) c' (CodeO c' (X.env.qual ++ "<lambda>"))) := fun b o e n => by
      have n2 : b ≠ P := fun z => n ps (Option.some.inj (e.symm.trans (z ▸ hP)))
      rw [upd_ne (ne_of_none e nC), upd_ne n2, e]
    refine last I1 eN (fun p hp => ?_) (I.hok.fresh (Nat.le_trans hge (Nat.le_of_lt hlt))) upd_same
    by_cases hb : p.1 = P
    · rw [huni p hp hb, hb]
      refine ⟨_, (upd_ne (ne_of_none hP nC)).trans upd_same, grown ▸ PySem.TriplesOk_snoc _ _ _ _ ht, fun at_ cv hcv => ?_⟩
      rw [grown] at hcv
      rcases among_app _ ht hcv with z | rfl
      · obtain ⟨c0, e1, e2⟩ := known at_ cv z
        exact ⟨c0, e1, eN _ _ e2 codeO_ne⟩
      · exact ⟨c', rfl, upd_same⟩
    · obtain ⟨qs, b1, b2, b3⟩ := hT p hp
      refine ⟨qs, (upd_ne (ne_of_none b1 nC)).trans ((upd_ne hb).trans b1), b2, fun at_ cv hcv => ?_⟩
      obtain ⟨c0, e1, e2⟩ := b3 at_ cv hcv
      exact ⟨c0, e1, eN _ _ e2 codeO_ne⟩
  | some cv =>
    obtain ⟨c', rfl, hco⟩ := known pos cv hc
    refine PySem.W.kdv_makeTailHit (mg := X.mg) (c := c) (P := P) (ps := ps) (closure_ok hfree) I.ok.glob (I.mod.glob.keeps I.bk) hcode (TB.code.keeps I.bk) raw ht hc bP fun ctv doc h' tk hx hsz => ?_
    exact last (I.kept hx) (ExtN.refl H) hT (I.hok.fresh hsz) hco
def tLamV (X : Cx) (T : List (Addr × Str)) (k : Nat) (t : XK → TE) : TE := fun σ H Q => Tabs T H ∧ ∀ (f : Addr) (H1 : Hp), ExtN H H1 → Tabs T H1 → H f = none → Lam X k H1 f t → Q (.ref f) H1
/-- lambda: body -/
theorem pe_lam0 {T : List (Addr × Str)} {c P : Addr} {k : Nat} {params : Arguments} {body : Expr} {scope : Scope} {t : XK → TE} {lpos : Pos} (TB : TabB X.base X.mg c P) (hcode : X.env.code = .ref c) (hmT : (P, X.env.qual ++ "<lambda>") ∈ T) (hu : ∀ p ∈ T, p.1 = P → p.2 = X.env.qual ++ "<lambda>")
    (L : LamD X.N X.env.scope scope) (hdef : defaultsOf params X.env = ([], [])) (hb : ∀ (q : Str) (cl : List (Str × Addr)) (doc pm cv ctv : Value), bindArgs (PySem.W.kdv_fn "<lambda>" q params (.expr body) scope cl .none doc pm cv ctv) ⟨[], []⟩ = pure [])
    (hbody : ∀ (A : Around) (outer : List Env) (s : Shared) (H : Hp) (E : XK) (f c' : Addr), Room k (A.deeper (lamEnv X scope s.heap.objs.size f c')) → PE (lamCx X A outer s H E scope f c') body (t E)) : PE X (.Lambda params body scope lpos) (tLamV X T k t) := by
  refine ⟨fun pins s σ H Q I ⟨hT, h⟩ => PySem.W.kla_eval hdef ?_⟩
  rw [makeFunction_eq]
  simp only [List.zip_nil_right, List.filterMap_nil, List.isEmpty_nil, if_true, pure_bind]
  refine lam_tail (dV := .none) I TB hcode hmT hu hT (L.has I.ok) fun f c' H1 s' I1 eN T1 nf hf hc => ⟨.ref f, H1, I1, rfl, h f H1 eN T1 nf ⟨params, body, scope, .none, c', L, hf, hc, .inl rfl, fun s doc pm ctv _ => ⟨[], BindsTo.of_eq (hb _ _ _ _ _ _), fun y hy => absurd hy (by simp)⟩, hbody⟩⟩
/-- lambda p=0: body -/
theorem pe_lam1 {T : List (Addr × Str)} {c P : Addr} {k : Nat} {params : Arguments} {body : Expr} {scope : Scope} {t : XK → TE} {lpos dp : Pos} {j : Tok} {p : Str} (TB : TabB X.base X.mg c P) (hcode : X.env.code = .ref c) (hmT : (P, X.env.qual ++ "<lambda>") ∈ T) (hu : ∀ p ∈ T, p.1 = P → p.2 = X.env.qual ++ "<lambda>")
    (L : LamD X.N X.env.scope scope) (hd : params.defaults = [.Constant (.int 0) j dp]) (hk : params.kw_defaults = []) (hl : scope.names.lookup p = some .local)
    (hb : ∀ (q : Str) (cl : List (Str × Addr)) (T : Addr) (doc pm cv ctv : Value), ∃ kk : Option (Array Value) → Sem (List (Str × Value)), bindArgs (PySem.W.kdv_fn "<lambda>" q params (.expr body) scope cl (.ref T) doc pm cv ctv) ⟨[], []⟩ = (seqItems? (.ref T) >>= kk) ∧ ∀ v, kk (some #[v]) = pure [(p, v)])
    (hbody : ∀ (A : Around) (outer : List Env) (s : Shared) (H : Hp) (E : XK) (f c' : Addr), Room k (A.deeper (lamEnv X scope s.heap.objs.size f c')) → PE (lamCx X A outer s H E scope f c') body (t E)) : PE X (.Lambda params body scope lpos) (tLamV X T k t) := by
  refine ⟨fun pins s σ H Q I ⟨hT, h⟩ => PySem.W.kdv_lam (by rw [hd]; rfl) hk ?_⟩
  rw [hd]
  refine PySem.W.kdv_all1 (thn ((pe_int (X := X)).run pins s σ H (fun v H1 => v = .int 0 ∧ H1 = H) I ⟨rfl, rfl⟩) fun u s1 ⟨v, H1, I1, r1, q1⟩ => ?_)
  obtain ⟨rfl, rfl⟩ := q1
  refine PySem.W.kdv_all0 ?_
  obtain ⟨tk, rfl⟩ := r1
  rw [makeFunction_eq]
  simp only [List.zip_nil_right, List.filterMap_nil, List.isEmpty_nil, List.isEmpty_cons, Bool.false_eq_true, if_false, if_true, pure_bind]
  refine wpAny_bind (wpAny_newTextTuple ?_)
  have nT : H1 s1.heap.objs.size = none := I1.hok.fresh (Nat.le_refl _)
  have I2 := I1.laid (a := s1.heap.objs.size) (t' := s1.toks) (o := .tup [.int 0]) (h' := s1.heap.push { cls := .type "tuple", data := .seq [Value.int 0 tk].toArray }) (fun b u e => Heap.get?_push_of_some _ e) (Nat.le_refl _) ⟨by decide, [Value.int 0 tk], .cons ⟨tk, rfl⟩ .nil, _, Heap.get?_push_size _ rfl, rfl, _, rfl⟩
  have keep : ∀ b o, H1 b = some o → upd H1 s1.heap.objs.size (.tup [.int 0]) b = some o := fun b o e => by rw [upd_ne (ne_of_none e nT)]; exact e
  refine lam_tail (dV := .ref s1.heap.objs.size) I2 TB hcode hmT hu (hT.ext keep) (L.has I.ok) fun f c' H3 s' I3 eN T1 nf hf hc => ⟨.ref f, H3, I3, rfl, h f H3 ((ExtN.of keep).trans eN) T1 ?_ ⟨params, body, scope, .ref s1.heap.objs.size, c', L, hf, hc, .inr ⟨_, rfl, eN _ _ upd_same (fun ps z => by cases z)⟩, fun s doc pm ctv hs => ?_, hbody⟩⟩
  · cases e : H1 f with
    | none => rfl
    | some o => rw [keep _ _ e] at nf; cases nf
  · obtain ⟨o, tk2, n, o1, o2⟩ := hs _ rfl
    obtain ⟨kk, k1, k2⟩ := hb (X.env.qual ++ "<lambda>") (cloFrom X.env.cells scope.names []) s1.heap.objs.size doc pm (.ref c') ctv
    refine ⟨[(p, .int 0 tk2)], BindsTo.of_defaults rfl o1 o2 k1 (k2 _), fun y hy => ?_⟩
    rw [List.mem_singleton.mp hy]
    exact hl
/-- the lambda's body is entered -/
theorem lam_startD {A : Around} {outer : List Env} {E : XK} {scope : Scope} {f c' : Addr} {h₁ : Heap} {tk : Nat} {m : Str → Option Value} (I : Inv X pins σ H s) (L : LamD X.N X.env.scope scope) (e0 : Env0 X.prog X.w X.K X.mg X.base A outer s1 HZ) (hd : A.handled = none)
    (un : Un (frs X.stack) [] H HZ s.heap s1.heap) (hns : h₁.Ns s1.heap.objs.size m) (kp : ∀ b o, s1.heap.get? b = some o → h₁.get? b = some o) :
    Inv (lamCx X A outer s1 HZ E scope f c') [] σ HZ { s1 with heap := h₁, toks := tk } := by
  have avail := L.has I.ok
  have down : ∀ {y c}, (cloFrom X.env.cells scope.names []).lookup y = some c → X.env.cells.lookup y = some c := fun {y c} e => by
    rcases cloFrom_mem (PySem.mem_of_lookup e) with hm | ⟨h1, h2⟩
    · cases hm
    · obtain ⟨c1, hc⟩ := avail _ h1 rfl
      have hc : X.env.cells.lookup y = some c1 := hc
      have e2 : c = c1 := by
        rw [h2, hc] <;> rfl
      exact e2 ▸ hc
  have look : ∀ {y}, scope.names.lookup y = some .free → ∃ c, (cloFrom X.env.cells scope.names []).lookup y = some c := fun {y} hl => mem_lookup (cloFrom_has (cells := X.env.cells) (acc := []) (show (y, NameKind.free) ∈ scope.names from PySem.mem_of_lookup hl))
  have cellK : ∀ {c : Addr} {v : Option Value}, H c = none → s.heap.IsCell c v → h₁.IsCell c v := fun {c v} n ⟨o, ho, hd⟩ => by
    obtain ⟨sl, q⟩ := un.any ho n (by simp)
    exact ⟨_, kp _ _ q, hd⟩
  have noX : ∀ b : Addr, b ∉ (lamCx X A outer s1 HZ E scope f c').ex := fun b z => (List.not_mem_nil z).elim
  have okk : (lamCx X A outer s1 HZ E scope f c').Ok := ⟨e0.mod, L.kind, rfl, rfl, Nat.le_refl _, fun y z c e1 e2 => I.ok.inj y z c (down e1) (down e2), fun y hy => (show scope.names.lookup y = some .cell ∨ scope.names.lookup y = some .free from hy).elim (fun z => absurd rfl (L.nocell _ (PySem.mem_of_lookup z))) look,
    fun y c z _ => (show False from by have z : false = true := z; cases z).elim, fun _ => hd, Around.frames_deeper e0.frames, .inr ⟨rfl, rfl⟩, fun b z => absurd z (noX b), e0.bs, e0.bsz, fun b _ _ => noX b, fun b z => absurd z (noX b), e0.funs, e0.frf⟩
  refine ⟨okk, rfl, e0.bare, Un.kept kp, ⟨m, hns, fun i y v e1 e2 e3 => ?_⟩, fun y c e => ?_, e0.hok.fresh (Nat.le_refl _), fun y c e => ?_, fun q hq => absurd (show q ∈ ([] : List (Addr × Obj)) ++ [] from hq) (by simp), e0.hok.kept kp, I.len⟩
  · have e1 : X.N[i]? = some y := e1
    have e3 : Vis scope y := e3
    rcases e3 with z | z | z
    · exact absurd (List.mem_of_getElem? e1) (L.own _ (PySem.mem_of_lookup z) rfl)
    · exact absurd rfl (L.nocell _ (PySem.mem_of_lookup z))
    · obtain ⟨mX, _, hl⟩ := I.loc
      have fr := L.free _ (PySem.mem_of_lookup z) rfl
      obtain ⟨w', r, q⟩ := hl i y v e1 e2 (fr.elim (fun z => .inr (.inl z)) fun z => .inr (.inr z))
      obtain ⟨c2, h2⟩ := look z
      refine ⟨w', r, .inr ⟨.inr z, c2, h2, ?_⟩⟩
      rcases q with ⟨loc, _⟩ | ⟨_, c3, e', z'⟩
      · have loc : X.env.scope.names.lookup y = some .local := loc
        rcases fr with fr | fr <;> rw [show X.env.scope.names.lookup y = _ from fr] at loc <;> cases loc
      · rw [down h2] at e'
        cases e'
        exact cellK (I.freeC y _ (down h2)) z'
  · obtain ⟨w', z⟩ := I.cell y c (down e)
    exact ⟨w', cellK (I.freeC y c (down e)) z⟩
  · obtain ⟨v, o, ho, hd⟩ := I.cell y c (down e)
    exact un.free c o ho (I.freeC y c (down e)) (by simp)
/-- a(), in the def that got the lambda -/
theorem pe_actD {CXg : CXT} {Eg : XK} {Ng : List Str} {qg : Str} {sg : Scope} {g f c' : Addr} {cdg dV : Value} {params : Arguments} {body : Expr} {scope : Scope} {k i : Nat} {a : Str} {pn : List (Addr × Obj)} {xe : Value → Shared → Prop} {W : WX} {E : XK} {tb : TE} {p1 p2 : Pos}
    (I : Inv X pins σ H s) (L : LamD X.N X.env.scope scope) (hB : BndO (X.env.qual ++ "<lambda>") params body scope (cloFrom X.env.cells scope.names []) dV c')
    (tk : Takes ((cxOf CXg X.prog X.w X.K X.mg X.base Ng qg sg g cdg X.A X.stack s H Eg).tr pn xe) W) (hW : ∀ cls d σ' H', E cls d H' → W cls d σ' H') (hr : Room (k + 1) (X.A.deeper (envOfC qg sg s.heap.objs.size g cdg)))
    (hbody : ∀ (A : Around) (outer : List Env) (s : Shared) (H : Hp), Room k (A.deeper (lamEnv X scope s.heap.objs.size f c')) → PE (lamCx X A outer s H E scope f c') body tb)
    (hN : Ng[i]? = some a) (hv : Vis sg a) (hd : (a == ("__debug__" : Str)) = false := by decide) (hcd : (a == ("__classdict__" : Str)) = false := by decide) :
    PE ((cxOf CXg X.prog X.w X.K X.mg X.base Ng qg sg g cdg X.A X.stack s H Eg).tr pn xe) (.Call (.Name a p1) [] [] p2)
      (fun σZ HZ Q => σZ[i]? = some (some (.ref f)) ∧ (HZ f = some (LamO f (X.env.qual ++ "<lambda>") params body scope (cloFrom X.env.cells scope.names []) dV c') ∧ HZ c' = some (CodeO c' (X.env.qual ++ "<lambda>")) ∧ DflO HZ dV) ∧ tb σ HZ Q) := by
  refine ⟨fun pinsZ sZ σZ HZ Q IZ ⟨hs, ⟨hf, hc, hD⟩, ht⟩ => ?_⟩
  refine wpAny_Call_Name_kw (thn ((pe_var (pos := p1) (i := i) hN hv hd hcd).run pinsZ sZ σZ HZ (fun v H1 => v = .ref f ∧ H1 = HZ) IZ ⟨.ref f, hs, rfl, rfl⟩) fun u s1 ⟨v, H1, I1, r1, ev, eH⟩ => ?_)
  subst ev
  rw [eH] at I1
  obtain rfl : u = Value.ref f := r1
  obtain ⟨⟨doc, pm, ctv, of1⟩, _, _⟩ := I1.hok f _ hf
  refine PySem.W.callWith_F0 ⟨_, _, _, _, of1⟩ ?_
  have un : Un (frs X.stack) [] H HZ s.heap s1.heap := I1.base
  obtain ⟨⟨oc, vs, t, hoc, hdc, hvc⟩, _, _⟩ := I1.hok c' _ hc
  obtain ⟨binds, bt, bl⟩ := hB s1 doc pm ctv fun T eT => by
    rcases hD with e | ⟨T2, e, hT⟩
    · rw [e] at eT; cases eT
    · rw [e] at eT
      cases eT
      obtain ⟨_, its, rv, o, o1, _, n, o3⟩ := I1.hok T _ hT
      obtain ⟨x, rfl, hx⟩ : ∃ x, its = [x] ∧ RelV (.int 0) x := by
        cases rv with
        | cons r0 rr =>
          cases rr with
          | nil => exact ⟨_, rfl, r0⟩
      obtain ⟨tk0, rfl⟩ := hx
      exact ⟨o, tk0, n, o1, o3⟩
  have rc : codeAny (model X.prog X.w) (X.A.deeper (envOfC qg sg s.heap.objs.size g cdg)) (.call (.ref f) ⟨[], []⟩) (CR (L2.CX X.prog X.w) (envOfC qg sg s.heap.objs.size g cdg :: X.stack) X.prog X.w HZ s1 Q E) s1 := by
    refine PySem.W.kla_callFunE hr.depth of1 rfl L.co L.gen rfl ⟨c', oc, vs, t, rfl, hoc, hdc, hvc⟩ (bt _ _ _ _ ?_)
    refine wpAny_newFunctionEnv L.nocell bl (fun h₁ hns hsb => ⟨I1.nolimit.fresh _ hsb, ?_⟩) L.kind
    show codeAny _ _ (.expr body (lamEnv X scope s1.heap.objs.size f c')) _ _
    have J : Inv (lamCx X (X.A.deeper (envOfC qg sg s.heap.objs.size g cdg)) (envOfC qg sg s.heap.objs.size g cdg :: X.stack) s1 HZ E scope f c') [] σ HZ { s1 with heap := h₁, toks := s1.toks + binds.length } :=
      lam_startD I L I1.env0 hr.hd un hns fun b o e => hsb.extBut b o (Nat.ne_of_lt (Heap.lt_size e)) (Heap.get?_push_of_some _ e)
    refine PySem.W.kla_codeExpr (wpAny_mono ((hbody _ _ s1 HZ (hr.deeper _)).run [] _ _ HZ Q J ht) (fun v s' ⟨w', H', J', rv, q⟩ => ⟨w', H', J'.os, J'.bare, J'.base, J'.hok, rv, q⟩) fun e s' hq => hq)
  have hx : Passes (L2.CX X.prog X.w) ((cxOf CXg X.prog X.w X.K X.mg X.base Ng qg sg g cdg X.A X.stack s H Eg).tr pn xe) E := passes_call tk hW
  refine wpAny_call (codeAny_mono rc fun r s' hq => ?_)
  match r, hq with
  | .error e, hq => exact hx pinsZ σZ HZ s1 e s' I1 hq
  | .ok (.ret u), hq => exact I1.after hq
  | .ok .next, hq => exact hq.elim
  | .ok .brk, hq => exact hq.elim
  | .ok .cont, hq => exact hq.elim
/-- the def that calls what it got, whatever is known of it -/
def GivesR (X : Cx) (Ng : List Str) (x : Str) (sg : Scope) (g : Addr) (cdg : Value) (bg : List Stmt) (a : Str) (TT : (XK → Hp → VK → Prop) → Hp → VK → Prop) : Prop :=
  ∀ (R : Hp → Prop) (f : Addr) (s : Shared) (H : Hp) (Q : VK) (tl : XK → Hp → VK → Prop),
    (∀ (W : WX) (pn : List (Addr × Obj)) (xe : Value → Shared → Prop) (E : XK) (p1 p2 : Pos), Takes ((cxOf C8.CX0 X.prog X.w X.K X.mg X.base Ng x sg g cdg X.A X.stack s H C8.E0).tr pn xe) W → (∀ cls d σ' H', E cls d H' → W cls d σ' H') →
      PE ((cxOf C8.CX0 X.prog X.w X.K X.mg X.base Ng x sg g cdg X.A X.stack s H C8.E0).tr pn xe) (.Call (.Name a p1) [] [] p2) (fun σZ HZ Q => σZ[0]? = some (some (.ref f)) ∧ R HZ ∧ tl E HZ Q)) →
    R H → TT tl H Q → ∃ t, PSs (cxOf C8.CX0 X.prog X.w X.K X.mg X.base Ng x sg g cdg X.A X.stack s H C8.E0).nox bg t ∧ t { nx := fun _ H' => Q .non H', rt := Q } (L2.start Ng [.ref f]) H
def tWork (X : Cx) (k : Nat) (TT : (XK → Hp → VK → Prop) → Hp → VK → Prop) (te : TE) : TE := fun σ H Q => te σ H fun v H1 => ∃ (f : Addr) (t : XK → TE), v = .ref f ∧ Lam X k H1 f t ∧ TT (fun E H' Q' => t E σ H' Q') H1 Q
/-- x(e): e is a lambda -/
theorem pe_work {TT : (XK → Hp → VK → Prop) → Hp → VK → Prop} {x a : Str} {g : Addr} {k : Nat} {pg : Arguments} {bg : List Stmt} {sg : Scope} {dV kV doc pm cdv ct oc : Value} {an od : Option Addr} {osl : Array (Option Value)} {Ng : List Str}
    {e : Expr} {te : TE} {p pos : Pos} (hg : Gl X x) (hm : X.mg x = some (.ref g)) (hk : PySem.W.keepIn X.K (.ref g) = true)
    (lk : X.K.lookup g = some ⟨oc, od, .func (PySem.W.fnOf x x pg bg sg dV kV doc pm an cdv ct), osl⟩) (hcg : PySem.W.codeIn X.K cdv x = true) (hb : L2.Binds X.K (PySem.W.fnOf x x pg bg sg dV kV doc pm an cdv ct) [a] []) (Sg : FnScope Ng [a] sg) (hNg : Ng[0]? = some a) (hva : Vis sg a)
    (hG : GivesR X Ng x sg g cdv bg a TT) (hr : Room (k + 2) X.A) (he : PE X e te) (hs : starEach [e] X.env = (false, eval e X.env) :: starEach [] X.env := by rfl)
    (hdb : (x == ("__debug__" : Str)) = false := by decide) (hd : (a == ("__debug__" : Str)) = false := by decide) (hcd : (a == ("__classdict__" : Str)) = false := by decide) :
    PE X (.Call (.Name x p) [e] [] pos) (tWork X k TT te) := by
  refine ⟨fun pins s σ H Q I h => wpAny_Call_Name_kw (ld_glob I hg hm ?_ hdb)⟩
  refine PySem.W.callWith_K (h₀ := X.base) I.ok.mod.kin hk ?_ hs (by rfl)
  rw [hs]
  show wpAny _ _ (spliced ((false, eval e X.env) :: backTo pos (starEach [] X.env))) _ _ s
  refine Calls.spliced_cons (thn (he.run pins s σ H _ I h) fun u s' ⟨v, H1, I1, r1, f, t, ev, M, hT⟩ => ?_)
  subst ev
  obtain rfl : u = Value.ref f := r1
  refine Calls.spliced_nil ⟨I1.kIn, ?_⟩
  obtain ⟨params, body, scope, dL, c', L, m1, m2, m3, hB, hbody⟩ := M.ex
  have rc : codeAny (model X.prog X.w) X.A (.call (.ref g) ⟨[.ref f], []⟩) (CR C8.CX0 X.stack X.prog X.w H1 s' Q C8.E0) s' := by
    refine run_ofS (N := Ng) (ps := [a]) (us := [.ref f]) (vs := [.ref f]) lk hcg Sg hr I1.env0 (hb s' [.ref f] I1.kIn rfl) (.cons rfl .nil) rfl fun hr' => ?_
    obtain ⟨t', ht', hq'⟩ := hG (fun HZ => HZ f = some (LamO f (X.env.qual ++ "<lambda>") params body scope (cloFrom X.env.cells scope.names []) dL c') ∧ HZ c' = some (CodeO c' (X.env.qual ++ "<lambda>")) ∧ DflO HZ dL) f s' H1 Q (fun E H' Q' => t E σ H' Q')
      (fun W pn xe E p1 p2 tk hW => pe_actD (i := 0) I1 L hB tk hW hr' (fun A outer s H hr2 => hbody A outer s H E f c' hr2) hNg hva hd hcd) ⟨m1, m2, m3⟩ hT
    exact ⟨t', ht'.nox, hq'⟩
  refine wpAny_call (codeAny_mono rc fun r s2 hq => ?_)
  match r, hq with
  | .error e, hq => exact (show False from hq).elim
  | .ok (.ret u), hq => exact I1.after hq
  | .ok .next, hq => exact hq.elim
  | .ok .brk, hq => exact hq.elim
  | .ok .cont, hq => exact hq.elim
end
end Lw
namespace Lw
open PySem L2
/-- a wire and an own wire, as a def goes on -/
structure In2 (K : PySem.W.Frag) (TT : List (Addr × Str)) (r CW a dx t d tm : Addr) (F0 : List Addr) (H0 : Hp) (l lm : Addr) (M Mm : WM) (H : Hp) : Prop where
  row : RowOk K H r
  st : Sts H [oWire CW a dx t l M, oM d tm lm Mm]
  tab : LamX.Tabs TT H
  m : StepN TT F0 ([a, t, l] ++ [d, tm, lm]) H0 H
section
variable {K : PySem.W.Frag} {TT : List (Addr × Str)} {r CW a dx t d tm l lm l' lm' : Addr} {F0 : List Addr} {H0 H H' : Hp} {M Mm M' : WM}
theorem In2.ext (h : In2 K TT r CW a dx t d tm F0 H0 l lm M Mm H) (e : Ext H H') : In2 K TT r CW a dx t d tm F0 H0 l lm M Mm H' := ⟨e.rowOk h.row, h.st.ext e, tabs_ext h.tab e, h.m.trans (StepN.ofExt e)⟩
theorem In2.lam (h : In2 K TT r CW a dx t d tm F0 H0 l lm M Mm H) (eN : LamX.ExtN H H') (T : LamX.Tabs TT H') : In2 K TT r CW a dx t d tm F0 H0 l lm M Mm H' := ⟨RowOk.lam eN h.row, h.st.lam eN, T, h.m.trans (StepN.lam eN T)⟩
theorem In2.one (h : In2 K TT r CW a dx t d tm F0 H0 l lm M Mm H) (W : WAt CW a dx t l' M' H') (s : Step [a, t, l] [a, t, l'] H H') : In2 K TT r CW a dx t d tm F0 H0 l' lm M' Mm H' :=
  ⟨Sts.row (l1 := []) (l2 := [_]) (W' := oWire CW a dx t l' M') h.st s h.row, h.st.one (A' := oWire CW a dx t l' M') W s, Sts.tabs (l1 := []) (l2 := [_]) (W' := oWire CW a dx t l' M') h.st s h.tab, h.m.trans (StepN.of (s.wide [d, tm, lm]) (Sts.al2 (l1 := []) (l2 := []) h.st))⟩
theorem In2.other (h : In2 K TT r CW a dx t d tm F0 H0 l lm M Mm H) (W : MAt d tm lm' M' H') (s : Step [d, tm, lm] [d, tm, lm'] H H') : In2 K TT r CW a dx t d tm F0 H0 l lm' M M' H' :=
  ⟨Sts.row (l1 := [_]) (l2 := []) (W' := oM d tm lm' M') h.st s h.row, h.st.other (B' := oM d tm lm' M') W s, Sts.tabs (l1 := [_]) (l2 := []) (W' := oM d tm lm' M') h.st s h.tab, h.m.trans (StepN.of (s.wideL [a, t, l]) (Sts.al2 (l1 := []) (l2 := []) h.st))⟩
theorem In2.W (h : In2 K TT r CW a dx t d tm F0 H0 l lm M Mm H) : WAt CW a dx t l M H := h.st.fst
theorem In2.G (h : In2 K TT r CW a dx t d tm F0 H0 l lm M Mm H) : MAt d tm lm Mm H := h.st.snd
end
end Lw
namespace Lw
open PySem L2
theorem pss_lock {X : Cx} {sts : List Stmt} {t : TS} (h : PSs X sts t) : PSs X sts (tLock t) := ⟨fun pins s σ H D I ⟨d, u, hd, mu, hw⟩ => by
  obtain ⟨od, I1⟩ := I.lock hd mu
  have back := I.nofrz hd mu
  refine thn (h.run pins s σ _ _ I1 (hw od)) fun f s1 q => ?_
  match f, q with
  | .next, ⟨σ', H', I2, e, q⟩ => exact ⟨σ', _, I2.unlock e back, q⟩
  | .brk, ⟨σ', H', I2, e, q⟩ => exact ⟨σ', _, I2.unlock e back, q⟩
  | .cont, ⟨σ', H', I2, e, q⟩ => exact ⟨σ', _, I2.unlock e back, q⟩
  | .ret v, ⟨x, σ', H', I2, r, e, q⟩ => exact ⟨x, σ', _, I2.unlock e back, r, q⟩⟩
/-- the rest of a law: its script is locked -/
theorem pss_lk {X : Cx} {sts : List Stmt} {t : TS} (h : PSs X sts t) : PSs X sts (fun D σ H => t D σ H ∨ tLock t D σ H) := ⟨fun pins s σ H D I hw => hw.elim (fun q => h.run pins s σ H D I q) fun q => (pss_lock h).run pins s σ H D I q⟩
theorem lk_byS {K : PySem.W.Frag} {TT : List (Addr × Str)} {t : TS} {D : Ends} {σ : St} {H : Hp} {r a : Addr} {ns : List Int} (hr : H r = some (row a 0 0 0)) (hs : SqL K H a (ns.map V.int)) (tab : LamX.Tabs TT H)
    (main : ∀ z H1 D', LG K TT z r H1 → (∀ H', LG K TT z r H' → D'.rt (.bl true) H') → t D' σ H1) (hD : ∀ H', D.rt (.bl true) H') : t D σ H ∨ tLock t D σ H := by
  have plain : Scr K H a (ns.map V.int) → t D σ H := fun h => main none H D ⟨⟨a, 0, 0, 0, ns, hr, Int.le_refl 0, h⟩, tab, fun a o u q => (by cases q)⟩ fun H' _ => hD H'
  rcases hs with (h | ⟨o, h⟩) | h
  · have nar : r ≠ a := fun e => by
      rw [e, h] at hr
      exact nsh_ints ns ⟨_, _, _, _, Option.some.inj hr⟩
    refine .inr ⟨a, _, h, True.intro, fun od => main (some (a, od, .lst (ns.map V.int))) _ _ ⟨⟨a, 0, 0, 0, ns, by rw [upd_ne nar]; exact hr, Int.le_refl 0, .inl ⟨od, upd_same⟩⟩, tabs_by tab fun b o hb hx => ?_, fun a2 o u q => ?_⟩ fun H' lg => ⟨lg.frz _ _ _ rfl, hD _⟩⟩
    · have nb : b ≠ a := fun e => by
        rw [e, h] at hb
        cases hb
        rcases hx with ⟨ps, q⟩ | ⟨x, q⟩ <;> cases q
      rw [upd_ne nb]
      exact hb
    · cases q
      exact upd_same
  · exact .inl (plain (.inl ⟨o, h⟩))
  · exact .inl (plain (.inr fun H' => .inr h))
end Lw
end

section
/-! two wires side by side -/
namespace Lw
open PySem L2
/-- a side: a wire, an own wire, names, in a tuple -/
structure Sd where
  a : Addr
  dx : Addr
  t : Addr
  l : Addr
  d : Addr
  tm : Addr
  lm : Addr
  p : Addr
  tp : Addr
  M : WM
  ls : List Bits
def oTup1 (tp : Addr) (vs : List V) : Own where
  S := fun H => H tp = some (.tup vs)
  F := [tp]
  loc := fun h s => h _ (by simp) _ s
  al := fun s b hb => by
    rw [List.mem_singleton.mp hb]
    exact ⟨_, s, own_tup⟩
def oRefL (sl : Addr) (ps : List Addr) : Own where
  S := fun H => H sl = some (.lst (ps.map V.ref))
  F := [sl]
  loc := fun h s => h _ (by simp) _ s
  al := fun s b hb => by
    rw [List.mem_singleton.mp hb]
    exact ⟨_, s, own_refs _⟩
def Sd.own (CW : Addr) (x : Sd) : List Own := [oWire CW x.a x.dx x.t x.l x.M, oM x.d x.tm x.lm x.M, oList x.p x.ls, oTup1 x.tp [.ref x.a, .ref x.d, .ref x.p]]
/-- what the law knows of a side -/
structure Sd.Ok (x : Sd) : Prop where
  ok : WOk x.M
  sz : x.M.things.length ≤ 40
  ks : ∀ k ∈ x.M.keys, k ∈ x.ls
  ne : x.ls ≠ []
  lz : x.ls.length ≤ 40
  nd : x.ls.Nodup
  ln : ∀ k ∈ x.ls, k.length = x.M.width
/-- a side among the sides -/
theorem Sd.split {CW : Addr} {Ss : List Sd} {k : Nat} {x : Sd} (h : Ss[k]? = some x) (R : Own) : R :: Ss.flatMap (Sd.own CW) = (R :: (Ss.take k).flatMap (Sd.own CW)) ++ oWire CW x.a x.dx x.t x.l x.M :: oM x.d x.tm x.lm x.M :: ([oList x.p x.ls, oTup1 x.tp [.ref x.a, .ref x.d, .ref x.p]] ++ (Ss.drop (k + 1)).flatMap (Sd.own CW)) := by
  have hk := (List.getElem?_eq_some_iff.mp h).1
  have e : Ss = Ss.take k ++ x :: Ss.drop (k + 1) := by
    conv => lhs; rw [← List.take_append_drop k Ss]
    rw [List.drop_eq_getElem_cons hk, (List.getElem?_eq_some_iff.mp h).2]
  conv => lhs; rw [e]
  simp [List.flatMap_append, Sd.own]
/-- it goes on -/
theorem Sd.joined {CW : Addr} {Ss : List Sd} {k : Nat} {x y : Sd} (h : Ss[k]? = some x) (hy : y.own CW = [oWire CW x.a x.dx x.t y.l y.M, oM x.d x.tm y.lm y.M, oList x.p x.ls, oTup1 x.tp [.ref x.a, .ref x.d, .ref x.p]]) (R : Own) :
    R :: (Ss.set k y).flatMap (Sd.own CW) = (R :: (Ss.take k).flatMap (Sd.own CW)) ++ oWire CW x.a x.dx x.t y.l y.M :: oM x.d x.tm y.lm y.M :: ([oList x.p x.ls, oTup1 x.tp [.ref x.a, .ref x.d, .ref x.p]] ++ (Ss.drop (k + 1)).flatMap (Sd.own CW)) := by
  have hk := (List.getElem?_eq_some_iff.mp h).1
  rw [List.set_eq_take_append_cons_drop, if_pos hk, List.flatMap_append, List.flatMap_cons, hy]
  simp
theorem Sd.tps {Ss : List Sd} {k : Nat} {x y : Sd} (h : Ss[k]? = some x) (e : y.tp = x.tp) : (Ss.set k y).map (·.tp) = Ss.map (·.tp) := by
  rw [List.map_set, e]
  apply List.ext_getElem?
  intro i
  rw [List.getElem?_set]
  split
  · rename_i hi
    subst hi
    rw [List.getElem?_map, h]
    split
    · rfl
    · rename_i q
      exact absurd (by rw [List.length_map]; exact (List.getElem?_eq_some_iff.mp h).1) q
  · rfl
end Lw
end

section
open PySem L2 Lw
local macro_rules | `(tactic| tm_at "s") => `(tactic| first
  | with_reducible refine w_seq ?_ | with_reducible refine w_asg ?_ | with_reducible refine w_gname ?_ | with_reducible refine w_ret ?_ | with_reducible refine w_drop ?_ | with_reducible refine w_ifS ?_ | with_reducible refine w_next ?_ | with_reducible refine w_retN ?_
  | with_reducible refine w_c ?_ | ((with_reducible refine w_var (v := ?vv) ?hh ?kk); (case hh => exact rfl)) | with_reducible refine w_op ?_ | with_reducible refine w_un ?_ | with_reducible refine w_cons ?_ | with_reducible refine w_nil ?_ | with_reducible refine w_test ?_ | with_reducible refine w_B ?_
  | with_reducible refine w_isbl ?_ | with_reducible refine w_not ?_ | with_reducible refine w_and ?_ | with_reducible refine w_or ?_ | with_reducible refine w_andV ?_ | with_reducible refine w_orV ?_ | with_reducible refine w_notV ?_ | with_reducible refine w_if ?_ | with_reducible refine w_chain ?_
  | with_reducible refine w_isN ?_ | with_reducible refine w_notN ?_ | with_reducible refine w_yes ?_ | with_reducible refine w_call ?_ | with_reducible refine w_CB ?_ | with_reducible refine w_tup ?_ | with_reducible refine w_lst ?_ | with_reducible refine w_sl ?_ | with_reducible refine w_noPart ?_
  | with_reducible refine w_part ?_ | with_reducible refine w_isint ?_ | with_reducible refine w_gSub ?_ | with_reducible refine w_break ?_ | with_reducible refine w_cont ?_
  | with_reducible refine w_I0 ?_ | with_reducible refine w_eqI ?_ | with_reducible refine w_neI ?_ | with_reducible refine w_eqS ?_ | with_reducible refine w_neS ?_ | with_reducible refine w_eqB ?_ | with_reducible refine w_neB ?_ | ((with_reducible refine w_isi (d := ?dd) ?hh ?kk); (case hh => assumption))
  | with_reducible refine w_sg ?_ | with_reducible refine w_notSg ?_ | with_reducible refine w_starts ?_ | with_reducible refine w_max2 ?_ | with_reducible refine w_min2 ?_ | with_reducible refine w_intB ?_ | with_reducible refine w_intI ?_ | with_reducible refine w_bm ?_ | with_reducible refine w_bm0 ?_ | with_reducible refine w_m1 ?_ | with_reducible refine w_m0 ?_ | with_reducible refine w_isstr ?_
  | with_reducible refine w_for ?_ | with_reducible refine w_lc ?_ | with_reducible refine w_rng ?_ | with_reducible refine w_rng2 ?_ | with_reducible refine w_ilist ?_ | with_reducible refine w_itup ?_ | with_reducible refine w_istr ?_ | with_reducible refine w_strOk ?_
  | ((with_reducible refine w_rngOk ?hh ?h2 ?kk); (case hh => omega); (case h2 => omega)) | ((with_reducible refine w_lstOk (xs := ?xx) ?hh ?kk); (case hh => assumption))
  | ((with_reducible refine w_alL ?hh ?kk); (case hh => exact Nat.le_of_ble_eq_true rfl)) | ((with_reducible refine w_alT ?hh ?kk); (case hh => exact Nat.le_of_ble_eq_true rfl))
  | ((with_reducible refine w_lenL (xs := ?xx) ?hh ?kk); (case hh => assumption)) | ((with_reducible refine w_lenT (xs := ?xx) ?hh ?kk); (case hh => assumption))
  | ((with_reducible refine w_I ?hh ?kk); (case hh => first | (show _ ≠ (0 : Int); omega) | (show (0 : Int) < _; omega) | exact ⟨by omega, by omega⟩ | exact .inl ⟨by omega, by omega⟩ | exact .inr ⟨by omega, by omega⟩ | exact ⟨by decide, by decide, by decide⟩))
  | with_reducible refine w_din ?_ | with_reducible refine w_dnot ?_ | with_reducible refine w_dget ?_ | with_reducible refine w_dput ?_ | with_reducible refine w_fld ?_ | with_reducible refine w_sto ?_ | with_reducible refine w_meth ?_ | with_reducible refine w_pop1 ?_ | with_reducible refine w_pop2 ?_ | with_reducible refine w_ikeys ?_
  | ((with_reducible refine f_width (CW := ?v1) (dx := ?v2) (t := ?v3) (l := ?v4) (w := ?v5) (told := ?v6) (many := ?v7) ?tw ?hh ?kk); (case tw => assumption); (case hh => assumption))
  | ((with_reducible refine f_things (CW := ?v1) (dx := ?v2) (t := ?v3) (l := ?v4) (w := ?v5) (told := ?v6) (many := ?v7) ?tw ?hh ?kk); (case tw => assumption); (case hh => assumption))
  | ((with_reducible refine f_listening (CW := ?v1) (dx := ?v2) (t := ?v3) (l := ?v4) (w := ?v5) (told := ?v6) (many := ?v7) ?tw ?hh ?kk); (case tw => assumption); (case hh => assumption))
  | ((with_reducible refine f_tolds (CW := ?v1) (dx := ?v2) (t := ?v3) (l := ?v4) (w := ?v5) (b := ?v6) (many := ?v7) ?tw ?hh ?kk); (case tw => assumption); (case hh => assumption))
  | ((with_reducible refine f_told (CW := ?v1) (dx := ?v2) (t := ?v3) (l := ?v4) (w := ?v5) (told := ?v6) (many := ?v7) ?tw ?hh ?kk); (case tw => assumption); (case hh => assumption))
  | ((with_reducible refine f_many (CW := ?v1) (dx := ?v2) (t := ?v3) (l := ?v4) (w := ?v5) (told := ?v6) (many := ?v7) ?tw ?hh ?kk); (case tw => assumption); (case hh => assumption))
  | ((with_reducible refine w_ixL (v := ?vv) (xs := ?xx) ?hh ?h2 ?kk); (case hh => assumption); (case h2 => exact rfl)) | ((with_reducible refine w_ixT (v := ?vv) (xs := ?xx) ?hh ?h2 ?kk); (case hh => assumption); (case h2 => exact rfl)))
local macro_rules | `(tactic| tm_at "r") => `(tactic| repeat tm_at "s")
local macro_rules | `(tactic| tm_at "b") => `(tactic| first | refine w_iteT (by with_reducible rfl) ?_ | refine w_iteF (by with_reducible rfl) ?_ | refine w_iteT (by rfl) ?_ | refine w_iteF (by rfl) ?_)
local macro_rules | `(tactic| tm_at "e") => `(tactic| repeat (first | tm_at "s" | tm_at "b"))
local macro_rules | `(tactic| tm_at "s") => `(tactic| first
  | with_reducible refine w_gcons ?_ | with_reducible refine w_gnil ?_
  | ((with_reducible refine g_wire (CK := ?v1) (dx := ?v2) (a := ?v3) (c := ?v4) (r := ?v5) (said := ?v6) (n := ?v7) (s := ?v8) ?tw ?hh ?kk); (case tw => assumption); (case hh => assumption))
  | ((with_reducible refine g_kind (CK := ?v1) (dx := ?v2) (a := ?v3) (c := ?v4) (r := ?v5) (said := ?v6) (n := ?v7) (s := ?v8) ?tw ?hh ?kk); (case tw => assumption); (case hh => assumption))
  | ((with_reducible refine g_rest (CK := ?v1) (dx := ?v2) (a := ?v3) (c := ?v4) (r := ?v5) (said := ?v6) (n := ?v7) (s := ?v8) ?tw ?hh ?kk); (case tw => assumption); (case hh => assumption))
  | ((with_reducible refine g_saids (CK := ?v1) (dx := ?v2) (a := ?v3) (c := ?v4) (r := ?v5) (b := ?v6) (n := ?v7) (s := ?v8) ?tw ?hh ?kk); (case tw => assumption); (case hh => assumption))
  | ((with_reducible refine g_said (CK := ?v1) (dx := ?v2) (a := ?v3) (c := ?v4) (r := ?v5) (said := ?v6) (n := ?v7) (s := ?v8) ?tw ?hh ?kk); (case tw => assumption); (case hh => assumption))
  | ((with_reducible refine g_names (CK := ?v1) (dx := ?v2) (a := ?v3) (c := ?v4) (r := ?v5) (said := ?v6) (n := ?v7) (s := ?v8) ?tw ?hh ?kk); (case tw => assumption); (case hh => assumption))
  | ((with_reducible refine g_seen (CK := ?v1) (dx := ?v2) (a := ?v3) (c := ?v4) (r := ?v5) (said := ?v6) (n := ?v7) (s := ?v8) ?tw ?hh ?kk); (case tw => assumption); (case hh => assumption)))
local macro_rules | `(tactic| tm_at "s") => `(tactic| first
  | with_reducible refine w_pcons ?_ | with_reducible refine w_pnil ?_
  | ((with_reducible refine m_width (w := ?v1) (t := ?v2) (l := ?v3) (told := ?v4) (many := ?v5) ?hh ?kk); (case hh => assumption))
  | ((with_reducible refine m_things (w := ?v1) (t := ?v2) (l := ?v3) (told := ?v4) (many := ?v5) ?hh ?kk); (case hh => assumption))
  | ((with_reducible refine m_lis (w := ?v1) (t := ?v2) (l := ?v3) (told := ?v4) (many := ?v5) ?hh ?kk); (case hh => assumption))
  | ((with_reducible refine m_saids (w := ?v1) (t := ?v2) (l := ?v3) (b := ?v4) (many := ?v5) ?hh ?kk); (case hh => assumption))
  | ((with_reducible refine m_said (w := ?v1) (t := ?v2) (l := ?v3) (told := ?v4) (many := ?v5) ?hh ?kk); (case hh => assumption))
  | ((with_reducible refine m_looks (w := ?v1) (t := ?v2) (l := ?v3) (told := ?v4) (many := ?v5) ?hh ?kk); (case hh => assumption))
  | ((with_reducible refine j_kind (c := ?v1) (r := ?v2) (said := ?v3) (n := ?v4) (s := ?v5) ?hh ?kk); (case hh => assumption))
  | ((with_reducible refine j_rest (c := ?v1) (r := ?v2) (said := ?v3) (n := ?v4) (s := ?v5) ?hh ?kk); (case hh => assumption))
  | ((with_reducible refine j_saids (c := ?v1) (r := ?v2) (b := ?v3) (n := ?v4) (s := ?v5) ?hh ?kk); (case hh => assumption))
  | ((with_reducible refine j_said (c := ?v1) (r := ?v2) (said := ?v3) (n := ?v4) (s := ?v5) ?hh ?kk); (case hh => assumption))
  | ((with_reducible refine j_found (c := ?v1) (r := ?v2) (said := ?v3) (n := ?v4) (s := ?v5) ?hh ?kk); (case hh => assumption))
  | ((with_reducible refine j_paper (c := ?v1) (r := ?v2) (said := ?v3) (n := ?v4) (s := ?v5) ?hh ?kk); (case hh => assumption)))
namespace My
abbrev s_law_looked : Stmt := top 36
theorem sc_law_looked : FnScope ["_law_numbers", "_law_beginning", "_law_zero", "_law_one", "_law_number_here"] ["_law_numbers", "_law_beginning"] (defScope s_law_looked) := ⟨rfl, rfl, rfl, by decide +kernel, rfl, by decide +kernel, by decide +kernel⟩
abbrev s_law_model : Stmt := top 37
theorem sc_law_model : FnScope ["_law_width_here"] ["_law_width_here"] (defScope s_law_model) := ⟨rfl, rfl, rfl, by decide +kernel, rfl, by decide +kernel, by decide +kernel⟩
abbrev s_law_begun : Stmt := top 38
theorem sc_law_begun : FnScope ["_law_m", "_law_kind", "_law_number_here"] ["_law_m", "_law_kind"] (defScope s_law_begun) := ⟨rfl, rfl, rfl, by decide +kernel, rfl, by decide +kernel, by decide +kernel⟩
abbrev s_law_said : Stmt := top 39
theorem sc_law_said : FnScope ["_law_m", "_law_bit", "_law_place", "_law_number_here"] ["_law_m", "_law_bit"] (defScope s_law_said) := ⟨rfl, rfl, rfl, by decide +kernel, rfl, by decide +kernel, by decide +kernel⟩
abbrev s_law_deed : Stmt := top 40
theorem sc_law_deed : FnScope ["_law_m", "_law_word_here", "_law_number_here", "_law_one"] ["_law_m", "_law_word_here", "_law_number_here"] (defScope s_law_deed) := ⟨rfl, rfl, rfl, by decide +kernel, rfl, by decide +kernel, by decide +kernel⟩
section
variable (K : PySem.W.Frag)
def sp_looked : Sp := fun vs H Q _ => ∃ (p : Addr) (ls : List Bits) (b : Bits), vs = [.ref p, .str (B b)] ∧ SqL K H p (bvs ls) ∧ ls.length ≤ 1000 ∧ (∀ l ∈ ls, b.length < l.length ∧ l.length ≤ 1000) ∧
  ∀ (q : Addr) (H' : Hp), H q = none → Ext H H' → H' q = some (.tup [.bl (lookZ ls b false), .bl (lookZ ls b true)]) → Q (.ref q) H'
def sp_model : Sp := fun vs H Q _ => ∃ n : Nat, vs = [.int (n : Int)] ∧ ∀ (d t l : Addr) (H' : Hp), H d = none → H t = none → H l = none → Ext H H' → MAt d t l ⟨n, [], [], none, 0⟩ H' → Q (.ref d) H'
def sp_begun : Sp := fun vs H Q _ => ∃ (d t l : Addr) (M : WM) (c : Bool), vs = [.ref d, .str (kindS c)] ∧ MAt d t l M H ∧ WOk M ∧ ∀ (l' : Addr) (H' : Hp), MAt d t l' (M.begin c) H' → Step [d, t, l] [d, t, l'] H H' → Q .non H'
def sp_said : Sp := fun vs H Q _ => ∃ (d t l : Addr) (M : WM) (b : Bits) (c : Bool), vs = [.ref d, .int (bi c)] ∧ MAt d t l M H ∧ WOk M ∧ M.told = some b ∧ b.length < M.width ∧ ∀ (l' : Addr) (H' : Hp), MAt d t l' (M.say b c) H' → Step [d, t, l] [d, t, l'] H H' → Q .non H'
def sp_deed : Sp := fun vs H Q _ => ∃ (d t l : Addr) (M : WM) (wd : Str) (x : Bits), vs = [.ref d, .str wd, .str (B x)] ∧ MAt d t l M H ∧ WOk M ∧ M.things.length < 60 ∧ ∀ (l' : Addr) (H' : Hp), MAt d t l' (deedM M wd x).1 H' → Step [d, t, l] [d, t, l'] H H' → Q (.str (deedM M wd x).2) H'
end
theorem lookZ_take (ls : List Bits) (b : Bits) (c : Bool) {i : Nat} {x : Bits} (h : ls[i]? = some x) (hl : b.length < x.length) : lookZ (ls.take (i + 1)) b c = (lookZ (ls.take i) b c || (decide (b <+: x) && decide (x[b.length]? = some c))) := by
  have e : ls.take (i + 1) = ls.take i ++ [x] := by
    rw [List.take_succ, h]
    rfl
  unfold lookZ
  rw [e, List.any_append]
  congr 1
  simp only [List.any_cons, List.any_nil, Bool.or_false]
  rw [Bool.eq_iff_iff, Bool.and_eq_true, decide_eq_true_eq, decide_eq_true_eq, decide_eq_true_eq]
  constructor
  · intro h
    have hb := snoc_pre h
    exact ⟨hb, (one_more hb hl).mpr h⟩
  · rintro ⟨hb, h⟩
    exact (one_more hb hl).mp h
section
variable {P : Program} {w : World} {K : PySem.W.Frag} {mg : Str → Option Value} {base : Heap}
theorem ok_looked {f : Addr} {fd : FuncData} (F : Fun K "_law_looked" "_law_looked" s_law_looked f fd) (T : TxB mg) : FnOk P w K mg base (L2.CX P w) 1 f fd ["_law_numbers", "_law_beginning"] (sp_looked K) := by
  refine F.okX sc_law_looked (fun vs H Q E h => ?_) (fun cdv A outer s H vs Q E hr h => ⟨_, (pss_cons (ps_asg (pe_tup (pa_cons pe_bl (pa_cons pe_bl pa_nil))) (pg_tup rfl (pgs_cons (pg_name (i := 2) sc_law_looked.nd rfl (by first | exact Or.inl rfl | exact Or.inr rfl)) (pgs_cons (pg_name (i := 3) sc_law_looked.nd rfl (by first | exact Or.inl rfl | exact Or.inr rfl)) pgs_nil))))
 (pss_cons (ps_for (passes_of rfl) rfl (piL (K := K) rfl (pv 0)) (pg_name (i := 4) sc_law_looked.nd rfl (by first | exact Or.inl rfl | exact Or.inr rfl))
 (pss_one (ps_if (pt_cmpR op_eq (pe_slice sl_str (pv 4) po_none (po_some (pe_callB c_lenT (by rfl) T.n_len (by decide +kernel) (pa_cons (pv 1) pa_nil)))) (pv 1) (nomark _))
 (pss_cons (ps_set (i := 2) sc_law_looked.nd rfl (by first | exact Or.inl rfl | exact Or.inr rfl) (pe_or (pv 2) (pe_one (pe_cmpR op_eq (pe_ix ix_str (pv 4) (pe_callB c_lenT (by rfl) T.n_len (by decide +kernel) (pa_cons (pv 1) pa_nil)) (fun _ _ => rfl)) pe_str (nomark _)))))
 (pss_one (ps_set (i := 3) sc_law_looked.nd rfl (by first | exact Or.inl rfl | exact Or.inr rfl) (pe_or (pv 3) (pe_one (pe_cmpR op_eq (pe_ix ix_str (pv 4) (pe_callB c_lenT (by rfl) T.n_len (by decide +kernel) (pa_cons (pv 1) pa_nil)) (fun _ _ => rfl)) pe_str (nomark _)))))))
 pss_nil)))
 (pss_one (ps_ret (pe_tup (pa_cons (pv 2) (pa_cons (pv 3) pa_nil))))))), ?_⟩)
  · obtain ⟨p, ls, b, rfl, _⟩ := h
    rfl
  · obtain ⟨p, ls, b, rfl, hp, hz, hl, q⟩ := h
    tm_at "r"
    intro z H1 hz1 e1 hz2
    refine ⟨z, _, rfl, SqT.of hz2, rfl, ?_⟩
    tm_at "r"
    have hp1 := e1.seq (nsh_bvs ls) hp
    refine w_lstOk hp1 ?_
    refine forL (fun i σ2 H2 => ∃ v : Option V, σ2 = [some (.ref p), some (.str (B b)), some (.bl (lookZ (ls.take i) b false)), some (.bl (lookZ (ls.take i) b true)), v] ∧ H2 = H1) (fun i σ2 H2 ⟨v, _, e⟩ => by rw [e]; exact hp1) ⟨none, rfl, rfl⟩ ?_ ?_
    · rintro i x σ2 H2 NN hi ⟨v, rfl, rfl⟩ kN
      obtain ⟨l, hl1, rfl⟩ := bvs_get hi
      obtain ⟨h1, h2⟩ := hl l (List.mem_of_getElem? hl1)
      have e0 := lookZ_take ls b false hl1 h1
      have e1 := lookZ_take ls b true hl1 h1
      obtain ⟨c, hc⟩ : ∃ c, l[b.length]? = some c := ⟨l[b.length], List.getElem?_eq_getElem h1⟩
      tm_at "r"
      refine w_lenS (by rw [B_len]; omega) ?_
      rw [B_len]
      tm_at "r"
      refine w_slS (by rw [B_len]; omega) ?_
      rw [cutS_to]
      tm_at "r"
      have et : decide (B (l.take b.length) = B b) = decide (b <+: l) := by
        rw [Bool.eq_iff_iff, decide_eq_true_eq, decide_eq_true_eq, B_eq, List.prefix_iff_eq_take]
        exact ⟨fun h => h.symm, fun h => h.symm⟩
      rw [et]
      have fin : ∀ (o1 o2 : Bool), o1 = lookZ (ls.take (i + 1)) b false → o2 = lookZ (ls.take (i + 1)) b true → NN [some (.ref p), some (.str (B b)), some (.bl o1), some (.bl o2), some (.str (B l))] H2 := fun o1 o2 h3 h4 => by
        subst h3
        subst h4
        exact kN _ _ ⟨_, rfl, rfl⟩
      have d0 : decide (B [c] = B [false]) = decide (some c = some false) := by
        rw [Bool.eq_iff_iff, decide_eq_true_eq, decide_eq_true_eq, B_eq]
        simp
      have d1 : decide (B [c] = B [true]) = decide (some c = some true) := by
        rw [Bool.eq_iff_iff, decide_eq_true_eq, decide_eq_true_eq, B_eq]
        simp
      rw [hc] at e0 e1
      refine w_iteD (fun hb => ?_) fun hb => ?_
      · rw [decide_eq_true hb, Bool.true_and] at e0 e1
        tm_at "r"
        cases z0 : lookZ (ls.take i) b false <;> cases z1 : lookZ (ls.take i) b true
        all_goals rw [z0] at e0
        all_goals rw [z1] at e1
        all_goals tm_at "e"
        all_goals repeat (first | refine w_lenS (by rw [B_len]; omega) ?_ | refine w_ixS (by rw [B_len]; omega) (B_at (atI_k hc)) ?_ | rw [B_len] | rw [B_one] | rw [B_0] | rw [B_1] | rw [d0] | rw [d1] | tm_at "s" | tm_at "b")
        all_goals exact fin _ _ (by rw [e0]; simp) (by rw [e1]; simp)
      · rw [decide_eq_false hb, Bool.false_and, Bool.or_false] at e0 e1
        tm_at "r"
        exact fin _ _ e0.symm e1.symm
    · rintro σ2 H2 ⟨v, rfl, rfl⟩
      rw [bvs_len, List.take_length]
      tm_at "r"
      intro t H3 ht e3 ht3
      exact q t H3 (e1.free ht) (e1.trans e3) ht3
theorem ok_model {f : Addr} {fd : FuncData} (F : Fun K "_law_model" "_law_model" s_law_model f fd) (T : TxB mg) : FnOk P w K mg base (L2.CX P w) 1 f fd ["_law_width_here"] sp_model := by
  refine F.okX sc_law_model (fun vs H Q E h => ?_) (fun cdv A outer s H vs Q E hr h => ⟨_, (pss_one (ps_ret (pe_disp (pps_cons pe_str (pv 0) (pps_cons pe_str pe_dnewK (pps_cons pe_str (pe_lst pa_nil) (pps_cons pe_str pe_non (pps_cons pe_str pe_int pps_nil))))) (by rfl) (by rfl) (fun z => by cases z) (by decide)))), ?_⟩)
  · obtain ⟨n, rfl, _⟩ := h
    rfl
  · obtain ⟨n, rfl, q⟩ := h
    tm_at "r"
    refine w_disp fun d H1 hd e1 hd1 => ?_
    tm_at "r"
    refine w_dnew fun t H2 ht e2 ht2 => ?_
    tm_at "r"
    intro l H3 hl e3 hl3
    tm_at "r"
    have hd2 := e2.st _ _ hd1 nsh_dK
    have hd3 := e3.st _ _ hd2 nsh_dK
    have ht3 := e3.st _ _ ht2 nsh_dK
    have ndt : d ≠ t := ne_of_none hd1 ht
    have ndl : d ≠ l := ne_of_none hd2 hl
    refine ⟨hd3, mf n t l none 0, rfl, by show 5 ≤ 15; decide, ?_⟩
    have em : mergeK [] (mf n t l none 0) = mf n t l none 0 := by kernel_rfl
    rw [em]
    refine q d t l _ hd (e1.free ht) (e1.free (e2.free hl)) (((e1.trans e2).trans e3).mut hd) ⟨upd_same, ?_, ?_, ndt⟩
    · rw [upd_ne ndt.symm]
      exact ht3
    · rw [upd_ne ndl.symm]
      exact hl3
theorem ok_begun {f : Addr} {fd : FuncData} (F : Fun K "_law_begun" "_law_begun" s_law_begun f fd) (T : TxB mg) : FnOk P w K mg base (L2.CX P w) 1 f fd ["_law_m", "_law_kind"] sp_begun := by
  refine F.okX sc_law_begun (fun vs H Q E h => ?_) (fun cdv A outer s H vs Q E hr h => ⟨_, (pss_cons (ps_dput (hu_of hr) (pv 0) pe_str pe_str rfl)
 (pss_one (ps_dput (hu_of hr) (pv 0) pe_str (pe_lock (pe_lc (own := [("_law_number_here", 2)]) (g := gName 2) rfl sc_law_begun.nd (pi_keys (pe_dget (hu_of hr) (pv 0) pe_str (fun _ _ => rfl))) (blkOk_by (own := [("_law_number_here", 2)]) (N := ["_law_m", "_law_kind", "_law_number_here"]) (sc := defScope s_law_begun) (by decide +kernel)) (fun _ _ _ _ _ => pg_name (i := 2) sc_law_begun.nd rfl (Or.inl rfl)) (fun _ _ _ _ _ => pts_one (PW.pt (pw_or (pt_cmpR op_eq (pv 1) pe_str (nomark _)) (pw_or1 (pt_val (pe_dget (hu_of hr) (pe_dget (hu_of hr) (pv 0) pe_str (fun _ _ => rfl)) (pv 2) (fun _ _ => rfl))))))) (fun _ _ _ _ _ => (pv 2)))) rfl))), ?_⟩)
  · obtain ⟨d, t, l, M, c, rfl, _⟩ := h
    rfl
  · obtain ⟨d, t, l, M, c, rfl, g, ok, q⟩ := h
    have ob := g.ob
    tm_at "r"
    refine mp_said (some []) (by rw [B_nil]; rfl) ob ?_
    have ob1 : upd H d (.dK (mf M.width t l (some []) M.many)) d = some (.dK (mf M.width t l (some []) M.many)) := upd_same
    have th1 : upd H d (.dK (mf M.width t l (some []) M.many)) t = some (.dK (tK V.bl M.things)) := by rw [upd_ne g.dt.symm]; exact g.th
    have m1 : Step [d, t, l] [d, t, l] H (upd H d (.dK (mf M.width t l (some []) M.many))) := Step.wr g.ob (by simp)
    generalize upd H d (.dK (mf M.width t l (some []) M.many)) = H1 at ob1 th1 m1 ⊢
    tm_at "r"
    refine w_lockE th1 fun od H2 h2 hn2 => ?_
    have ob2 : H2 d = some (.dK (mf M.width t l (some []) M.many)) := by rw [hn2 d g.dt]; exact ob1
    tm_at "r"
    refine w_keysOk h2 ?_
    have ek : ∀ (i : Nat) (x : V), (∃ (y : Bits) (u : Bool), M.things[i]? = some (y, u) ∧ x = V.str (B y)) → ∃ y, (M.things.map (·.1))[i]? = some y ∧ x = .str (B y) := fun i x ⟨y, u, h, e⟩ => ⟨y, by rw [List.getElem?_map, h]; rfl, e⟩
    have sk := src_keys h2
    rw [← List.length_map (f := (·.1)) (as := M.things)] at sk
    have ep : (M.things.map (·.1)).filter (fun y => c || (alook M.things y).getD false) = ((M.things.filter fun p => c || p.2).map (·.1)) := by
      rw [List.filter_map]
      congr 1
      apply List.filter_congr
      rintro ⟨y, u⟩ hm
      simp only [Function.comp]
      rw [alook_of ok.nd hm]
      rfl
    refine lcFB (fun y => c || (alook M.things y).getD false) sk ek (by rw [List.length_map]; have := ok.sz; omega) (fun _ => rfl) (fun y H3 NF NE hy e3 kF kE => ?_) fun p H3 hp e3 hp3 => ?_
    · have ob3 := e3.st _ _ ob2 nsh_dK
      have h3 := e3.st _ _ h2 nsh_frz
      obtain ⟨u, hu⟩ := alook_some hy
      rw [hu] at kF kE
      tm_at "r"
      have ec : decide (kindS c = "all") = c := kindS_dec c
      rw [ec]
      cases c
      · tm_at "e"
        refine w_dgetB (.inr ⟨_, h3⟩) hu ?_
        tm_at "r"
        cases u
        · tm_at "e"
          exact kF rfl
        · tm_at "e"
          exact kE rfl
      · tm_at "e"
        exact kE rfl
    · rw [ep] at hp3
      have h3 := e3.st _ _ h2 nsh_frz
      refine ⟨h3, ?_⟩
      have npt : p ≠ t := fun e => by rw [e, h2] at hp; cases hp
      have e4 := ext_unlock th1 h2 hn2 e3
      have hp4 : upd H3 t (.dK (tK V.bl M.things)) p = some (.lst (bvs ((M.things.filter fun p => c || p.2).map (·.1)))) := by rw [upd_ne npt]; exact hp3
      have ob4 := e4.st _ _ ob1 nsh_dK
      have th4 := e4.st _ _ th1 nsh_dK
      have fp : H1 p = none := by rw [← hn2 p npt]; exact hp
      generalize upd H3 t (.dK (tK V.bl M.things)) = H4 at e4 hp4 ob4 th4 ⊢
      tm_at "r"
      refine mp_lis ob4 ?_
      have npd : p ≠ d := fun e => by rw [e, ob1] at fp; cases fp
      refine q p _ ⟨upd_same, ?_, ?_, g.dt⟩ (((m1.trans (Step.of e4)).trans (Step.wr ob4 (by simp))).to fun b hb => ?_)
      · rw [upd_ne g.dt.symm]
        exact th4
      · rw [upd_ne npd]
        exact hp4
      · simp only [List.mem_cons, List.not_mem_nil, or_false] at hb
        rcases hb with rfl | rfl | rfl
        · exact .inl (by simp)
        · exact .inl (by simp)
        · exact .inr (m1.free fp)
theorem ok_said {f : Addr} {fd : FuncData} (F : Fun K "_law_said" "_law_said" s_law_said f fd) (T : TxB mg) : FnOk P w K mg base (L2.CX P w) 1 f fd ["_law_m", "_law_bit"] sp_said := by
  refine F.okX sc_law_said (fun vs H Q E h => ?_) (fun cdv A outer s H vs Q E hr h => ⟨_, (pss_cons (ps_set (i := 2) sc_law_said.nd rfl (by first | exact Or.inl rfl | exact Or.inr rfl) (pe_callB c_lenT (by rfl) T.n_len (by decide +kernel) (pa_cons (pe_dget (hu_of hr) (pv 0) pe_str (fun _ _ => rfl)) pa_nil)))
 (pss_cons (ps_dput (hu_of hr) (pv 0) pe_str (pe_lc (own := [("_law_number_here", 3)]) (g := gName 3) rfl sc_law_said.nd (piL (K := K) rfl (pe_dget (hu_of hr) (pv 0) pe_str (fun _ _ => rfl))) (blkOk_by (own := [("_law_number_here", 3)]) (N := ["_law_m", "_law_bit", "_law_place", "_law_number_here"]) (sc := defScope s_law_said) (by decide +kernel)) (fun _ _ _ _ _ => pg_name (i := 3) sc_law_said.nd rfl (Or.inl rfl)) (fun _ _ _ _ _ => pts_one (pt_cmpR op_eq (pe_ix ix_str (pv 3) (pv 2) (fun _ _ => rfl)) (pe_callTy c_strI (by rfl) T.n_str (by decide +kernel) (pa_cons (pv 1) pa_nil)) (nomark _))) (fun _ _ _ _ _ => (pv 3))) rfl)
 (pss_one (ps_dput (hu_of hr) (pv 0) pe_str (pe_op o_addS (pe_dget (hu_of hr) (pv 0) pe_str (fun _ _ => rfl)) (pe_callTy c_strI (by rfl) T.n_str (by decide +kernel) (pa_cons (pv 1) pa_nil))) rfl)))), ?_⟩)
  · obtain ⟨d, t, l, M, b, c, rfl, _⟩ := h
    rfl
  · obtain ⟨d, t, l, M, b, c, rfl, g, ok, ht, hb, q⟩ := h
    have ob := g.ob
    have hw := ok.w2
    rw [ht] at ob
    tm_at "r"
    refine w_lenS (by rw [B_len]; omega) ?_
    rw [B_len]
    tm_at "r"
    refine w_lstOk (SqL.of g.li) ?_
    refine lcFB (fun y => decide (b ++ [c] <+: y)) (src_bits (SqL.of g.li)) (fun i x h => yb h) (by have := ok.lsz; omega) (fun _ => rfl) (fun y H1 NF NE hy e1 kF kE => ?_) fun p H1 hp e1 hp1 => ?_
    · have hl := ok.llen y hy
      have hlt : b.length < y.length := by omega
      obtain ⟨u, hu⟩ : ∃ u, y[b.length]? = some u := ⟨y[b.length], List.getElem?_eq_getElem hlt⟩
      have hpre := (ok.tl b ht).2 y hy
      tm_at "r"
      refine w_ixS (by rw [B_len]; omega) (B_at (atI_k hu)) ?_
      rw [B_one]
      tm_at "r"
      refine w_strI (by cases c <;> decide) ?_
      rw [str_bi]
      tm_at "r"
      have ed : decide (B [u] = B [c]) = decide (b ++ [c] <+: y) := by
        rw [Bool.eq_iff_iff, decide_eq_true_eq, decide_eq_true_eq, B_eq, ← one_more hpre hlt, hu]
        simp
      rw [ed]
      refine w_iteD (fun h => ?_) fun h => ?_
      · tm_at "r"
        exact kE (decide_eq_true h)
      · exact kF (decide_eq_false h)
    · have ob1 := e1.st _ _ ob nsh_dK
      have th1 := e1.st _ _ g.th nsh_dK
      tm_at "r"
      refine mp_lis ob1 ?_
      have npd : p ≠ d := fun e => by rw [e, ob] at hp; cases hp
      have npt : p ≠ t := fun e => by rw [e, g.th] at hp; cases hp
      tm_at "r"
      have ob2 : upd H1 d (.dK (mf M.width t p (some b) M.many)) d = some (.dK (mf M.width t p (some b) M.many)) := upd_same
      tm_at "r"
      refine w_strI (by cases c <;> decide) ?_
      rw [str_bi]
      refine w_addS (by rw [B_len, B_len]; simp; omega) ?_
      rw [B_app]
      tm_at "r"
      refine mp_said (some (b ++ [c])) rfl ob2 ?_
      rw [upd_upd]
      refine q p _ ⟨upd_same, ?_, ?_, g.dt⟩ (((Step.of e1).trans (Step.wr ob1 (by simp))).to fun x hx => ?_)
      · rw [upd_ne g.dt.symm]
        exact th1
      · rw [upd_ne npd]
        exact hp1
      · simp only [List.mem_cons, List.not_mem_nil, or_false] at hx
        rcases hx with rfl | rfl | rfl
        · exact .inl (by simp)
        · exact .inl (by simp)
        · exact .inr hp
theorem ok_deed {f : Addr} {fd : FuncData} (F : Fun K "_law_deed" "_law_deed" s_law_deed f fd) (T : TxB mg) : FnOk P w K mg base (L2.CX P w) 1 f fd ["_law_m", "_law_word_here", "_law_number_here"] sp_deed := by
  refine F.okX sc_law_deed (fun vs H Q E h => ?_) (fun cdv A outer s H vs Q E hr h => ⟨_, (pss_cons (ps_if (pt_cmpR op_eq (pv 1) pe_str (nomark _))
 (pss_cons (ps_if (pt_cmp (pc_din (hu_of hr) (pv 2) (pe_dget (hu_of hr) (pv 0) pe_str (fun _ _ => rfl))))
 (pss_one (ps_ret pe_str))
 pss_nil)
 (pss_cons (ps_dput (hu_of hr) (pe_dget (hu_of hr) (pv 0) pe_str (fun _ _ => rfl)) (pv 2) pe_bl rfl)
 (pss_one (ps_ret pe_str))))
 pss_nil)
 (pss_cons (ps_if (pt_cmp (pc_dnotin (hu_of hr) (pv 2) (pe_dget (hu_of hr) (pv 0) pe_str (fun _ _ => rfl))))
 (pss_one (ps_ret pe_str))
 pss_nil)
 (pss_cons (ps_if (pt_cmpR op_eq (pv 1) pe_str (nomark _))
 (pss_cons (ps_expr (pe_dpop1 (pe_dget (hu_of hr) (pv 0) pe_str (fun _ _ => rfl)) (pv 2) ⟨rfl, rfl, rfl, rfl⟩))
 (pss_one (ps_dput (hu_of hr) (pv 0) pe_str (pe_lc (own := [("_law_one", 3)]) (g := gName 3) rfl sc_law_deed.nd (piL (K := K) rfl (pe_dget (hu_of hr) (pv 0) pe_str (fun _ _ => rfl))) (blkOk_by (own := [("_law_one", 3)]) (N := ["_law_m", "_law_word_here", "_law_number_here", "_law_one"]) (sc := defScope s_law_deed) (by decide +kernel)) (fun _ _ _ _ _ => pg_name (i := 3) sc_law_deed.nd rfl (Or.inl rfl)) (fun _ _ _ _ _ => pts_one (pt_cmpR op_ne (pv 3) (pv 2) (nomark _))) (fun _ _ _ _ _ => (pv 3))) rfl)))
 (pss_one (ps_dput (hu_of hr) (pe_dget (hu_of hr) (pv 0) pe_str (fun _ _ => rfl)) (pv 2) (pe_cmpR op_eq (pv 1) pe_str (nomark _)) rfl)))
 (pss_one (ps_ret pe_str))))), ?_⟩)
  · obtain ⟨d, t, l, M, wd, x, rfl, _⟩ := h
    rfl
  · obtain ⟨d, t, l, M, wd, x, rfl, g, ok, hz, q⟩ := h
    have ob := g.ob
    unfold deedM WM.keys at q
    tm_at "r"
    refine w_iteD (fun c => ?_) fun c => ?_
    · rw [if_pos c] at q
      tm_at "r"
      refine w_dinB (.inl g.th) ?_
      tm_at "r"
      refine w_iteD (fun hk => ?_) fun hk => ?_
      · rw [if_pos hk] at q
        tm_at "r"
        exact q l H g (Step.of (Ext.refl _))
      · rw [if_neg hk] at q
        tm_at "r"
        refine w_dputB (g := V.bl) g.th (by omega) ?_
        rw [aput_new hk]
        tm_at "r"
        refine q l _ ⟨?_, upd_same, ?_, g.dt⟩ (Step.wr g.th (by simp))
        · rw [upd_ne g.dt]
          exact g.ob
        · rw [upd_ne g.tl.symm]
          exact g.li
    · rw [if_neg c] at q
      tm_at "r"
      refine w_dnotB (.inl g.th) ?_
      tm_at "r"
      refine w_iteN (fun hk => ?_) fun hk => ?_
      · rw [if_neg hk] at q
        tm_at "r"
        exact q l H g (Step.of (Ext.refl _))
      · rw [if_pos hk] at q
        tm_at "r"
        refine w_iteD (fun c2 => ?_) fun c2 => ?_
        · rw [if_pos c2] at q
          tm_at "r"
          refine w_popD g.th ?_
          tm_at "r"
          obtain ⟨b, hb⟩ := alook_some hk
          refine w_popK g.th hb ?_
          have ob1 : upd H t (.dK (tK V.bl (adrop M.things x))) d = some (.dK (mf M.width t l M.told M.many)) := by rw [upd_ne g.dt]; exact g.ob
          have li1 : upd H t (.dK (tK V.bl (adrop M.things x))) l = some (.lst (bvs M.lis)) := by rw [upd_ne g.tl.symm]; exact g.li
          have th1 : upd H t (.dK (tK V.bl (adrop M.things x))) t = some (.dK (tK V.bl (adrop M.things x))) := upd_same
          have m1 : Step [d, t, l] [d, t, l] H (upd H t (.dK (tK V.bl (adrop M.things x)))) := Step.wr g.th (by simp)
          generalize upd H t (.dK (tK V.bl (adrop M.things x))) = H1 at ob1 li1 th1 m1 ⊢
          tm_at "r"
          refine w_lstOk (SqL.of li1) ?_
          refine lcFB (fun y => decide (y ≠ x)) (src_bits (SqL.of li1)) (fun i x h => yb h) (by have := ok.lsz; omega) (fun _ => rfl) (fun y H2 NF NE hy e1 kF kE => ?_) fun p H2 hp e2 hp2 => ?_
          · tm_at "r"
            have ed : (!decide (B y = B x)) = decide (y ≠ x) := by
              rw [Bool.eq_iff_iff]
              simp [B_eq]
            rw [ed]
            refine w_iteD (fun h => ?_) fun h => ?_
            · tm_at "r"
              exact kE (decide_eq_true h)
            · exact kF (decide_eq_false h)
          · have ob2 := e2.st _ _ ob1 nsh_dK
            have th2 := e2.st _ _ th1 nsh_dK
            tm_at "r"
            refine mp_lis ob2 ?_
            have npd : p ≠ d := fun e => by rw [e, ob1] at hp; cases hp
            tm_at "r"
            refine q p _ ⟨upd_same, ?_, ?_, g.dt⟩ (((m1.trans (Step.of e2)).trans (Step.wr ob2 (by simp))).to fun x hx => ?_)
            · rw [upd_ne g.dt.symm]
              exact th2
            · rw [upd_ne npd]
              exact hp2
            · simp only [List.mem_cons, List.not_mem_nil, or_false] at hx
              rcases hx with rfl | rfl | rfl
              · exact .inl (by simp)
              · exact .inl (by simp)
              · exact .inr (m1.free hp)
        · rw [if_neg c2] at q
          tm_at "r"
          refine w_dputB (g := V.bl) g.th (by omega) ?_
          tm_at "r"
          refine q l _ ⟨?_, upd_same, ?_, g.dt⟩ (Step.wr g.th (by simp))
          · rw [upd_ne g.dt]
            exact g.ob
          · rw [upd_ne g.tl.symm]
            exact g.li
end
end My
end

section
open PySem L2 Lw
local macro_rules | `(tactic| tm_at "s") => `(tactic| first
  | with_reducible refine w_seq ?_ | with_reducible refine w_asg ?_ | with_reducible refine w_gname ?_ | with_reducible refine w_ret ?_ | with_reducible refine w_drop ?_ | with_reducible refine w_ifS ?_ | with_reducible refine w_next ?_ | with_reducible refine w_retN ?_
  | with_reducible refine w_c ?_ | ((with_reducible refine w_var (v := ?vv) ?hh ?kk); (case hh => exact rfl)) | with_reducible refine w_op ?_ | with_reducible refine w_un ?_ | with_reducible refine w_cons ?_ | with_reducible refine w_nil ?_ | with_reducible refine w_test ?_ | with_reducible refine w_B ?_
  | with_reducible refine w_isbl ?_ | with_reducible refine w_not ?_ | with_reducible refine w_and ?_ | with_reducible refine w_or ?_ | with_reducible refine w_andV ?_ | with_reducible refine w_orV ?_ | with_reducible refine w_notV ?_ | with_reducible refine w_if ?_ | with_reducible refine w_chain ?_
  | with_reducible refine w_isN ?_ | with_reducible refine w_notN ?_ | with_reducible refine w_yes ?_ | with_reducible refine w_call ?_ | with_reducible refine w_CB ?_ | with_reducible refine w_tup ?_ | with_reducible refine w_lst ?_ | with_reducible refine w_sl ?_ | with_reducible refine w_noPart ?_
  | with_reducible refine w_part ?_ | with_reducible refine w_isint ?_ | with_reducible refine w_gSub ?_ | with_reducible refine w_break ?_ | with_reducible refine w_cont ?_
  | with_reducible refine w_I0 ?_ | with_reducible refine w_eqI ?_ | with_reducible refine w_neI ?_ | with_reducible refine w_eqS ?_ | with_reducible refine w_neS ?_ | with_reducible refine w_eqB ?_ | with_reducible refine w_neB ?_ | ((with_reducible refine w_isi (d := ?dd) ?hh ?kk); (case hh => assumption))
  | with_reducible refine w_sg ?_ | with_reducible refine w_notSg ?_ | with_reducible refine w_starts ?_ | with_reducible refine w_max2 ?_ | with_reducible refine w_min2 ?_ | with_reducible refine w_intB ?_ | with_reducible refine w_intI ?_ | with_reducible refine w_bm ?_ | with_reducible refine w_bm0 ?_ | with_reducible refine w_m1 ?_ | with_reducible refine w_m0 ?_ | with_reducible refine w_isstr ?_
  | with_reducible refine w_for ?_ | with_reducible refine w_lc ?_ | with_reducible refine w_rng ?_ | with_reducible refine w_rng2 ?_ | with_reducible refine w_ilist ?_ | with_reducible refine w_itup ?_ | with_reducible refine w_istr ?_ | with_reducible refine w_strOk ?_
  | ((with_reducible refine w_rngOk ?hh ?h2 ?kk); (case hh => omega); (case h2 => omega)) | ((with_reducible refine w_lstOk (xs := ?xx) ?hh ?kk); (case hh => assumption))
  | ((with_reducible refine w_alL ?hh ?kk); (case hh => exact Nat.le_of_ble_eq_true rfl)) | ((with_reducible refine w_alT ?hh ?kk); (case hh => exact Nat.le_of_ble_eq_true rfl))
  | ((with_reducible refine w_lenL (xs := ?xx) ?hh ?kk); (case hh => assumption)) | ((with_reducible refine w_lenT (xs := ?xx) ?hh ?kk); (case hh => assumption))
  | ((with_reducible refine w_I ?hh ?kk); (case hh => first | (show _ ≠ (0 : Int); omega) | (show (0 : Int) < _; omega) | exact ⟨by omega, by omega⟩ | exact .inl ⟨by omega, by omega⟩ | exact .inr ⟨by omega, by omega⟩ | exact ⟨by decide, by decide, by decide⟩))
  | with_reducible refine w_din ?_ | with_reducible refine w_dnot ?_ | with_reducible refine w_dget ?_ | with_reducible refine w_dput ?_ | with_reducible refine w_fld ?_ | with_reducible refine w_sto ?_ | with_reducible refine w_meth ?_ | with_reducible refine w_pop1 ?_ | with_reducible refine w_pop2 ?_ | with_reducible refine w_ikeys ?_
  | ((with_reducible refine f_width (CW := ?v1) (dx := ?v2) (t := ?v3) (l := ?v4) (w := ?v5) (told := ?v6) (many := ?v7) ?tw ?hh ?kk); (case tw => assumption); (case hh => assumption))
  | ((with_reducible refine f_things (CW := ?v1) (dx := ?v2) (t := ?v3) (l := ?v4) (w := ?v5) (told := ?v6) (many := ?v7) ?tw ?hh ?kk); (case tw => assumption); (case hh => assumption))
  | ((with_reducible refine f_listening (CW := ?v1) (dx := ?v2) (t := ?v3) (l := ?v4) (w := ?v5) (told := ?v6) (many := ?v7) ?tw ?hh ?kk); (case tw => assumption); (case hh => assumption))
  | ((with_reducible refine f_tolds (CW := ?v1) (dx := ?v2) (t := ?v3) (l := ?v4) (w := ?v5) (b := ?v6) (many := ?v7) ?tw ?hh ?kk); (case tw => assumption); (case hh => assumption))
  | ((with_reducible refine f_told (CW := ?v1) (dx := ?v2) (t := ?v3) (l := ?v4) (w := ?v5) (told := ?v6) (many := ?v7) ?tw ?hh ?kk); (case tw => assumption); (case hh => assumption))
  | ((with_reducible refine f_many (CW := ?v1) (dx := ?v2) (t := ?v3) (l := ?v4) (w := ?v5) (told := ?v6) (many := ?v7) ?tw ?hh ?kk); (case tw => assumption); (case hh => assumption))
  | ((with_reducible refine w_ixL (v := ?vv) (xs := ?xx) ?hh ?h2 ?kk); (case hh => assumption); (case h2 => exact rfl)) | ((with_reducible refine w_ixT (v := ?vv) (xs := ?xx) ?hh ?h2 ?kk); (case hh => assumption); (case h2 => exact rfl)))
local macro_rules | `(tactic| tm_at "r") => `(tactic| repeat tm_at "s")
local macro_rules | `(tactic| tm_at "b") => `(tactic| first | refine w_iteT (by with_reducible rfl) ?_ | refine w_iteF (by with_reducible rfl) ?_ | refine w_iteT (by rfl) ?_ | refine w_iteF (by rfl) ?_)
local macro_rules | `(tactic| tm_at "e") => `(tactic| repeat (first | tm_at "s" | tm_at "b"))
local macro_rules | `(tactic| tm_at "s") => `(tactic| first
  | with_reducible refine w_gcons ?_ | with_reducible refine w_gnil ?_
  | ((with_reducible refine g_wire (CK := ?v1) (dx := ?v2) (a := ?v3) (c := ?v4) (r := ?v5) (said := ?v6) (n := ?v7) (s := ?v8) ?tw ?hh ?kk); (case tw => assumption); (case hh => assumption))
  | ((with_reducible refine g_kind (CK := ?v1) (dx := ?v2) (a := ?v3) (c := ?v4) (r := ?v5) (said := ?v6) (n := ?v7) (s := ?v8) ?tw ?hh ?kk); (case tw => assumption); (case hh => assumption))
  | ((with_reducible refine g_rest (CK := ?v1) (dx := ?v2) (a := ?v3) (c := ?v4) (r := ?v5) (said := ?v6) (n := ?v7) (s := ?v8) ?tw ?hh ?kk); (case tw => assumption); (case hh => assumption))
  | ((with_reducible refine g_saids (CK := ?v1) (dx := ?v2) (a := ?v3) (c := ?v4) (r := ?v5) (b := ?v6) (n := ?v7) (s := ?v8) ?tw ?hh ?kk); (case tw => assumption); (case hh => assumption))
  | ((with_reducible refine g_said (CK := ?v1) (dx := ?v2) (a := ?v3) (c := ?v4) (r := ?v5) (said := ?v6) (n := ?v7) (s := ?v8) ?tw ?hh ?kk); (case tw => assumption); (case hh => assumption))
  | ((with_reducible refine g_names (CK := ?v1) (dx := ?v2) (a := ?v3) (c := ?v4) (r := ?v5) (said := ?v6) (n := ?v7) (s := ?v8) ?tw ?hh ?kk); (case tw => assumption); (case hh => assumption))
  | ((with_reducible refine g_seen (CK := ?v1) (dx := ?v2) (a := ?v3) (c := ?v4) (r := ?v5) (said := ?v6) (n := ?v7) (s := ?v8) ?tw ?hh ?kk); (case tw => assumption); (case hh => assumption)))
local macro_rules | `(tactic| tm_at "s") => `(tactic| first
  | with_reducible refine w_pcons ?_ | with_reducible refine w_pnil ?_
  | ((with_reducible refine m_width (w := ?v1) (t := ?v2) (l := ?v3) (told := ?v4) (many := ?v5) ?hh ?kk); (case hh => assumption))
  | ((with_reducible refine m_things (w := ?v1) (t := ?v2) (l := ?v3) (told := ?v4) (many := ?v5) ?hh ?kk); (case hh => assumption))
  | ((with_reducible refine m_lis (w := ?v1) (t := ?v2) (l := ?v3) (told := ?v4) (many := ?v5) ?hh ?kk); (case hh => assumption))
  | ((with_reducible refine m_saids (w := ?v1) (t := ?v2) (l := ?v3) (b := ?v4) (many := ?v5) ?hh ?kk); (case hh => assumption))
  | ((with_reducible refine m_said (w := ?v1) (t := ?v2) (l := ?v3) (told := ?v4) (many := ?v5) ?hh ?kk); (case hh => assumption))
  | ((with_reducible refine m_looks (w := ?v1) (t := ?v2) (l := ?v3) (told := ?v4) (many := ?v5) ?hh ?kk); (case hh => assumption))
  | ((with_reducible refine j_kind (c := ?v1) (r := ?v2) (said := ?v3) (n := ?v4) (s := ?v5) ?hh ?kk); (case hh => assumption))
  | ((with_reducible refine j_rest (c := ?v1) (r := ?v2) (said := ?v3) (n := ?v4) (s := ?v5) ?hh ?kk); (case hh => assumption))
  | ((with_reducible refine j_saids (c := ?v1) (r := ?v2) (b := ?v3) (n := ?v4) (s := ?v5) ?hh ?kk); (case hh => assumption))
  | ((with_reducible refine j_said (c := ?v1) (r := ?v2) (said := ?v3) (n := ?v4) (s := ?v5) ?hh ?kk); (case hh => assumption))
  | ((with_reducible refine j_found (c := ?v1) (r := ?v2) (said := ?v3) (n := ?v4) (s := ?v5) ?hh ?kk); (case hh => assumption))
  | ((with_reducible refine j_paper (c := ?v1) (r := ?v2) (said := ?v3) (n := ?v4) (s := ?v5) ?hh ?kk); (case hh => assumption)))
namespace My
section
variable (K : PySem.W.Frag)
def sp_path : Sp := fun vs H Q _ => ∃ c : Bool, vs = [.str (kindS c)] ∧ ∀ (d r n s : Addr) (H' : Hp), H d = none → H r = none → H n = none → H s = none → Ext H H' → JAt d r n s [] ⟨c, [[]], none, [], []⟩ H' → Q (.ref d) H'
def sp_over : Sp := fun vs H Q _ => ∃ (d dm t l r n s : Addr) (ps : List Addr) (M : WM) (N : KM) (b : Bits), vs = [.ref d, .ref dm] ∧ Sts H [oM dm t l M, oJ d r n s ps N] ∧ N.said = some b ∧ b.length ≤ 1000 ∧ N.Sz ∧
  ∀ (v : V) (H' : Hp), Sts H' [oM dm t l M, oJ d r n s ps (N.ended M.width b).1] → Dq K H' v (dres (N.ended M.width b).2) → Step ([d, r, n, s] ++ ps) ([d, r, n, s] ++ ps) H H' → Q v H'
def JOut (dm t l d r n s : Addr) (ps : List Addr) (H : Hp) (Q : VK) (M : WM) (N : KM) (e : Res) : Prop := ∀ (l' : Addr) (ps' : List Addr) (v : V) (H' : Hp), Sts H' [oM dm t l' M, oJ d r n s ps' N] → Dq K H' v (dres e) → Step ([dm, t, l] ++ ([d, r, n, s] ++ ps)) ([dm, t, l'] ++ ([d, r, n, s] ++ ps')) H H' → Q v H'
def sp_jstep : Sp := fun vs H Q _ => ∃ (d dm t l r n s : Addr) (ps : List Addr) (M : WM) (N : KM), vs = [.ref d, .ref dm] ∧ Sts H [oM dm t l M, oJ d r n s ps N] ∧ WOk M ∧ KP M N ∧ Szz N ∧ N.over = false ∧ JOut K dm t l d r n s ps H Q (kstep M N).1 (kstep M N).2.1 (kstep M N).2.2
def sp_jround : Sp := fun vs H Q _ => ∃ (d dm t l r n s : Addr) (ps : List Addr) (M : WM) (N : KM) (j : Nat) (M1 : WM) (N1 : KM) (e : Res), vs = [.ref d, .ref dm] ∧ Sts H [oM dm t l M, oJ d r n s ps N] ∧ WOk M ∧ KP M N ∧ SzB 8900 N ∧ N.over = false ∧ KRound j M N M1 N1 e ∧ j ≤ 13 ∧ JOut K dm t l d r n s ps H Q M1 N1 e
end
section
variable {P : Program} {w : World} {K : PySem.W.Frag} {mg : Str → Option Value} {base : Heap}
def RJ_ (K : PySem.W.Frag) (dm t l d r n s : Addr) (ps : List Addr) (H0 : Hp) (M' : WM) (N' : KM) (e' : Res) (m : Nat) (σ : St) (H : Hp) : Prop := ∃ (v : V) (M1 : WM) (N1 : KM) (e : Res) (l1 : Addr) (ps1 : List Addr), σ = [some (.ref d), some (.ref dm), some v] ∧ Sts H [oM dm t l1 M1, oJ d r n s ps1 N1] ∧ Dq K H v (dres e) ∧
  Step ([dm, t, l] ++ ([d, r, n, s] ++ ps)) ([dm, t, l1] ++ ([d, r, n, s] ++ ps1)) H0 H ∧ ((m = 0 ∧ e ≠ .none ∧ M1 = M' ∧ N1 = N' ∧ e = e') ∨ (e = .none ∧ KRound m M1 N1 M' N' e' ∧ WOk M1 ∧ KP M1 N1 ∧ N1.over = false ∧ SzB (8914 - m) N1 ∧ m ≤ 13))
theorem jround_split {j : Nat} {M M1 : WM} {N N1 : KM} {e : Res} (t : KRound j M N M1 N1 e) : (j = 1 ∧ (kstep M N).2.2 ≠ .none ∧ M1 = (kstep M N).1 ∧ N1 = (kstep M N).2.1 ∧ e = (kstep M N).2.2) ∨ (∃ m, j = m + 1 ∧ (kstep M N).2.2 = .none ∧ KRound m (kstep M N).1 (kstep M N).2.1 M1 N1 e) := by
  cases t with
  | last h => exact .inl ⟨rfl, h, rfl, rfl, rfl⟩
  | more h t => exact .inr ⟨_, rfl, h, t⟩
end
end My
end

section
open PySem L2 Lw
local macro_rules | `(tactic| tm_at "s") => `(tactic| first
  | with_reducible refine w_seq ?_ | with_reducible refine w_asg ?_ | with_reducible refine w_gname ?_ | with_reducible refine w_ret ?_ | with_reducible refine w_drop ?_ | with_reducible refine w_ifS ?_ | with_reducible refine w_next ?_ | with_reducible refine w_retN ?_
  | with_reducible refine w_c ?_ | ((with_reducible refine w_var (v := ?vv) ?hh ?kk); (case hh => exact rfl)) | with_reducible refine w_op ?_ | with_reducible refine w_un ?_ | with_reducible refine w_cons ?_ | with_reducible refine w_nil ?_ | with_reducible refine w_test ?_ | with_reducible refine w_B ?_
  | with_reducible refine w_isbl ?_ | with_reducible refine w_not ?_ | with_reducible refine w_and ?_ | with_reducible refine w_or ?_ | with_reducible refine w_andV ?_ | with_reducible refine w_orV ?_ | with_reducible refine w_notV ?_ | with_reducible refine w_if ?_ | with_reducible refine w_chain ?_
  | with_reducible refine w_isN ?_ | with_reducible refine w_notN ?_ | with_reducible refine w_yes ?_ | with_reducible refine w_call ?_ | with_reducible refine w_CB ?_ | with_reducible refine w_tup ?_ | with_reducible refine w_lst ?_ | with_reducible refine w_sl ?_ | with_reducible refine w_noPart ?_
  | with_reducible refine w_part ?_ | with_reducible refine w_isint ?_ | with_reducible refine w_gSub ?_ | with_reducible refine w_break ?_ | with_reducible refine w_cont ?_
  | with_reducible refine w_I0 ?_ | with_reducible refine w_eqI ?_ | with_reducible refine w_neI ?_ | with_reducible refine w_eqS ?_ | with_reducible refine w_neS ?_ | with_reducible refine w_eqB ?_ | with_reducible refine w_neB ?_ | ((with_reducible refine w_isi (d := ?dd) ?hh ?kk); (case hh => assumption))
  | with_reducible refine w_sg ?_ | with_reducible refine w_notSg ?_ | with_reducible refine w_starts ?_ | with_reducible refine w_max2 ?_ | with_reducible refine w_min2 ?_ | with_reducible refine w_intB ?_ | with_reducible refine w_intI ?_ | with_reducible refine w_bm ?_ | with_reducible refine w_bm0 ?_ | with_reducible refine w_m1 ?_ | with_reducible refine w_m0 ?_ | with_reducible refine w_isstr ?_
  | with_reducible refine w_for ?_ | with_reducible refine w_lc ?_ | with_reducible refine w_rng ?_ | with_reducible refine w_rng2 ?_ | with_reducible refine w_ilist ?_ | with_reducible refine w_itup ?_ | with_reducible refine w_istr ?_ | with_reducible refine w_strOk ?_
  | ((with_reducible refine w_rngOk ?hh ?h2 ?kk); (case hh => omega); (case h2 => omega)) | ((with_reducible refine w_lstOk (xs := ?xx) ?hh ?kk); (case hh => assumption))
  | ((with_reducible refine w_alL ?hh ?kk); (case hh => exact Nat.le_of_ble_eq_true rfl)) | ((with_reducible refine w_alT ?hh ?kk); (case hh => exact Nat.le_of_ble_eq_true rfl))
  | ((with_reducible refine w_lenL (xs := ?xx) ?hh ?kk); (case hh => assumption)) | ((with_reducible refine w_lenT (xs := ?xx) ?hh ?kk); (case hh => assumption))
  | ((with_reducible refine w_I ?hh ?kk); (case hh => first | (show _ ≠ (0 : Int); omega) | (show (0 : Int) < _; omega) | exact ⟨by omega, by omega⟩ | exact .inl ⟨by omega, by omega⟩ | exact .inr ⟨by omega, by omega⟩ | exact ⟨by decide, by decide, by decide⟩))
  | with_reducible refine w_din ?_ | with_reducible refine w_dnot ?_ | with_reducible refine w_dget ?_ | with_reducible refine w_dput ?_ | with_reducible refine w_fld ?_ | with_reducible refine w_sto ?_ | with_reducible refine w_meth ?_ | with_reducible refine w_pop1 ?_ | with_reducible refine w_pop2 ?_ | with_reducible refine w_ikeys ?_
  | ((with_reducible refine f_width (CW := ?v1) (dx := ?v2) (t := ?v3) (l := ?v4) (w := ?v5) (told := ?v6) (many := ?v7) ?tw ?hh ?kk); (case tw => assumption); (case hh => assumption))
  | ((with_reducible refine f_things (CW := ?v1) (dx := ?v2) (t := ?v3) (l := ?v4) (w := ?v5) (told := ?v6) (many := ?v7) ?tw ?hh ?kk); (case tw => assumption); (case hh => assumption))
  | ((with_reducible refine f_listening (CW := ?v1) (dx := ?v2) (t := ?v3) (l := ?v4) (w := ?v5) (told := ?v6) (many := ?v7) ?tw ?hh ?kk); (case tw => assumption); (case hh => assumption))
  | ((with_reducible refine f_tolds (CW := ?v1) (dx := ?v2) (t := ?v3) (l := ?v4) (w := ?v5) (b := ?v6) (many := ?v7) ?tw ?hh ?kk); (case tw => assumption); (case hh => assumption))
  | ((with_reducible refine f_told (CW := ?v1) (dx := ?v2) (t := ?v3) (l := ?v4) (w := ?v5) (told := ?v6) (many := ?v7) ?tw ?hh ?kk); (case tw => assumption); (case hh => assumption))
  | ((with_reducible refine f_many (CW := ?v1) (dx := ?v2) (t := ?v3) (l := ?v4) (w := ?v5) (told := ?v6) (many := ?v7) ?tw ?hh ?kk); (case tw => assumption); (case hh => assumption))
  | ((with_reducible refine w_ixL (v := ?vv) (xs := ?xx) ?hh ?h2 ?kk); (case hh => assumption); (case h2 => exact rfl)) | ((with_reducible refine w_ixT (v := ?vv) (xs := ?xx) ?hh ?h2 ?kk); (case hh => assumption); (case h2 => exact rfl)))
local macro_rules | `(tactic| tm_at "r") => `(tactic| repeat tm_at "s")
local macro_rules | `(tactic| tm_at "b") => `(tactic| first | refine w_iteT (by with_reducible rfl) ?_ | refine w_iteF (by with_reducible rfl) ?_ | refine w_iteT (by rfl) ?_ | refine w_iteF (by rfl) ?_)
local macro_rules | `(tactic| tm_at "e") => `(tactic| repeat (first | tm_at "s" | tm_at "b"))
local macro_rules | `(tactic| tm_at "s") => `(tactic| first
  | with_reducible refine w_gcons ?_ | with_reducible refine w_gnil ?_
  | ((with_reducible refine g_wire (CK := ?v1) (dx := ?v2) (a := ?v3) (c := ?v4) (r := ?v5) (said := ?v6) (n := ?v7) (s := ?v8) ?tw ?hh ?kk); (case tw => assumption); (case hh => assumption))
  | ((with_reducible refine g_kind (CK := ?v1) (dx := ?v2) (a := ?v3) (c := ?v4) (r := ?v5) (said := ?v6) (n := ?v7) (s := ?v8) ?tw ?hh ?kk); (case tw => assumption); (case hh => assumption))
  | ((with_reducible refine g_rest (CK := ?v1) (dx := ?v2) (a := ?v3) (c := ?v4) (r := ?v5) (said := ?v6) (n := ?v7) (s := ?v8) ?tw ?hh ?kk); (case tw => assumption); (case hh => assumption))
  | ((with_reducible refine g_saids (CK := ?v1) (dx := ?v2) (a := ?v3) (c := ?v4) (r := ?v5) (b := ?v6) (n := ?v7) (s := ?v8) ?tw ?hh ?kk); (case tw => assumption); (case hh => assumption))
  | ((with_reducible refine g_said (CK := ?v1) (dx := ?v2) (a := ?v3) (c := ?v4) (r := ?v5) (said := ?v6) (n := ?v7) (s := ?v8) ?tw ?hh ?kk); (case tw => assumption); (case hh => assumption))
  | ((with_reducible refine g_names (CK := ?v1) (dx := ?v2) (a := ?v3) (c := ?v4) (r := ?v5) (said := ?v6) (n := ?v7) (s := ?v8) ?tw ?hh ?kk); (case tw => assumption); (case hh => assumption))
  | ((with_reducible refine g_seen (CK := ?v1) (dx := ?v2) (a := ?v3) (c := ?v4) (r := ?v5) (said := ?v6) (n := ?v7) (s := ?v8) ?tw ?hh ?kk); (case tw => assumption); (case hh => assumption)))
local macro_rules | `(tactic| tm_at "s") => `(tactic| first
  | with_reducible refine w_pcons ?_ | with_reducible refine w_pnil ?_
  | ((with_reducible refine m_width (w := ?v1) (t := ?v2) (l := ?v3) (told := ?v4) (many := ?v5) ?hh ?kk); (case hh => assumption))
  | ((with_reducible refine m_things (w := ?v1) (t := ?v2) (l := ?v3) (told := ?v4) (many := ?v5) ?hh ?kk); (case hh => assumption))
  | ((with_reducible refine m_lis (w := ?v1) (t := ?v2) (l := ?v3) (told := ?v4) (many := ?v5) ?hh ?kk); (case hh => assumption))
  | ((with_reducible refine m_saids (w := ?v1) (t := ?v2) (l := ?v3) (b := ?v4) (many := ?v5) ?hh ?kk); (case hh => assumption))
  | ((with_reducible refine m_said (w := ?v1) (t := ?v2) (l := ?v3) (told := ?v4) (many := ?v5) ?hh ?kk); (case hh => assumption))
  | ((with_reducible refine m_looks (w := ?v1) (t := ?v2) (l := ?v3) (told := ?v4) (many := ?v5) ?hh ?kk); (case hh => assumption))
  | ((with_reducible refine j_kind (c := ?v1) (r := ?v2) (said := ?v3) (n := ?v4) (s := ?v5) ?hh ?kk); (case hh => assumption))
  | ((with_reducible refine j_rest (c := ?v1) (r := ?v2) (said := ?v3) (n := ?v4) (s := ?v5) ?hh ?kk); (case hh => assumption))
  | ((with_reducible refine j_saids (c := ?v1) (r := ?v2) (b := ?v3) (n := ?v4) (s := ?v5) ?hh ?kk); (case hh => assumption))
  | ((with_reducible refine j_said (c := ?v1) (r := ?v2) (said := ?v3) (n := ?v4) (s := ?v5) ?hh ?kk); (case hh => assumption))
  | ((with_reducible refine j_found (c := ?v1) (r := ?v2) (said := ?v3) (n := ?v4) (s := ?v5) ?hh ?kk); (case hh => assumption))
  | ((with_reducible refine j_paper (c := ?v1) (r := ?v2) (said := ?v3) (n := ?v4) (s := ?v5) ?hh ?kk); (case hh => assumption)))
namespace My
abbrev s_Wire_alarms : Stmt := inClass (top 27) 7
theorem sc_Wire_alarms : FnScope ["self", "number"] ["self"] (defScope s_Wire_alarms) := ⟨rfl, rfl, rfl, by decide +kernel, rfl, by decide +kernel, by decide +kernel⟩
def sp_alarms (CW : Addr) : Sp := fun vs H Q _ => ∃ (a dx t l : Addr) (M : WM), vs = [.ref a] ∧ WAt CW a dx t l M H ∧ WOk M ∧
  ∀ (p : Addr) (ls : List Bits) (H' : Hp), H p = none → Ext H H' → H' p = some (.lst (bvs ls)) → Rise ls → ls.Perm ((M.things.filter fun p => p.2).map (·.1)) → Q (.ref p) H'
theorem keys_ring {M : WM} (nd : (M.things.map (·.1)).Nodup) : (M.things.map (·.1)).filter (fun y => (alook M.things y).getD false) = (M.things.filter fun p => p.2).map (·.1) := by
  rw [List.filter_map]
  congr 1
  apply List.filter_congr
  rintro ⟨y, u⟩ hm
  simp only [Function.comp]
  rw [alook_of nd hm]
  rfl
section
variable {P : Program} {w : World} {K : PySem.W.Frag} {mg : Str → Option Value} {base : Heap} {CW CK : Addr}
theorem ok_alarms {f : Addr} {fd : FuncData} (F : Fun K "alarms" "Wire.alarms" s_Wire_alarms f fd) (T : TxB mg) (TW : ClW K CW) : FnOk P w K mg base (L2.CX P w) 1 f fd ["self"] (sp_alarms CW) := by
  refine F.okX sc_Wire_alarms (fun vs H Q E h => ?_) (fun cdv A outer s H vs Q E hr h => ⟨_, (pss_one (ps_ret (pe_lc (own := [("number", 1)]) (g := gName 1) rfl sc_Wire_alarms.nd (piL (K := K) rfl (pe_callB (c_sortD rfl) (by rfl) T.n_sorted (by decide +kernel) (pa_cons (pFld (K := K) rfl (pv 0) rfl) pa_nil))) (blkOk_by (own := [("number", 1)]) (N := ["self", "number"]) (sc := defScope s_Wire_alarms) (by decide +kernel)) (fun _ _ _ _ _ => pg_name (i := 1) sc_Wire_alarms.nd rfl (Or.inl rfl)) (fun _ _ _ _ _ => pts_one (pt_val (pe_dget (hu_of hr) (pFld (K := K) rfl (pv 0) rfl) (pv 1) (fun _ _ => rfl)))) (fun _ _ _ _ _ => (pv 1))))), ?_⟩)
  · obtain ⟨a, dx, t, l, M, rfl, _⟩ := h
    rfl
  · obtain ⟨a, dx, t, l, M, rfl, W, ok, q⟩ := h
    have ob := W.ob
    tm_at "r"
    refine w_sortD (.inl W.th) (by have := ok.sz; omega) ok.nd fun ms p H1 hpm hri hp e1 hp1 => ?_
    tm_at "r"
    refine w_lstOk (SqL.of hp1) ?_
    have hml : ms.length ≤ 60 := by
      rw [hpm.length_eq, List.length_map]
      exact ok.sz
    refine lcFB (fun y => (alook M.things y).getD false) (src_bits (SqL.of hp1)) (fun i x h => yb h) (by omega) (fun _ => rfl) (fun y H2 NF NE hy e2 kF kE => ?_) fun p2 H2 hp2 e2 hp3 => ?_
    · have ob2 := (e1.trans e2).st _ _ ob nsh_ins
      have th2 := (e1.trans e2).st _ _ W.th nsh_dK
      obtain ⟨u, hu⟩ := alook_some (hpm.subset hy)
      rw [hu] at kF kE
      tm_at "r"
      refine w_dgetB (.inl th2) hu ?_
      tm_at "r"
      cases u
      · tm_at "e"
        exact kF rfl
      · tm_at "e"
        exact kE rfl
    · refine q p2 _ H2 (e1.free hp2) (e1.trans e2) hp3 (List.Pairwise.filter _ hri) ?_
      rw [← keys_ring ok.nd]
      exact hpm.filter _
end
end My
end

section
set_option pp.maxSteps 700
open PySem L2 Lw
local macro_rules | `(tactic| tm_at "s") => `(tactic| first
  | with_reducible refine w_seq ?_ | with_reducible refine w_asg ?_ | with_reducible refine w_gname ?_ | with_reducible refine w_ret ?_ | with_reducible refine w_drop ?_ | with_reducible refine w_ifS ?_ | with_reducible refine w_next ?_ | with_reducible refine w_retN ?_
  | with_reducible refine w_c ?_ | ((with_reducible refine w_var (v := ?vv) ?hh ?kk); (case hh => exact rfl)) | with_reducible refine w_op ?_ | with_reducible refine w_un ?_ | with_reducible refine w_cons ?_ | with_reducible refine w_nil ?_ | with_reducible refine w_test ?_ | with_reducible refine w_B ?_
  | with_reducible refine w_isbl ?_ | with_reducible refine w_not ?_ | with_reducible refine w_and ?_ | with_reducible refine w_or ?_ | with_reducible refine w_andV ?_ | with_reducible refine w_orV ?_ | with_reducible refine w_notV ?_ | with_reducible refine w_if ?_ | with_reducible refine w_chain ?_
  | with_reducible refine w_isN ?_ | with_reducible refine w_notN ?_ | with_reducible refine w_yes ?_ | with_reducible refine w_call ?_ | with_reducible refine w_CB ?_ | with_reducible refine w_tup ?_ | with_reducible refine w_lst ?_ | with_reducible refine w_sl ?_ | with_reducible refine w_noPart ?_
  | with_reducible refine w_part ?_ | with_reducible refine w_isint ?_ | with_reducible refine w_gSub ?_ | with_reducible refine w_break ?_ | with_reducible refine w_cont ?_
  | with_reducible refine w_I0 ?_ | with_reducible refine w_eqI ?_ | with_reducible refine w_neI ?_ | with_reducible refine w_eqS ?_ | with_reducible refine w_neS ?_ | with_reducible refine w_eqB ?_ | with_reducible refine w_neB ?_ | ((with_reducible refine w_isi (d := ?dd) ?hh ?kk); (case hh => assumption))
  | with_reducible refine w_sg ?_ | with_reducible refine w_notSg ?_ | with_reducible refine w_starts ?_ | with_reducible refine w_max2 ?_ | with_reducible refine w_min2 ?_ | with_reducible refine w_intB ?_ | with_reducible refine w_intI ?_ | with_reducible refine w_bm ?_ | with_reducible refine w_bm0 ?_ | with_reducible refine w_m1 ?_ | with_reducible refine w_m0 ?_ | with_reducible refine w_isstr ?_
  | with_reducible refine w_for ?_ | with_reducible refine w_lc ?_ | with_reducible refine w_rng ?_ | with_reducible refine w_rng2 ?_ | with_reducible refine w_ilist ?_ | with_reducible refine w_itup ?_ | with_reducible refine w_istr ?_ | with_reducible refine w_strOk ?_
  | ((with_reducible refine w_rngOk ?hh ?h2 ?kk); (case hh => omega); (case h2 => omega)) | ((with_reducible refine w_lstOk (xs := ?xx) ?hh ?kk); (case hh => assumption))
  | ((with_reducible refine w_alL ?hh ?kk); (case hh => exact Nat.le_of_ble_eq_true rfl)) | ((with_reducible refine w_alT ?hh ?kk); (case hh => exact Nat.le_of_ble_eq_true rfl))
  | ((with_reducible refine w_lenL (xs := ?xx) ?hh ?kk); (case hh => assumption)) | ((with_reducible refine w_lenT (xs := ?xx) ?hh ?kk); (case hh => assumption))
  | ((with_reducible refine w_I ?hh ?kk); (case hh => first | (show _ ≠ (0 : Int); omega) | (show (0 : Int) < _; omega) | exact ⟨by omega, by omega⟩ | exact .inl ⟨by omega, by omega⟩ | exact .inr ⟨by omega, by omega⟩ | exact ⟨by decide, by decide, by decide⟩))
  | with_reducible refine w_din ?_ | with_reducible refine w_dnot ?_ | with_reducible refine w_dget ?_ | with_reducible refine w_dput ?_ | with_reducible refine w_fld ?_ | with_reducible refine w_sto ?_ | with_reducible refine w_meth ?_ | with_reducible refine w_pop1 ?_ | with_reducible refine w_pop2 ?_ | with_reducible refine w_ikeys ?_
  | ((with_reducible refine f_width (CW := ?v1) (dx := ?v2) (t := ?v3) (l := ?v4) (w := ?v5) (told := ?v6) (many := ?v7) ?tw ?hh ?kk); (case tw => assumption); (case hh => assumption))
  | ((with_reducible refine f_things (CW := ?v1) (dx := ?v2) (t := ?v3) (l := ?v4) (w := ?v5) (told := ?v6) (many := ?v7) ?tw ?hh ?kk); (case tw => assumption); (case hh => assumption))
  | ((with_reducible refine f_listening (CW := ?v1) (dx := ?v2) (t := ?v3) (l := ?v4) (w := ?v5) (told := ?v6) (many := ?v7) ?tw ?hh ?kk); (case tw => assumption); (case hh => assumption))
  | ((with_reducible refine f_tolds (CW := ?v1) (dx := ?v2) (t := ?v3) (l := ?v4) (w := ?v5) (b := ?v6) (many := ?v7) ?tw ?hh ?kk); (case tw => assumption); (case hh => assumption))
  | ((with_reducible refine f_told (CW := ?v1) (dx := ?v2) (t := ?v3) (l := ?v4) (w := ?v5) (told := ?v6) (many := ?v7) ?tw ?hh ?kk); (case tw => assumption); (case hh => assumption))
  | ((with_reducible refine f_many (CW := ?v1) (dx := ?v2) (t := ?v3) (l := ?v4) (w := ?v5) (told := ?v6) (many := ?v7) ?tw ?hh ?kk); (case tw => assumption); (case hh => assumption))
  | ((with_reducible refine w_ixL (v := ?vv) (xs := ?xx) ?hh ?h2 ?kk); (case hh => assumption); (case h2 => exact rfl)) | ((with_reducible refine w_ixT (v := ?vv) (xs := ?xx) ?hh ?h2 ?kk); (case hh => assumption); (case h2 => exact rfl)))
local macro_rules | `(tactic| tm_at "r") => `(tactic| repeat tm_at "s")
local macro_rules | `(tactic| tm_at "b") => `(tactic| first | refine w_iteT (by with_reducible rfl) ?_ | refine w_iteF (by with_reducible rfl) ?_ | refine w_iteT (by rfl) ?_ | refine w_iteF (by rfl) ?_)
local macro_rules | `(tactic| tm_at "e") => `(tactic| repeat (first | tm_at "s" | tm_at "b"))
local macro_rules | `(tactic| tm_at "s") => `(tactic| ((with_reducible refine w_isE (b := ?bb) ?hh ?kk); (case hh => assumption)))
namespace My
abbrev s_law_word : Stmt := top 31
theorem sc_law_word : FnScope ["_law_work", "e", "_law_kinds", "_law_words", "_law_word_here"] ["_law_work"] (defScope s_law_word) := ⟨rfl, rfl, rfl, by decide +kernel, rfl, by decide +kernel, by decide +kernel⟩
theorem gives_word (X : Cx) {K : PySem.W.Frag} {mg : Str → Option Value} (hK : X.K = K) (hmg : X.mg = mg) (T : TxB mg) (g : Kinds K mg) (f0 : Addr) (cdv : Value) (q : Str) :
    LamX.GivesTo X ["_law_work", "e", "_law_kinds", "_law_words", "_law_word_here"] "_law_word" (defScope s_law_word) f0 cdv (defBody s_law_word) "_law_work" q (TWord g) := by
  subst hK
  subst hmg
  intro f c' s H Q tl act hc h
  refine ⟨_, pss_cons (ps_try_as (X := (cxOf C8.CX0 X.prog X.w X.K X.mg X.base ["_law_work", "e", "_law_kinds", "_law_words", "_law_word_here"] "_law_word" (defScope s_law_word) f0 cdv X.A X.stack s H C8.E0).nox) (i := 1) (c := .ref g.c_BusError) (Wout := fun _ _ _ _ => False)
      (tb := fun W D σ H => ∃ Ech : XK, (∀ cls d σ' H', Ech cls d H' → W cls d σ' H') ∧ σ[0]? = some (some (.ref f)) ∧ H c' = some (LamX.CodeO c' q) ∧ tl Ech H (fun _ H' => D.nx σ H'))
      (ts := fun a cls d D σ H => (∃ σ0 : St, σ = σ0.set 1 (some (.ref a))) ∧ WordOk g cls d H D.rt)
      rfl rfl sc_law_word.nd rfl rfl ⟨rfl, by decide, .inl g.m_BusError⟩ LamX.takes0 (fun W pn xe tk _ => ?_) (fun a oe cls d pn hz hf => ?_)) (pss_one (ps_ret pe_str)), ?_⟩
  · refine ⟨fun pins s' σ H' D I h' => ?_⟩
    obtain ⟨Ech, hW, h1, h2, h3⟩ := h'
    exact (pss_one (ps_expr (act W pn xe Ech _ _ tk hW))).run pins s' σ H' D I ⟨h1, h2, h3⟩
  · refine suite_by fun D σ2 H2 hlen h2 => ?_
    obtain ⟨⟨σ0, hσ⟩, i, c, x, hci, hxi, n9, n13, n14, rfl, rfl, k2⟩ := h2
    subst hσ
    rw [List.length_set] at hlen
    obtain ⟨y0, y1, y2, y3, y4, rfl⟩ := five hlen
    clear hlen
    rw [show List.set [y0, y1, y2, y3, y4] 1 (some (V.ref a)) = [y0, some (V.ref a), y2, y3, y4] from rfl]
    have hi15 : i < 15 := (List.getElem?_eq_some_iff.mp hxi).1
    obtain ⟨hv, hC, _⟩ := g.kv c (List.mem_of_getElem? hci)
    have h0 := g.kk i 0 c _ hci rfl
    have h1 := g.kk i 1 c _ hci rfl
    have h2 := g.kk i 2 c _ hci rfl
    have h3 := g.kk i 3 c _ hci rfl
    have h4 := g.kk i 4 c _ hci rfl
    have h5 := g.kk i 5 c _ hci rfl
    have h6 := g.kk i 6 c _ hci rfl
    have h7 := g.kk i 7 c _ hci rfl
    have h8 := g.kk i 8 c _ hci rfl
    have h9 := g.kk i 9 c _ hci rfl
    have h10 := g.kk i 10 c _ hci rfl
    have h11 := g.kk i 11 c _ hci rfl
    have h12 := g.kk i 12 c _ hci rfl
    have h13 := g.kk i 13 c _ hci rfl
    have h14 := g.kk i 14 c _ hci rfl
    refine ⟨_, (pss_cons (ps_set (i := 2) sc_law_word.nd rfl (by first | exact Or.inl rfl | exact Or.inr rfl) (pe_lst (pa_cons (pe_callB (cIsE (K := X.K) rfl hC hz hf) (by rfl) T.n_isinstance (by decide +kernel) (pa_cons (pv 1) (pa_cons (pe_glob (v := .ref g.c_BadWidth) rfl g.m_BadWidth rfl) pa_nil))) (pa_cons (pe_callB (cIsE (K := X.K) rfl hC hz hf) (by rfl) T.n_isinstance (by decide +kernel) (pa_cons (pv 1) (pa_cons (pe_glob (v := .ref g.c_BadNumber) rfl g.m_BadNumber rfl) pa_nil))) (pa_cons (pe_callB (cIsE (K := X.K) rfl hC hz hf) (by rfl) T.n_isinstance (by decide +kernel) (pa_cons (pv 1) (pa_cons (pe_glob (v := .ref g.c_BadKind) rfl g.m_BadKind rfl) pa_nil))) (pa_cons (pe_callB (cIsE (K := X.K) rfl hC hz hf) (by rfl) T.n_isinstance (by decide +kernel) (pa_cons (pv 1) (pa_cons (pe_glob (v := .ref g.c_BadBit) rfl g.m_BadBit rfl) pa_nil))) pa_nil))))))
 (pss_cons (ps_set (i := 2) sc_law_word.nd rfl (by first | exact Or.inl rfl | exact Or.inr rfl) (pe_op op_cat (pv 2) (pe_lst (pa_cons (pe_callB (cIsE (K := X.K) rfl hC hz hf) (by rfl) T.n_isinstance (by decide +kernel) (pa_cons (pv 1) (pa_cons (pe_glob (v := .ref g.c_There) rfl g.m_There rfl) pa_nil))) (pa_cons (pe_callB (cIsE (K := X.K) rfl hC hz hf) (by rfl) T.n_isinstance (by decide +kernel) (pa_cons (pv 1) (pa_cons (pe_glob (v := .ref g.c_NotThere) rfl g.m_NotThere rfl) pa_nil))) (pa_cons (pe_callB (cIsE (K := X.K) rfl hC hz hf) (by rfl) T.n_isinstance (by decide +kernel) (pa_cons (pv 1) (pa_cons (pe_glob (v := .ref g.c_NoRound) rfl g.m_NoRound rfl) pa_nil))) (pa_cons (pe_callB (cIsE (K := X.K) rfl hC hz hf) (by rfl) T.n_isinstance (by decide +kernel) (pa_cons (pv 1) (pa_cons (pe_glob (v := .ref g.c_Over) rfl g.m_Over rfl) pa_nil))) pa_nil)))))))
 (pss_cons (ps_set (i := 2) sc_law_word.nd rfl (by first | exact Or.inl rfl | exact Or.inr rfl) (pe_op op_cat (pv 2) (pe_lst (pa_cons (pe_callB (cIsE (K := X.K) rfl hC hz hf) (by rfl) T.n_isinstance (by decide +kernel) (pa_cons (pv 1) (pa_cons (pe_glob (v := .ref g.c_Busy) rfl g.m_Busy rfl) pa_nil))) (pa_cons (pe_callB (cIsE (K := X.K) rfl hC hz hf) (by rfl) T.n_isinstance (by decide +kernel) (pa_cons (pv 1) (pa_cons (pe_glob (v := .ref g.c_BadLooks) rfl g.m_BadLooks rfl) pa_nil))) (pa_cons (pe_callB (cIsE (K := X.K) rfl hC hz hf) (by rfl) T.n_isinstance (by decide +kernel) (pa_cons (pv 1) (pa_cons (pe_glob (v := .ref g.c_BadRoster) rfl g.m_BadRoster rfl) pa_nil))) pa_nil))))))
 (pss_cons (ps_set (i := 2) sc_law_word.nd rfl (by first | exact Or.inl rfl | exact Or.inr rfl) (pe_op op_cat (pv 2) (pe_lst (pa_cons (pe_callB (cIsE (K := X.K) rfl hC hz hf) (by rfl) T.n_isinstance (by decide +kernel) (pa_cons (pv 1) (pa_cons (pe_glob (v := .ref g.c_TooMany) rfl g.m_TooMany rfl) pa_nil))) (pa_cons (pe_callB (cIsE (K := X.K) rfl hC hz hf) (by rfl) T.n_isinstance (by decide +kernel) (pa_cons (pv 1) (pa_cons (pe_glob (v := .ref g.c_BadPlan) rfl g.m_BadPlan rfl) pa_nil))) (pa_cons (pe_callB (cIsE (K := X.K) rfl hC hz hf) (by rfl) T.n_isinstance (by decide +kernel) (pa_cons (pv 1) (pa_cons (pe_glob (v := .ref g.c_BadStep) rfl g.m_BadStep rfl) pa_nil))) (pa_cons (pe_callB (cIsE (K := X.K) rfl hC hz hf) (by rfl) T.n_isinstance (by decide +kernel) (pa_cons (pv 1) (pa_cons (pe_glob (v := .ref g.c_BadText) rfl g.m_BadText rfl) pa_nil))) pa_nil)))))))
 (pss_cons (ps_if (PW.pt (pw_or (pt_cmpR op_ne (pBm (K := X.K) rfl PySem.F.plainAttrs_list PySem.F.slot_list_count PySem.F.type_list_count (mtCount (K := X.K) rfl) (pv 2) (pa_cons pe_bl pa_nil)) pe_int (nomark _)) (pw_or1 (pt_not (pt_val (pe_callB (cIsE (K := X.K) rfl hC hz hf) (by rfl) T.n_isinstance (by decide +kernel) (pa_cons (pv 1) (pa_cons (pe_bltn (v := .ty "ValueError") rfl T.n_ValueError (by decide +kernel) rfl) pa_nil))))))))
 (pss_one (ps_ret pe_str))
 pss_nil)
 (pss_cons (ps_set (i := 3) sc_law_word.nd rfl (by first | exact Or.inl rfl | exact Or.inr rfl) (pe_lst (pa_cons pe_str (pa_cons pe_str (pa_cons pe_str (pa_cons pe_str (pa_cons pe_str (pa_cons pe_str (pa_cons pe_str (pa_cons pe_str (pa_cons pe_str (pa_cons pe_str (pa_cons pe_str (pa_cons pe_str pa_nil))))))))))))))
 (pss_cons (ps_set (i := 4) sc_law_word.nd rfl (by first | exact Or.inl rfl | exact Or.inr rfl) (pe_ix (ixL (K := X.K) rfl) (pe_op op_cat (pv 3) (pe_lst (pa_cons pe_str (pa_cons pe_str (pa_cons pe_str pa_nil))))) (pBm (K := X.K) rfl PySem.F.plainAttrs_list PySem.F.slot_list_index PySem.F.type_list_index (mtIndex (K := X.K) rfl) (pv 2) (pa_cons pe_bl pa_nil)) (fun _ _ => rfl)))
 (pss_cons (ps_if (pt_cmpR (oIn (K := X.K) rfl) (pv 4) (pe_tup (pa_cons pe_str (pa_cons pe_str pa_nil))) (by rfl))
 (pss_one (ps_ret (pe_tup (pa_cons (pv 4) (pa_cons pe_nev pa_nil)))))
 pss_nil)
 (pss_one (ps_ret (pe_ifExp (pt_cmpR op_eq (pv 4) pe_str (nomark _)) (pe_tup (pa_cons (pv 4) (pa_cons pe_nev pa_nil))) (pv 4)))))))))))), ?_⟩
    tm_at "r"
    intro p1 H3 _ e3 hp1
    tm_at "r"
    intro p2 H4 _ e4 hp2
    have hp1 := e4.st _ _ hp1 (nsh_of fun a i m z e => by cases e)
    refine w_cat hp1 hp2 (by show 8 ≤ 100000; decide) fun p3 H5 _ e5 hp3 => ?_
    tm_at "r"
    intro p4 H6 _ e6 hp4
    have hp3 := e6.st _ _ hp3 (nsh_of fun a i m z e => by cases e)
    refine w_cat hp3 hp4 (by show 11 ≤ 100000; decide) fun p5 H7 _ e7 hp5 => ?_
    tm_at "r"
    intro p6 H8 _ e8 hp6
    have hp5 := e8.st _ _ hp5 (nsh_of fun a i m z e => by cases e)
    refine w_cat hp5 hp6 (by show 15 ≤ 100000; decide) fun p7 H9 _ e9 hp7 => ?_
    have hp7 : H9 p7 = some (.lst (kbs i)) := hp7
    have nk : ¬ RowSh (.lst (kbs i)) := nsh_of fun a b m z e => by
      have := congrArg (fun o => match o with | HO.lst xs => xs.length | _ => 0) e
      cases this
    clear hp1 hp2 hp3 hp4 hp5 hp6
    tm_at "r"
    refine w_tyL (SqL.of hp7) ?_
    tm_at "r"
    refine w_lcount (SqL.of hp7) rfl (kbs_flat i) ?_
    rw [kbs_count hi15]
    tm_at "r"
    tm_at "b"
    tm_at "r"
    refine w_isET hv ?_
    tm_at "r"
    tm_at "b"
    tm_at "r"
    intro p8 H10 _ e10 hp8
    tm_at "r"
    intro p9 H11 _ e11 hp9
    have hp8 := e11.st _ _ hp8 (nsh_of fun a i m z e => by cases e)
    refine w_cat hp8 hp9 (by show 15 ≤ 100000; decide) fun p10 H12 _ e12 hp10 => ?_
    have hp10 : H12 p10 = some (.lst (wordsL.map V.str)) := hp10
    have hp7 := e12.st _ _ (e11.st _ _ (e10.st _ _ hp7 nk) nk) nk
    tm_at "r"
    refine w_tyL (SqL.of hp7) ?_
    tm_at "r"
    refine w_lindex (SqL.of hp7) rfl (kbs_flat i) (kbs_at hi15) rfl (fun m z hm hz => kbs_no hm hz) ?_
    refine w_ixL (v := .str x) (SqL.of hp10) (atI_k (by rw [List.getElem?_map, hxi]; rfl)) ?_
    have en : x ≠ "looks" ∧ x ≠ "step" ∧ x ≠ "text" := by
      have key : ∀ i : Nat, i < 15 → i ≠ 9 → i ≠ 13 → i ≠ 14 → ∀ x : Str, wordsL[i]? = some x → x ≠ "looks" ∧ x ≠ "step" ∧ x ≠ "text" := by
        intro i hi a b c x hx
        have : i = 0 ∨ i = 1 ∨ i = 2 ∨ i = 3 ∨ i = 4 ∨ i = 5 ∨ i = 6 ∨ i = 7 ∨ i = 8 ∨ i = 10 ∨ i = 11 ∨ i = 12 := by omega
        rcases this with rfl | rfl | rfl | rfl | rfl | rfl | rfl | rfl | rfl | rfl | rfl | rfl
        all_goals
          have e := Option.some.inj hx
          subst e
          decide +kernel
      exact key i hi15 n9 n13 n14 x hxi
    have ei : inV (.str x) [V.str "looks", V.str "step"] = false := by
      simp only [inV, List.any_cons, List.any_nil, Bool.or_false, eqV]
      rw [Bool.or_eq_false_iff]
      exact ⟨beq_eq_false_iff_ne.mpr (Ne.symm en.1), beq_eq_false_iff_ne.mpr (Ne.symm en.2.1)⟩
    tm_at "r"
    intro p11 H13 _ e13 hp11
    refine w_inT (SqT.of hp11) rfl rfl ?_
    rw [ei]
    tm_at "r"
    tm_at "b"
    tm_at "r"
    rw [decide_eq_false en.2.2]
    tm_at "r"
    tm_at "b"
    tm_at "r"
    exact k2 _ ((((((((((e3.trans e4).trans e5).trans e6).trans e7).trans e8).trans e9).trans e10).trans e11).trans e12).trans e13)
  · refine ⟨fun cls d H' => WordOk g cls d H' Q, fun cls d σ' H' hw => ?_, rfl, hc, ?_⟩
    · have hw2 := hw
      obtain ⟨i, c, x, hci, hxi, n9, n13, n14, rfl, rfl, k2⟩ := hw
      obtain ⟨hv, hC, hx⟩ := g.kv c (List.mem_of_getElem? hci)
      exact ⟨true, hx, fun _ a _ => ⟨⟨σ', rfl⟩, hw2⟩, fun h => by cases h⟩
    · exact h
end My
local macro_rules | `(tactic| tm_at "s") => `(tactic| ((with_reducible refine w_isE (b := ?bb) ?hh ?kk); (case hh => assumption)))
namespace My
theorem gives_wordR (X : Cx) {K : PySem.W.Frag} {mg : Str → Option Value} (hK : X.K = K) (hmg : X.mg = mg) (T : TxB mg) (g : Kinds K mg) (f0 : Addr) (cdv : Value) :
    GivesR X ["_law_work", "e", "_law_kinds", "_law_words", "_law_word_here"] "_law_word" (defScope s_law_word) f0 cdv (defBody s_law_word) "_law_work" (TWord g) := by
  subst hK
  subst hmg
  intro R f s H Q tl act hc h
  refine ⟨_, pss_cons (ps_try_as (X := (cxOf C8.CX0 X.prog X.w X.K X.mg X.base ["_law_work", "e", "_law_kinds", "_law_words", "_law_word_here"] "_law_word" (defScope s_law_word) f0 cdv X.A X.stack s H C8.E0).nox) (i := 1) (c := .ref g.c_BusError) (Wout := fun _ _ _ _ => False)
      (tb := fun W D σ H => ∃ Ech : XK, (∀ cls d σ' H', Ech cls d H' → W cls d σ' H') ∧ σ[0]? = some (some (.ref f)) ∧ R H ∧ tl Ech H (fun _ H' => D.nx σ H'))
      (ts := fun a cls d D σ H => (∃ σ0 : St, σ = σ0.set 1 (some (.ref a))) ∧ WordOk g cls d H D.rt)
      rfl rfl sc_law_word.nd rfl rfl ⟨rfl, by decide, .inl g.m_BusError⟩ LamX.takes0 (fun W pn xe tk _ => ?_) (fun a oe cls d pn hz hf => ?_)) (pss_one (ps_ret pe_str)), ?_⟩
  · refine ⟨fun pins s' σ H' D I h' => ?_⟩
    obtain ⟨Ech, hW, h1, h2, h3⟩ := h'
    exact (pss_one (ps_expr (act W pn xe Ech _ _ tk hW))).run pins s' σ H' D I ⟨h1, h2, h3⟩
  · refine suite_by fun D σ2 H2 hlen h2 => ?_
    obtain ⟨⟨σ0, hσ⟩, i, c, x, hci, hxi, n9, n13, n14, rfl, rfl, k2⟩ := h2
    subst hσ
    rw [List.length_set] at hlen
    obtain ⟨y0, y1, y2, y3, y4, rfl⟩ := five hlen
    clear hlen
    rw [show List.set [y0, y1, y2, y3, y4] 1 (some (V.ref a)) = [y0, some (V.ref a), y2, y3, y4] from rfl]
    have hi15 : i < 15 := (List.getElem?_eq_some_iff.mp hxi).1
    obtain ⟨hv, hC, _⟩ := g.kv c (List.mem_of_getElem? hci)
    have h0 := g.kk i 0 c _ hci rfl
    have h1 := g.kk i 1 c _ hci rfl
    have h2 := g.kk i 2 c _ hci rfl
    have h3 := g.kk i 3 c _ hci rfl
    have h4 := g.kk i 4 c _ hci rfl
    have h5 := g.kk i 5 c _ hci rfl
    have h6 := g.kk i 6 c _ hci rfl
    have h7 := g.kk i 7 c _ hci rfl
    have h8 := g.kk i 8 c _ hci rfl
    have h9 := g.kk i 9 c _ hci rfl
    have h10 := g.kk i 10 c _ hci rfl
    have h11 := g.kk i 11 c _ hci rfl
    have h12 := g.kk i 12 c _ hci rfl
    have h13 := g.kk i 13 c _ hci rfl
    have h14 := g.kk i 14 c _ hci rfl
    refine ⟨_, (pss_cons (ps_set (i := 2) sc_law_word.nd rfl (by first | exact Or.inl rfl | exact Or.inr rfl) (pe_lst (pa_cons (pe_callB (cIsE (K := X.K) rfl hC hz hf) (by rfl) T.n_isinstance (by decide +kernel) (pa_cons (pv 1) (pa_cons (pe_glob (v := .ref g.c_BadWidth) rfl g.m_BadWidth rfl) pa_nil))) (pa_cons (pe_callB (cIsE (K := X.K) rfl hC hz hf) (by rfl) T.n_isinstance (by decide +kernel) (pa_cons (pv 1) (pa_cons (pe_glob (v := .ref g.c_BadNumber) rfl g.m_BadNumber rfl) pa_nil))) (pa_cons (pe_callB (cIsE (K := X.K) rfl hC hz hf) (by rfl) T.n_isinstance (by decide +kernel) (pa_cons (pv 1) (pa_cons (pe_glob (v := .ref g.c_BadKind) rfl g.m_BadKind rfl) pa_nil))) (pa_cons (pe_callB (cIsE (K := X.K) rfl hC hz hf) (by rfl) T.n_isinstance (by decide +kernel) (pa_cons (pv 1) (pa_cons (pe_glob (v := .ref g.c_BadBit) rfl g.m_BadBit rfl) pa_nil))) pa_nil))))))
 (pss_cons (ps_set (i := 2) sc_law_word.nd rfl (by first | exact Or.inl rfl | exact Or.inr rfl) (pe_op op_cat (pv 2) (pe_lst (pa_cons (pe_callB (cIsE (K := X.K) rfl hC hz hf) (by rfl) T.n_isinstance (by decide +kernel) (pa_cons (pv 1) (pa_cons (pe_glob (v := .ref g.c_There) rfl g.m_There rfl) pa_nil))) (pa_cons (pe_callB (cIsE (K := X.K) rfl hC hz hf) (by rfl) T.n_isinstance (by decide +kernel) (pa_cons (pv 1) (pa_cons (pe_glob (v := .ref g.c_NotThere) rfl g.m_NotThere rfl) pa_nil))) (pa_cons (pe_callB (cIsE (K := X.K) rfl hC hz hf) (by rfl) T.n_isinstance (by decide +kernel) (pa_cons (pv 1) (pa_cons (pe_glob (v := .ref g.c_NoRound) rfl g.m_NoRound rfl) pa_nil))) (pa_cons (pe_callB (cIsE (K := X.K) rfl hC hz hf) (by rfl) T.n_isinstance (by decide +kernel) (pa_cons (pv 1) (pa_cons (pe_glob (v := .ref g.c_Over) rfl g.m_Over rfl) pa_nil))) pa_nil)))))))
 (pss_cons (ps_set (i := 2) sc_law_word.nd rfl (by first | exact Or.inl rfl | exact Or.inr rfl) (pe_op op_cat (pv 2) (pe_lst (pa_cons (pe_callB (cIsE (K := X.K) rfl hC hz hf) (by rfl) T.n_isinstance (by decide +kernel) (pa_cons (pv 1) (pa_cons (pe_glob (v := .ref g.c_Busy) rfl g.m_Busy rfl) pa_nil))) (pa_cons (pe_callB (cIsE (K := X.K) rfl hC hz hf) (by rfl) T.n_isinstance (by decide +kernel) (pa_cons (pv 1) (pa_cons (pe_glob (v := .ref g.c_BadLooks) rfl g.m_BadLooks rfl) pa_nil))) (pa_cons (pe_callB (cIsE (K := X.K) rfl hC hz hf) (by rfl) T.n_isinstance (by decide +kernel) (pa_cons (pv 1) (pa_cons (pe_glob (v := .ref g.c_BadRoster) rfl g.m_BadRoster rfl) pa_nil))) pa_nil))))))
 (pss_cons (ps_set (i := 2) sc_law_word.nd rfl (by first | exact Or.inl rfl | exact Or.inr rfl) (pe_op op_cat (pv 2) (pe_lst (pa_cons (pe_callB (cIsE (K := X.K) rfl hC hz hf) (by rfl) T.n_isinstance (by decide +kernel) (pa_cons (pv 1) (pa_cons (pe_glob (v := .ref g.c_TooMany) rfl g.m_TooMany rfl) pa_nil))) (pa_cons (pe_callB (cIsE (K := X.K) rfl hC hz hf) (by rfl) T.n_isinstance (by decide +kernel) (pa_cons (pv 1) (pa_cons (pe_glob (v := .ref g.c_BadPlan) rfl g.m_BadPlan rfl) pa_nil))) (pa_cons (pe_callB (cIsE (K := X.K) rfl hC hz hf) (by rfl) T.n_isinstance (by decide +kernel) (pa_cons (pv 1) (pa_cons (pe_glob (v := .ref g.c_BadStep) rfl g.m_BadStep rfl) pa_nil))) (pa_cons (pe_callB (cIsE (K := X.K) rfl hC hz hf) (by rfl) T.n_isinstance (by decide +kernel) (pa_cons (pv 1) (pa_cons (pe_glob (v := .ref g.c_BadText) rfl g.m_BadText rfl) pa_nil))) pa_nil)))))))
 (pss_cons (ps_if (PW.pt (pw_or (pt_cmpR op_ne (pBm (K := X.K) rfl PySem.F.plainAttrs_list PySem.F.slot_list_count PySem.F.type_list_count (mtCount (K := X.K) rfl) (pv 2) (pa_cons pe_bl pa_nil)) pe_int (nomark _)) (pw_or1 (pt_not (pt_val (pe_callB (cIsE (K := X.K) rfl hC hz hf) (by rfl) T.n_isinstance (by decide +kernel) (pa_cons (pv 1) (pa_cons (pe_bltn (v := .ty "ValueError") rfl T.n_ValueError (by decide +kernel) rfl) pa_nil))))))))
 (pss_one (ps_ret pe_str))
 pss_nil)
 (pss_cons (ps_set (i := 3) sc_law_word.nd rfl (by first | exact Or.inl rfl | exact Or.inr rfl) (pe_lst (pa_cons pe_str (pa_cons pe_str (pa_cons pe_str (pa_cons pe_str (pa_cons pe_str (pa_cons pe_str (pa_cons pe_str (pa_cons pe_str (pa_cons pe_str (pa_cons pe_str (pa_cons pe_str (pa_cons pe_str pa_nil))))))))))))))
 (pss_cons (ps_set (i := 4) sc_law_word.nd rfl (by first | exact Or.inl rfl | exact Or.inr rfl) (pe_ix (ixL (K := X.K) rfl) (pe_op op_cat (pv 3) (pe_lst (pa_cons pe_str (pa_cons pe_str (pa_cons pe_str pa_nil))))) (pBm (K := X.K) rfl PySem.F.plainAttrs_list PySem.F.slot_list_index PySem.F.type_list_index (mtIndex (K := X.K) rfl) (pv 2) (pa_cons pe_bl pa_nil)) (fun _ _ => rfl)))
 (pss_cons (ps_if (pt_cmpR (oIn (K := X.K) rfl) (pv 4) (pe_tup (pa_cons pe_str (pa_cons pe_str pa_nil))) (by rfl))
 (pss_one (ps_ret (pe_tup (pa_cons (pv 4) (pa_cons pe_nev pa_nil)))))
 pss_nil)
 (pss_one (ps_ret (pe_ifExp (pt_cmpR op_eq (pv 4) pe_str (nomark _)) (pe_tup (pa_cons (pv 4) (pa_cons pe_nev pa_nil))) (pv 4)))))))))))), ?_⟩
    tm_at "r"
    intro p1 H3 _ e3 hp1
    tm_at "r"
    intro p2 H4 _ e4 hp2
    have hp1 := e4.st _ _ hp1 (nsh_of fun a i m z e => by cases e)
    refine w_cat hp1 hp2 (by show 8 ≤ 100000; decide) fun p3 H5 _ e5 hp3 => ?_
    tm_at "r"
    intro p4 H6 _ e6 hp4
    have hp3 := e6.st _ _ hp3 (nsh_of fun a i m z e => by cases e)
    refine w_cat hp3 hp4 (by show 11 ≤ 100000; decide) fun p5 H7 _ e7 hp5 => ?_
    tm_at "r"
    intro p6 H8 _ e8 hp6
    have hp5 := e8.st _ _ hp5 (nsh_of fun a i m z e => by cases e)
    refine w_cat hp5 hp6 (by show 15 ≤ 100000; decide) fun p7 H9 _ e9 hp7 => ?_
    have hp7 : H9 p7 = some (.lst (kbs i)) := hp7
    have nk : ¬ RowSh (.lst (kbs i)) := nsh_of fun a b m z e => by
      have := congrArg (fun o => match o with | HO.lst xs => xs.length | _ => 0) e
      cases this
    clear hp1 hp2 hp3 hp4 hp5 hp6
    tm_at "r"
    refine w_tyL (SqL.of hp7) ?_
    tm_at "r"
    refine w_lcount (SqL.of hp7) rfl (kbs_flat i) ?_
    rw [kbs_count hi15]
    tm_at "r"
    tm_at "b"
    tm_at "r"
    refine w_isET hv ?_
    tm_at "r"
    tm_at "b"
    tm_at "r"
    intro p8 H10 _ e10 hp8
    tm_at "r"
    intro p9 H11 _ e11 hp9
    have hp8 := e11.st _ _ hp8 (nsh_of fun a i m z e => by cases e)
    refine w_cat hp8 hp9 (by show 15 ≤ 100000; decide) fun p10 H12 _ e12 hp10 => ?_
    have hp10 : H12 p10 = some (.lst (wordsL.map V.str)) := hp10
    have hp7 := e12.st _ _ (e11.st _ _ (e10.st _ _ hp7 nk) nk) nk
    tm_at "r"
    refine w_tyL (SqL.of hp7) ?_
    tm_at "r"
    refine w_lindex (SqL.of hp7) rfl (kbs_flat i) (kbs_at hi15) rfl (fun m z hm hz => kbs_no hm hz) ?_
    refine w_ixL (v := .str x) (SqL.of hp10) (atI_k (by rw [List.getElem?_map, hxi]; rfl)) ?_
    have en : x ≠ "looks" ∧ x ≠ "step" ∧ x ≠ "text" := by
      have key : ∀ i : Nat, i < 15 → i ≠ 9 → i ≠ 13 → i ≠ 14 → ∀ x : Str, wordsL[i]? = some x → x ≠ "looks" ∧ x ≠ "step" ∧ x ≠ "text" := by
        intro i hi a b c x hx
        have : i = 0 ∨ i = 1 ∨ i = 2 ∨ i = 3 ∨ i = 4 ∨ i = 5 ∨ i = 6 ∨ i = 7 ∨ i = 8 ∨ i = 10 ∨ i = 11 ∨ i = 12 := by omega
        rcases this with rfl | rfl | rfl | rfl | rfl | rfl | rfl | rfl | rfl | rfl | rfl | rfl
        all_goals
          have e := Option.some.inj hx
          subst e
          decide +kernel
      exact key i hi15 n9 n13 n14 x hxi
    have ei : inV (.str x) [V.str "looks", V.str "step"] = false := by
      simp only [inV, List.any_cons, List.any_nil, Bool.or_false, eqV]
      rw [Bool.or_eq_false_iff]
      exact ⟨beq_eq_false_iff_ne.mpr (Ne.symm en.1), beq_eq_false_iff_ne.mpr (Ne.symm en.2.1)⟩
    tm_at "r"
    intro p11 H13 _ e13 hp11
    refine w_inT (SqT.of hp11) rfl rfl ?_
    rw [ei]
    tm_at "r"
    tm_at "b"
    tm_at "r"
    rw [decide_eq_false en.2.2]
    tm_at "r"
    tm_at "b"
    tm_at "r"
    exact k2 _ ((((((((((e3.trans e4).trans e5).trans e6).trans e7).trans e8).trans e9).trans e10).trans e11).trans e12).trans e13)
  · refine ⟨fun cls d H' => WordOk g cls d H' Q, fun cls d σ' H' hw => ?_, rfl, hc, ?_⟩
    · have hw2 := hw
      obtain ⟨i, c, x, hci, hxi, n9, n13, n14, rfl, rfl, k2⟩ := hw
      obtain ⟨hv, hC, hx⟩ := g.kv c (List.mem_of_getElem? hci)
      exact ⟨true, hx, fun _ a _ => ⟨⟨σ', rfl⟩, hw2⟩, fun h => by cases h⟩
    · exact h
end My
end

section
set_option pp.maxSteps 700
open PySem L2 Lw
local macro_rules | `(tactic| tm_at "s") => `(tactic| first
  | with_reducible refine w_seq ?_ | with_reducible refine w_asg ?_ | with_reducible refine w_gname ?_ | with_reducible refine w_ret ?_ | with_reducible refine w_drop ?_ | with_reducible refine w_ifS ?_ | with_reducible refine w_next ?_ | with_reducible refine w_retN ?_
  | with_reducible refine w_c ?_ | ((with_reducible refine w_var (v := ?vv) ?hh ?kk); (case hh => exact rfl)) | with_reducible refine w_op ?_ | with_reducible refine w_un ?_ | with_reducible refine w_cons ?_ | with_reducible refine w_nil ?_ | with_reducible refine w_test ?_ | with_reducible refine w_B ?_
  | with_reducible refine w_isbl ?_ | with_reducible refine w_not ?_ | with_reducible refine w_and ?_ | with_reducible refine w_or ?_ | with_reducible refine w_andV ?_ | with_reducible refine w_orV ?_ | with_reducible refine w_notV ?_ | with_reducible refine w_if ?_ | with_reducible refine w_chain ?_
  | with_reducible refine w_isN ?_ | with_reducible refine w_notN ?_ | with_reducible refine w_yes ?_ | with_reducible refine w_call ?_ | with_reducible refine w_CB ?_ | with_reducible refine w_tup ?_ | with_reducible refine w_lst ?_ | with_reducible refine w_sl ?_ | with_reducible refine w_noPart ?_
  | with_reducible refine w_part ?_ | with_reducible refine w_isint ?_ | with_reducible refine w_gSub ?_ | with_reducible refine w_break ?_ | with_reducible refine w_cont ?_
  | with_reducible refine w_I0 ?_ | with_reducible refine w_eqI ?_ | with_reducible refine w_neI ?_ | with_reducible refine w_eqS ?_ | with_reducible refine w_neS ?_ | with_reducible refine w_eqB ?_ | with_reducible refine w_neB ?_ | ((with_reducible refine w_isi (d := ?dd) ?hh ?kk); (case hh => assumption))
  | with_reducible refine w_sg ?_ | with_reducible refine w_notSg ?_ | with_reducible refine w_starts ?_ | with_reducible refine w_max2 ?_ | with_reducible refine w_min2 ?_ | with_reducible refine w_intB ?_ | with_reducible refine w_intI ?_ | with_reducible refine w_bm ?_ | with_reducible refine w_bm0 ?_ | with_reducible refine w_m1 ?_ | with_reducible refine w_m0 ?_ | with_reducible refine w_isstr ?_
  | with_reducible refine w_for ?_ | with_reducible refine w_lc ?_ | with_reducible refine w_rng ?_ | with_reducible refine w_rng2 ?_ | with_reducible refine w_ilist ?_ | with_reducible refine w_itup ?_ | with_reducible refine w_istr ?_ | with_reducible refine w_strOk ?_
  | ((with_reducible refine w_rngOk ?hh ?h2 ?kk); (case hh => omega); (case h2 => omega)) | ((with_reducible refine w_lstOk (xs := ?xx) ?hh ?kk); (case hh => assumption))
  | ((with_reducible refine w_alL ?hh ?kk); (case hh => exact Nat.le_of_ble_eq_true rfl)) | ((with_reducible refine w_alT ?hh ?kk); (case hh => exact Nat.le_of_ble_eq_true rfl))
  | ((with_reducible refine w_lenL (xs := ?xx) ?hh ?kk); (case hh => assumption)) | ((with_reducible refine w_lenT (xs := ?xx) ?hh ?kk); (case hh => assumption))
  | ((with_reducible refine w_I ?hh ?kk); (case hh => first | (show _ ≠ (0 : Int); omega) | (show (0 : Int) < _; omega) | exact ⟨by omega, by omega⟩ | exact .inl ⟨by omega, by omega⟩ | exact .inr ⟨by omega, by omega⟩ | exact ⟨by decide, by decide, by decide⟩))
  | with_reducible refine w_din ?_ | with_reducible refine w_dnot ?_ | with_reducible refine w_dget ?_ | with_reducible refine w_dput ?_ | with_reducible refine w_fld ?_ | with_reducible refine w_sto ?_ | with_reducible refine w_meth ?_ | with_reducible refine w_pop1 ?_ | with_reducible refine w_pop2 ?_ | with_reducible refine w_ikeys ?_
  | ((with_reducible refine f_width (CW := ?v1) (dx := ?v2) (t := ?v3) (l := ?v4) (w := ?v5) (told := ?v6) (many := ?v7) ?tw ?hh ?kk); (case tw => assumption); (case hh => assumption))
  | ((with_reducible refine f_things (CW := ?v1) (dx := ?v2) (t := ?v3) (l := ?v4) (w := ?v5) (told := ?v6) (many := ?v7) ?tw ?hh ?kk); (case tw => assumption); (case hh => assumption))
  | ((with_reducible refine f_listening (CW := ?v1) (dx := ?v2) (t := ?v3) (l := ?v4) (w := ?v5) (told := ?v6) (many := ?v7) ?tw ?hh ?kk); (case tw => assumption); (case hh => assumption))
  | ((with_reducible refine f_tolds (CW := ?v1) (dx := ?v2) (t := ?v3) (l := ?v4) (w := ?v5) (b := ?v6) (many := ?v7) ?tw ?hh ?kk); (case tw => assumption); (case hh => assumption))
  | ((with_reducible refine f_told (CW := ?v1) (dx := ?v2) (t := ?v3) (l := ?v4) (w := ?v5) (told := ?v6) (many := ?v7) ?tw ?hh ?kk); (case tw => assumption); (case hh => assumption))
  | ((with_reducible refine f_many (CW := ?v1) (dx := ?v2) (t := ?v3) (l := ?v4) (w := ?v5) (told := ?v6) (many := ?v7) ?tw ?hh ?kk); (case tw => assumption); (case hh => assumption))
  | ((with_reducible refine w_ixL (v := ?vv) (xs := ?xx) ?hh ?h2 ?kk); (case hh => assumption); (case h2 => exact rfl)) | ((with_reducible refine w_ixT (v := ?vv) (xs := ?xx) ?hh ?h2 ?kk); (case hh => assumption); (case h2 => exact rfl)))
local macro_rules | `(tactic| tm_at "r") => `(tactic| repeat tm_at "s")
local macro_rules | `(tactic| tm_at "b") => `(tactic| first | refine w_iteT (by with_reducible rfl) ?_ | refine w_iteF (by with_reducible rfl) ?_ | refine w_iteT (by rfl) ?_ | refine w_iteF (by rfl) ?_)
local macro_rules | `(tactic| tm_at "e") => `(tactic| repeat (first | tm_at "s" | tm_at "b"))
local macro_rules | `(tactic| tm_at "s") => `(tactic| first
  | with_reducible refine w_gcons ?_ | with_reducible refine w_gnil ?_
  | ((with_reducible refine g_wire (CK := ?v1) (dx := ?v2) (a := ?v3) (c := ?v4) (r := ?v5) (said := ?v6) (n := ?v7) (s := ?v8) ?tw ?hh ?kk); (case tw => assumption); (case hh => assumption))
  | ((with_reducible refine g_kind (CK := ?v1) (dx := ?v2) (a := ?v3) (c := ?v4) (r := ?v5) (said := ?v6) (n := ?v7) (s := ?v8) ?tw ?hh ?kk); (case tw => assumption); (case hh => assumption))
  | ((with_reducible refine g_rest (CK := ?v1) (dx := ?v2) (a := ?v3) (c := ?v4) (r := ?v5) (said := ?v6) (n := ?v7) (s := ?v8) ?tw ?hh ?kk); (case tw => assumption); (case hh => assumption))
  | ((with_reducible refine g_saids (CK := ?v1) (dx := ?v2) (a := ?v3) (c := ?v4) (r := ?v5) (b := ?v6) (n := ?v7) (s := ?v8) ?tw ?hh ?kk); (case tw => assumption); (case hh => assumption))
  | ((with_reducible refine g_said (CK := ?v1) (dx := ?v2) (a := ?v3) (c := ?v4) (r := ?v5) (said := ?v6) (n := ?v7) (s := ?v8) ?tw ?hh ?kk); (case tw => assumption); (case hh => assumption))
  | ((with_reducible refine g_names (CK := ?v1) (dx := ?v2) (a := ?v3) (c := ?v4) (r := ?v5) (said := ?v6) (n := ?v7) (s := ?v8) ?tw ?hh ?kk); (case tw => assumption); (case hh => assumption))
  | ((with_reducible refine g_seen (CK := ?v1) (dx := ?v2) (a := ?v3) (c := ?v4) (r := ?v5) (said := ?v6) (n := ?v7) (s := ?v8) ?tw ?hh ?kk); (case tw => assumption); (case hh => assumption)))
local macro_rules | `(tactic| tm_at "s") => `(tactic| first
  | with_reducible refine w_pcons ?_ | with_reducible refine w_pnil ?_
  | ((with_reducible refine m_width (w := ?v1) (t := ?v2) (l := ?v3) (told := ?v4) (many := ?v5) ?hh ?kk); (case hh => assumption))
  | ((with_reducible refine m_things (w := ?v1) (t := ?v2) (l := ?v3) (told := ?v4) (many := ?v5) ?hh ?kk); (case hh => assumption))
  | ((with_reducible refine m_lis (w := ?v1) (t := ?v2) (l := ?v3) (told := ?v4) (many := ?v5) ?hh ?kk); (case hh => assumption))
  | ((with_reducible refine m_saids (w := ?v1) (t := ?v2) (l := ?v3) (b := ?v4) (many := ?v5) ?hh ?kk); (case hh => assumption))
  | ((with_reducible refine m_said (w := ?v1) (t := ?v2) (l := ?v3) (told := ?v4) (many := ?v5) ?hh ?kk); (case hh => assumption))
  | ((with_reducible refine m_looks (w := ?v1) (t := ?v2) (l := ?v3) (told := ?v4) (many := ?v5) ?hh ?kk); (case hh => assumption))
  | ((with_reducible refine j_kind (c := ?v1) (r := ?v2) (said := ?v3) (n := ?v4) (s := ?v5) ?hh ?kk); (case hh => assumption))
  | ((with_reducible refine j_rest (c := ?v1) (r := ?v2) (said := ?v3) (n := ?v4) (s := ?v5) ?hh ?kk); (case hh => assumption))
  | ((with_reducible refine j_saids (c := ?v1) (r := ?v2) (b := ?v3) (n := ?v4) (s := ?v5) ?hh ?kk); (case hh => assumption))
  | ((with_reducible refine j_said (c := ?v1) (r := ?v2) (said := ?v3) (n := ?v4) (s := ?v5) ?hh ?kk); (case hh => assumption))
  | ((with_reducible refine j_found (c := ?v1) (r := ?v2) (said := ?v3) (n := ?v4) (s := ?v5) ?hh ?kk); (case hh => assumption))
  | ((with_reducible refine j_paper (c := ?v1) (r := ?v2) (said := ?v3) (n := ?v4) (s := ?v5) ?hh ?kk); (case hh => assumption)))
namespace My
abbrev s_law_pool : Stmt := top 43
theorem sc_law_pool : FnScope ["_law_row", "_law_width_here", "_law_names"] ["_law_row", "_law_width_here"] (defScope s_law_pool) := ⟨rfl, rfl, rfl, by decide +kernel, rfl, by decide +kernel, by decide +kernel⟩
abbrev s_law_become : Stmt := top 41
theorem sc_law_become : FnScope ["_law_wire", "_law_word_here", "_law_number_here"] ["_law_wire", "_law_word_here", "_law_number_here"] (defScope s_law_become) := ⟨rfl, rfl, rfl, by decide +kernel, rfl, by decide +kernel, by decide +kernel⟩
abbrev s_law_change : Stmt := top 42
theorem sc_law_change : FnScope ["_law_row", "_law_wire", "_law_m", "_law_names", "_law_word_here", "_law_number_here"] ["_law_row", "_law_wire", "_law_m", "_law_names"] (defScope s_law_change) := ⟨rfl, rfl, rfl, by decide +kernel, rfl, by decide +kernel, by decide +kernel⟩
section
variable (K : PySem.W.Frag) (CW cT cNT : Addr)
def sp_pool : Sp := fun vs H Q _ => ∃ (r : Addr) (w : Nat), vs = [.ref r, .int (w : Int)] ∧ RowOk K H r ∧ 1 ≤ w ∧ w ≤ 12 ∧
  ∀ (p : Addr) (ls : List Bits) (H' : Hp), H p = none → Ext H H' → H' p = some (.lst (bvs ls)) → Rise ls → ls ≠ [] → (∀ l ∈ ls, l.length = w) → ls.length ≤ 40 → Q (.ref p) H'
def sp_become : Sp := fun vs H Q E => ∃ (a dx t l : Addr) (M : WM) (wd : Str) (x : Bits), vs = [.ref a, .str wd, .str (B x)] ∧ WAt CW a dx t l M H ∧ WOk M ∧ M.things.length < 60 ∧ x.length = M.width ∧
  ((deedM M wd x).2 = "there" → ∀ H', Ext H H' → E (.ref cT) none H') ∧ ((deedM M wd x).2 = "not" → ∀ H', Ext H H' → E (.ref cNT) none H') ∧
  ∀ H', (deedM M wd x).2 = "" → WAt CW a dx t l (deedM M wd x).1 H' → Step [a, t, l] [a, t, l] H H' → Q .non H'
def sp_change (TT : List (Addr × Str)) : Sp := fun vs H Q _ => ∃ (r a dx t l d tm lm p : Addr) (M Mm : WM) (ls : List Bits), vs = [.ref r, .ref a, .ref d, .ref p] ∧ RowOk K H r ∧ Sts H [oWire CW a dx t l M, oM d tm lm Mm] ∧ WOk M ∧ WOk Mm ∧ Mm.things = M.things ∧ M.things.length < 60 ∧ H p = some (.lst (bvs ls)) ∧ ls ≠ [] ∧ ls.length ≤ 1000 ∧ (∀ x ∈ ls, x.length = M.width) ∧ LamX.Tabs TT H ∧
  ∀ (lm' : Addr) (wd : Str) (x : Bits) (H' : Hp), x ∈ ls → RowOk K H' r → Sts H' [oWire CW a dx t l (deedM M wd x).1, oM d tm lm' (deedM Mm wd x).1] → LamX.Tabs TT H' → StepN TT ([a, t, l] ++ [d, tm, lm]) ([a, t, l] ++ [d, tm, lm']) H H' → Q (.bl true) H'
end
section
variable {P : Program} {w : World} {K : PySem.W.Frag} {mg : Str → Option Value} {base : Heap} {CW : Addr}
theorem ok_pool {f : Addr} {fd : FuncData} (F : Fun K "_law_pool" "_law_pool" s_law_pool f fd) (T : TxB mg) (C_law_taken : Cal P w K mg base 1 "_law_taken" ["_law_row", "_law_many"] (sp_taken K)) (C_law_number : Cal P w K mg base 2 "_law_number" ["_law_row", "_law_width_here"] (sp_number K))
    (C_law_things : Cal P w K mg base 4 "_law_things" ["_law_row", "_law_width_here", "_law_most"] (sp_things K)) : FnOk P w K mg base (L2.CX P w) 5 f fd ["_law_row", "_law_width_here"] (sp_pool K) := by
  refine F.okX sc_law_pool (fun vs H Q E h => ?_) (fun cdv A outer s H vs Q E hr h => ⟨_, (pss_cons (ps_set (i := 2) sc_law_pool.nd rfl (by first | exact Or.inl rfl | exact Or.inr rfl) (pe_cal (E := E0) C_law_things (hr.mono (by first | decide | omega)) passL (pa_cons (pv 0) (pa_cons (pv 1) (pa_cons (pe_ix (ixL (K := K) rfl) (pe_lst (pa_cons pe_int (pa_cons pe_int (pa_cons pe_int pa_nil)))) (pe_cal (E := E0) C_law_taken (hr.mono (by first | decide | omega)) passL (pa_cons (pv 0) (pa_cons pe_int pa_nil))) (fun _ _ => rfl)) pa_nil)))))
 (pss_one (ps_ret (pe_ifExp (pt_cmpR (oNeD (K := K) rfl hr.units) (pv 2) (pe_lst pa_nil) (nomark _)) (pv 2) (pe_lst (pa_cons (pe_cal (E := E0) C_law_number (hr.mono (by first | decide | omega)) passL (pa_cons (pv 0) (pa_cons (pv 1) pa_nil))) pa_nil)))))), ?_⟩)
  · obtain ⟨r, n, rfl, _⟩ := h
    rfl
  · obtain ⟨r, n, rfl, hrow, hn1, hn2, q⟩ := h
    tm_at "r"
    intro z H1 hz e1 hz1
    tm_at "r"
    refine ⟨r, 3, rfl, e1.rowOk hrow, by decide, by decide, fun x H2 hx0 hx3 e2 => ?_⟩
    have hz2 := e2.st _ _ hz1 (nsh_of fun a i m z e => by cases e)
    obtain ⟨most, hm, ha⟩ : ∃ most : Nat, most ≤ 40 ∧ atI [V.int 6, V.int 12, V.int 40] x = some (.int (most : Int)) := by
      have : x = 0 ∨ x = 1 ∨ x = 2 := by omega
      rcases this with rfl | rfl | rfl
      · exact ⟨6, by decide, rfl⟩
      · exact ⟨12, by decide, rfl⟩
      · exact ⟨40, by decide, rfl⟩
    refine w_ixL (SqL.of hz2) ha ?_
    tm_at "r"
    refine u_things (e2.rowOk (e1.rowOk hrow)) hn1 hn2 hm fun p ls H3 hp e3 hp3 hri hlen hl40 _ => ?_
    tm_at "r"
    intro y H4 hy e4 hy4
    have hp4 := e4.st _ _ hp3 (nsh_bvs _)
    refine w_neLs (ls := ls) (ms := []) (SqL.of hp4) (SqL.of hy4) ?_
    tm_at "r"
    refine w_iteN (fun c => ?_) fun c => ?_
    · tm_at "r"
      exact q p ls H4 (e1.free (e2.free hp)) (((e1.trans e2).trans e3).trans e4) hp4 hri c hlen hl40
    · tm_at "r"
      refine ⟨r, (n : Int), rfl, e4.rowOk (e3.rowOk (e2.rowOk (e1.rowOk hrow))), by omega, by omega, fun l H5 hl e5 => ?_⟩
      tm_at "r"
      intro u H6 hu e6 hu6
      refine q u [l] H6 (e1.free (e2.free (e3.free (e4.free (e5.free hu))))) (((((e1.trans e2).trans e3).trans e4).trans e5).trans e6) hu6 (List.pairwise_singleton _ _) (by simp) (fun y hy => ?_) (by simp)
      rw [List.mem_singleton.mp hy]
      omega
theorem ok_become {f cN cT cNT : Addr} {fd : FuncData} (F : Fun K "_law_become" "_law_become" s_law_become f fd) (T : TxB mg) (TW : ClW K CW) (C_Wire_hang : CalM P w K mg base 4 CW "hang" ["self", "number"] (sp_hang K CW cN cT)) (C_Wire_off : CalM P w K mg base 5 CW "off" ["self", "number"] (sp_thing K CW cN cNT (gOff CW)))
    (C_Wire_alarm : CalM P w K mg base 5 CW "alarm" ["self", "number"] (sp_thing K CW cN cNT (gSet CW true))) (C_Wire_calm : CalM P w K mg base 5 CW "calm" ["self", "number"] (sp_thing K CW cN cNT (gSet CW false))) :
    FnOk P w K mg base (L2.CX P w) 6 f fd ["_law_wire", "_law_word_here", "_law_number_here"] (sp_become CW cT cNT) := by
  have cl_Wire := TW.cl
  refine F.okX sc_law_become (fun vs H Q E h => ?_) (fun cdv A outer s H vs Q E hr h => ⟨_, (pss_cons (ps_if (pt_cmpR op_eq (pv 1) pe_str (nomark _))
 (pss_one (ps_ret (pe_me (E := E) (pv 0) cl_Wire C_Wire_hang (hr.mono (by first | decide | omega)) (passes_call (takes_of rfl rfl rfl rfl) (fun _ _ _ _ h => h)) (pa_cons (pv 2) pa_nil))))
 pss_nil)
 (pss_cons (ps_if (pt_cmpR op_eq (pv 1) pe_str (nomark _))
 (pss_one (ps_ret (pe_me (E := E) (pv 0) cl_Wire C_Wire_off (hr.mono (by first | decide | omega)) (passes_call (takes_of rfl rfl rfl rfl) (fun _ _ _ _ h => h)) (pa_cons (pv 2) pa_nil))))
 pss_nil)
 (pss_one (ps_ret (pe_ifExp (pt_cmpR op_eq (pv 1) pe_str (nomark _)) (pe_me (E := E) (pv 0) cl_Wire C_Wire_alarm (hr.mono (by first | decide | omega)) (passes_call (takes_of rfl rfl rfl rfl) (fun _ _ _ _ h => h)) (pa_cons (pv 2) pa_nil)) (pe_me (E := E) (pv 0) cl_Wire C_Wire_calm (hr.mono (by first | decide | omega)) (passes_call (takes_of rfl rfl rfl rfl) (fun _ _ _ _ h => h)) (pa_cons (pv 2) pa_nil))))))), ?_⟩)
  · obtain ⟨a, dx, t, l, M, wd, x, rfl, _⟩ := h
    rfl
  · obtain ⟨a, dx, t, l, M, wd, x, rfl, W, ok, hz, hx, kT, kN, q⟩ := h
    have hw := ok.w2
    have hd : OkD (.str (B x)) := okD_bits (by omega)
    have hv : Dq K H (.str (B x)) (.str (B x)) := .str _
    have nm : numD M.width (.str (B x)) = true := by rw [numD_bits]; exact decide_eq_true hx
    unfold deedM WM.keys at kT kN q
    tm_at "r"
    refine w_iteD (fun c => ?_) fun c => ?_
    · rw [if_pos c] at kT kN q
      tm_at "r"
      refine w_meOk W.ob (by kernel_rfl) ?_
      tm_at "r"
      refine ⟨a, dx, t, l, M, .str (B x), .str (B x), rfl, W, ok, hz, hv, hd, fun h => (by rw [nm] at h; cases h), fun y hy hl hk H1 e1 => ?_, fun y H1 hy hl hk W1 m1 => ?_⟩
      · cases B_inj (PyData.str.inj hy)
        have hk : x ∈ M.things.map (·.1) := hk
        rw [if_pos hk] at kT
        exact kT rfl H1 e1
      · cases B_inj (PyData.str.inj hy)
        have hk : ¬ x ∈ M.things.map (·.1) := hk
        rw [if_neg hk] at q
        exact q H1 rfl W1 m1
    · rw [if_neg c] at kT kN q
      have bad : x ∉ M.keys → ∀ H', Ext H H' → E (.ref cNT) none H' := fun hk => by
        have hk : ¬ x ∈ M.things.map (·.1) := hk
        rw [if_neg hk] at kN
        exact kN rfl
      tm_at "r"
      refine w_iteD (fun c2 => ?_) fun c2 => ?_
      · tm_at "r"
        refine w_meOk W.ob (by kernel_rfl) ?_
        tm_at "r"
        refine u_thing W ok hv hd (fun h => by rw [nm] at h; cases h) (fun y hy hl hk => ?_) fun y H1 hy hl hk hg => ?_
        · cases B_inj (PyData.str.inj hy)
          exact bad hk
        · cases B_inj (PyData.str.inj hy)
          have hk : x ∈ M.things.map (·.1) := hk
          rw [if_pos hk, if_pos c2] at q
          exact q H1 rfl hg.1 hg.2
      · tm_at "r"
        refine w_iteD (fun c3 => ?_) fun c3 => ?_
        all_goals tm_at "r"
        all_goals refine w_meOk W.ob (by kernel_rfl) ?_
        all_goals tm_at "r"
        all_goals refine u_thing W ok hv hd (fun h => by rw [nm] at h; cases h) (fun y hy hl hk => ?_) fun y H1 hy hl hk hg => ?_
        · cases B_inj (PyData.str.inj hy)
          exact bad hk
        · cases B_inj (PyData.str.inj hy)
          have hk : x ∈ M.things.map (·.1) := hk
          rw [if_pos hk, if_neg c2, decide_eq_true c3] at q
          exact q H1 rfl hg.1 hg.2
        · cases B_inj (PyData.str.inj hy)
          exact bad hk
        · cases B_inj (PyData.str.inj hy)
          have hk : x ∈ M.things.map (·.1) := hk
          rw [if_pos hk, if_neg c2, decide_eq_false c3] at q
          exact q H1 rfl hg.1 hg.2
theorem deed_words (M : WM) (wd : Str) (x : Bits) : (deedM M wd x).2 = "there" ∨ (deedM M wd x).2 = "not" ∨ (deedM M wd x).2 = "" := by
  unfold deedM
  split
  · split
    · exact .inl rfl
    · exact .inr (.inr rfl)
  · split
    · split
      · exact .inr (.inr rfl)
      · exact .inr (.inr rfl)
    · exact .inr (.inl rfl)
theorem deed_two {M Mm : WM} {wd : Str} {x : Bits} (h : Mm.things = M.things) : (deedM M wd x).2 = (deedM Mm wd x).2 := by
  unfold deedM WM.keys
  rw [h]
  split
  · split <;> rfl
  · split
    · split <;> rfl
    · rfl
theorem deed_same {M : WM} {wd : Str} {x : Bits} (h : (deedM M wd x).2 ≠ "") : (deedM M wd x).1 = M := by
  unfold deedM at h ⊢
  split at h
  · rename_i c
    rw [if_pos c]
    split at h
    · rename_i c2
      rw [if_pos c2]
    · exact absurd rfl h
  · rename_i c
    rw [if_neg c]
    split at h
    · split at h
      · exact absurd rfl h
      · exact absurd rfl h
    · rename_i c2
      rw [if_neg c2]
theorem ok_change {f c Pt fw : Addr} {fd fdw : FuncData} {TT : List (Addr × Str)} (g : Kinds K mg) (F : FunC K "_law_change" "_law_change" s_law_change f fd c) (T : TxB mg) (TW : ClW K CW) (Fw : Fun K "_law_word" "_law_word" s_law_word fw fdw) (bw : Binds K fdw ["_law_work"] []) (m_word : mg "_law_word" = some (.ref fw))
    (TB : LamX.TabB base mg c Pt) (hmT : (Pt, ("_law_change.<locals>.<lambda>" : Str)) ∈ TT) (hu : ∀ p ∈ TT, p.1 = Pt → p.2 = ("_law_change.<locals>.<lambda>" : Str))
    (C_law_taken : Cal P w K mg base 1 "_law_taken" ["_law_row", "_law_many"] (sp_taken K)) (C_law_become : Cal P w K mg base 6 "_law_become" ["_law_wire", "_law_word_here", "_law_number_here"] (sp_become CW g.c_There g.c_NotThere)) (C_law_deed : Cal P w K mg base 1 "_law_deed" ["_law_m", "_law_word_here", "_law_number_here"] sp_deed) :
    FnOk P w K mg base (L2.CX P w) 10 f fd ["_law_row", "_law_wire", "_law_m", "_law_names"] (sp_change K CW TT) := by
  obtain ⟨ocw, odw, kVw, docw, pmw, anw, cdw, ctw, oslw, rfl, lkw, hcw⟩ := Fw.ex
  refine F.okX sc_law_change (fun vs H Q E h => ?_) (fun A outer s H vs Q E hr h => ⟨_, (pss_cons (ps_set (i := 4) sc_law_change.nd rfl (by first | exact Or.inl rfl | exact Or.inr rfl) (pe_ix (ixL (K := K) rfl) (pe_lst (pa_cons pe_str (pa_cons pe_str (pa_cons pe_str (pa_cons pe_str (pa_cons pe_str (pa_cons pe_str pa_nil))))))) (pe_cal (E := E0) C_law_taken (hr.mono (by first | decide | omega)) passL (pa_cons (pv 0) (pa_cons pe_int pa_nil))) (fun _ _ => rfl)))
 (pss_cons (ps_set (i := 5) sc_law_change.nd rfl (by first | exact Or.inl rfl | exact Or.inr rfl) (pe_ix (ixL (K := K) rfl) (pv 3) (pe_cal (E := E0) C_law_taken (hr.mono (by first | decide | omega)) passL (pa_cons (pv 0) (pa_cons (pe_callB (cLen (K := K) rfl) (by rfl) T.n_len (by decide +kernel) (pa_cons (pv 3) pa_nil)) pa_nil))) (fun _ _ => rfl)))
 (pss_one (ps_ret (pe_cmpR op_eq (LamX.pe_lamcall (T := TT) (k := 6) rfl m_word Fw.kp lkw hcw bw sc_law_word rfl (Or.inl rfl) (gives_word _ rfl rfl T g fw _ _) TB rfl hmT hu (hr.mono (by first | decide | omega)) (LamX.lamS_by (by kernel_rfl)) rfl (fun _ _ _ _ _ => rfl) (fun A outer s H E f c' hr => (pe_cal (E := E) C_law_become (hr.mono (by first | decide | omega)) (passes_call (takes_of rfl rfl rfl rfl) (fun _ _ _ _ h => h)) (pa_cons (pv 1) (pa_cons (pv 4) (pa_cons (pv 5) pa_nil)))))) (pe_cal (E := E0) C_law_deed (hr.mono (by first | decide | omega)) passL (pa_cons (pv 2) (pa_cons (pv 4) (pa_cons (pv 5) pa_nil)))) (nomark _)))))), ?_⟩)
  · obtain ⟨r, a, dx, t, l, d, tm, lm, p, M, Mm, ls, rfl, _⟩ := h
    rfl
  · obtain ⟨r, a, dx, t, l, d, tm, lm, p, M, Mm, ls, rfl, hrow, st, ok, okm, hth, hz, hp, hne, hl1, hlen, htab, q⟩ := h
    tm_at "r"
    intro z H1 hz1 e1 hz2
    tm_at "r"
    refine ⟨r, 6, rfl, e1.rowOk hrow, by decide, by decide, fun i H2 hi0 hi6 e2 => ?_⟩
    have hz3 := e2.st _ _ hz2 (nsh_of fun a i m z e => by cases e)
    obtain ⟨wd, ha⟩ : ∃ wd : Str, atI [V.str "hang", V.str "hang", V.str "off", V.str "off", V.str "alarm", V.str "calm"] i = some (.str wd) := by
      have : i = 0 ∨ i = 1 ∨ i = 2 ∨ i = 3 ∨ i = 4 ∨ i = 5 := by omega
      rcases this with rfl | rfl | rfl | rfl | rfl | rfl <;> exact ⟨_, rfl⟩
    refine w_ixL (SqL.of hz3) ha ?_
    tm_at "r"
    have hp2 := e2.st _ _ (e1.st _ _ hp (nsh_bvs _)) (nsh_bvs _)
    refine w_lenL (SqL.of hp2) ?_
    rw [bvs_len]
    tm_at "r"
    have hpos : 0 < ls.length := List.length_pos_iff.mpr hne
    refine ⟨r, (ls.length : Int), rfl, e2.rowOk (e1.rowOk hrow), by omega, by omega, fun j H3 hj0 hj1 e3 => ?_⟩
    obtain ⟨x, hx1, hx2⟩ := atI_in ls (i := j) hj0 (by omega)
    have hxm : x ∈ ls := List.mem_of_getElem? hx2
    refine w_ixL (v := .str (B x)) (SqL.of (e3.st _ _ hp2 (nsh_bvs _))) (bvs_atI hx1) ?_
    tm_at "r"
    have e4 := (e1.trans e2).trans e3
    refine ⟨tabs_ext htab e4, fun H4 eN tab4 => ?_⟩
    have row4 := RowOk.lam eN (e4.rowOk hrow)
    have st4 := (st.ext e4).lam eN
    have m4 : StepN TT ([a, t, l] ++ [d, tm, lm]) ([a, t, l] ++ [d, tm, lm]) H H4 := (StepN.ofExt e4).trans (StepN.lam eN tab4)
    have hw := hlen x hxm
    have al4 := Sts.al2 (l1 := []) (l2 := []) st4
    have fin : ∀ (wv : Str) (H5 : Hp), wv = (deedM M wd x).2 → RowOk K H5 r → Sts H5 [oWire CW a dx t l (deedM M wd x).1, oM d tm lm Mm] → LamX.Tabs TT H5 → StepN TT ([a, t, l] ++ [d, tm, lm]) ([a, t, l] ++ [d, tm, lm]) H H5 →
        sp_deed [.ref d, .str wd, .str (B x)] H5 (fun y H2 => rEq (.str wv) y H2 Q) E0 := by
      intro wv H5 hwv row5 st5 tab5 m5
      refine ⟨d, tm, lm, Mm, wd, x, rfl, st5.snd, okm, by rw [hth]; exact hz, fun lm' H6 gm6 m6 => ?_⟩
      have st6 := st5.other (B' := oM d tm lm' (deedM Mm wd x).1) gm6 m6
      refine w_eqS ?_
      rw [hwv, deed_two hth, decide_eq_true rfl]
      exact q lm' wd x H6 hxm (Sts.row (l1 := [_]) (l2 := []) (W' := oM d tm lm' (deedM Mm wd x).1) st5 m6 row5) st6 (Sts.tabs (l1 := [_]) (l2 := []) (W' := oM d tm lm' (deedM Mm wd x).1) st5 m6 tab5) (m5.trans (StepN.of (m6.wideL [a, t, l]) (Sts.al2 (l1 := []) (l2 := []) st5)))
    show TWord g _ H4 _
    unfold TWord
    tm_at "r"
    refine ⟨a, dx, t, l, M, wd, x, rfl, st4.fst, ok, hz, hw, fun h5 H5 e5 => ?_, fun h5 H5 e5 => ?_, fun H5 h5 W5 m5 => ?_⟩
    · refine ⟨4, g.c_There, "there", rfl, rfl, by decide, by decide, by decide, rfl, rfl, fun H6 e6 => ?_⟩
      tm_at "r"
      have e56 := e5.trans e6
      have dM : (deedM M wd x).1 = M := deed_same (by rw [h5]; decide)
      exact fin _ H6 h5.symm (e56.rowOk row4) (by rw [dM]; exact st4.ext e56) (tabs_ext tab4 e56) (m4.trans (StepN.ofExt e56))
    · refine ⟨5, g.c_NotThere, "not", rfl, rfl, by decide, by decide, by decide, rfl, rfl, fun H6 e6 => ?_⟩
      tm_at "r"
      have e56 := e5.trans e6
      have dM : (deedM M wd x).1 = M := deed_same (by rw [h5]; decide)
      exact fin _ H6 h5.symm (e56.rowOk row4) (by rw [dM]; exact st4.ext e56) (tabs_ext tab4 e56) (m4.trans (StepN.ofExt e56))
    · tm_at "r"
      have st5 := st4.one (A' := oWire CW a dx t l (deedM M wd x).1) W5 m5
      exact fin _ H5 h5.symm (Sts.row (l1 := []) (l2 := [_]) (W' := oWire CW a dx t l (deedM M wd x).1) st4 m5 row4) st5 (Sts.tabs (l1 := []) (l2 := [_]) (W' := oWire CW a dx t l (deedM M wd x).1) st4 m5 tab4)
        (m4.trans (StepN.of (m5.wide [d, tm, lm]) al4))
end
end My
end

section
set_option pp.maxSteps 700
open PySem L2 Lw
local macro_rules | `(tactic| tm_at "s") => `(tactic| first
  | with_reducible refine w_seq ?_ | with_reducible refine w_asg ?_ | with_reducible refine w_gname ?_ | with_reducible refine w_ret ?_ | with_reducible refine w_drop ?_ | with_reducible refine w_ifS ?_ | with_reducible refine w_next ?_ | with_reducible refine w_retN ?_
  | with_reducible refine w_c ?_ | ((with_reducible refine w_var (v := ?vv) ?hh ?kk); (case hh => exact rfl)) | with_reducible refine w_op ?_ | with_reducible refine w_un ?_ | with_reducible refine w_cons ?_ | with_reducible refine w_nil ?_ | with_reducible refine w_test ?_ | with_reducible refine w_B ?_
  | with_reducible refine w_isbl ?_ | with_reducible refine w_not ?_ | with_reducible refine w_and ?_ | with_reducible refine w_or ?_ | with_reducible refine w_andV ?_ | with_reducible refine w_orV ?_ | with_reducible refine w_notV ?_ | with_reducible refine w_if ?_ | with_reducible refine w_chain ?_
  | with_reducible refine w_isN ?_ | with_reducible refine w_notN ?_ | with_reducible refine w_yes ?_ | with_reducible refine w_call ?_ | with_reducible refine w_CB ?_ | with_reducible refine w_tup ?_ | with_reducible refine w_lst ?_ | with_reducible refine w_sl ?_ | with_reducible refine w_noPart ?_
  | with_reducible refine w_part ?_ | with_reducible refine w_isint ?_ | with_reducible refine w_gSub ?_ | with_reducible refine w_break ?_ | with_reducible refine w_cont ?_
  | with_reducible refine w_I0 ?_ | with_reducible refine w_eqI ?_ | with_reducible refine w_neI ?_ | with_reducible refine w_eqS ?_ | with_reducible refine w_neS ?_ | with_reducible refine w_eqB ?_ | with_reducible refine w_neB ?_ | ((with_reducible refine w_isi (d := ?dd) ?hh ?kk); (case hh => assumption))
  | with_reducible refine w_sg ?_ | with_reducible refine w_notSg ?_ | with_reducible refine w_starts ?_ | with_reducible refine w_max2 ?_ | with_reducible refine w_min2 ?_ | with_reducible refine w_intB ?_ | with_reducible refine w_intI ?_ | with_reducible refine w_bm ?_ | with_reducible refine w_bm0 ?_ | with_reducible refine w_m1 ?_ | with_reducible refine w_m0 ?_ | with_reducible refine w_isstr ?_
  | with_reducible refine w_for ?_ | with_reducible refine w_lc ?_ | with_reducible refine w_rng ?_ | with_reducible refine w_rng2 ?_ | with_reducible refine w_ilist ?_ | with_reducible refine w_itup ?_ | with_reducible refine w_istr ?_ | with_reducible refine w_strOk ?_
  | ((with_reducible refine w_rngOk ?hh ?h2 ?kk); (case hh => omega); (case h2 => omega)) | ((with_reducible refine w_lstOk (xs := ?xx) ?hh ?kk); (case hh => assumption))
  | ((with_reducible refine w_alL ?hh ?kk); (case hh => exact Nat.le_of_ble_eq_true rfl)) | ((with_reducible refine w_alT ?hh ?kk); (case hh => exact Nat.le_of_ble_eq_true rfl))
  | ((with_reducible refine w_lenL (xs := ?xx) ?hh ?kk); (case hh => assumption)) | ((with_reducible refine w_lenT (xs := ?xx) ?hh ?kk); (case hh => assumption))
  | ((with_reducible refine w_I ?hh ?kk); (case hh => first | (show _ ≠ (0 : Int); omega) | (show (0 : Int) < _; omega) | exact ⟨by omega, by omega⟩ | exact .inl ⟨by omega, by omega⟩ | exact .inr ⟨by omega, by omega⟩ | exact ⟨by decide, by decide, by decide⟩))
  | with_reducible refine w_din ?_ | with_reducible refine w_dnot ?_ | with_reducible refine w_dget ?_ | with_reducible refine w_dput ?_ | with_reducible refine w_fld ?_ | with_reducible refine w_sto ?_ | with_reducible refine w_meth ?_ | with_reducible refine w_pop1 ?_ | with_reducible refine w_pop2 ?_ | with_reducible refine w_ikeys ?_
  | ((with_reducible refine f_width (CW := ?v1) (dx := ?v2) (t := ?v3) (l := ?v4) (w := ?v5) (told := ?v6) (many := ?v7) ?tw ?hh ?kk); (case tw => assumption); (case hh => assumption))
  | ((with_reducible refine f_things (CW := ?v1) (dx := ?v2) (t := ?v3) (l := ?v4) (w := ?v5) (told := ?v6) (many := ?v7) ?tw ?hh ?kk); (case tw => assumption); (case hh => assumption))
  | ((with_reducible refine f_listening (CW := ?v1) (dx := ?v2) (t := ?v3) (l := ?v4) (w := ?v5) (told := ?v6) (many := ?v7) ?tw ?hh ?kk); (case tw => assumption); (case hh => assumption))
  | ((with_reducible refine f_tolds (CW := ?v1) (dx := ?v2) (t := ?v3) (l := ?v4) (w := ?v5) (b := ?v6) (many := ?v7) ?tw ?hh ?kk); (case tw => assumption); (case hh => assumption))
  | ((with_reducible refine f_told (CW := ?v1) (dx := ?v2) (t := ?v3) (l := ?v4) (w := ?v5) (told := ?v6) (many := ?v7) ?tw ?hh ?kk); (case tw => assumption); (case hh => assumption))
  | ((with_reducible refine f_many (CW := ?v1) (dx := ?v2) (t := ?v3) (l := ?v4) (w := ?v5) (told := ?v6) (many := ?v7) ?tw ?hh ?kk); (case tw => assumption); (case hh => assumption))
  | ((with_reducible refine w_ixL (v := ?vv) (xs := ?xx) ?hh ?h2 ?kk); (case hh => assumption); (case h2 => exact rfl)) | ((with_reducible refine w_ixT (v := ?vv) (xs := ?xx) ?hh ?h2 ?kk); (case hh => assumption); (case h2 => exact rfl)))
local macro_rules | `(tactic| tm_at "r") => `(tactic| repeat tm_at "s")
local macro_rules | `(tactic| tm_at "b") => `(tactic| first | refine w_iteT (by with_reducible rfl) ?_ | refine w_iteF (by with_reducible rfl) ?_ | refine w_iteT (by rfl) ?_ | refine w_iteF (by rfl) ?_)
local macro_rules | `(tactic| tm_at "e") => `(tactic| repeat (first | tm_at "s" | tm_at "b"))
local macro_rules | `(tactic| tm_at "s") => `(tactic| first
  | with_reducible refine w_gcons ?_ | with_reducible refine w_gnil ?_
  | ((with_reducible refine g_wire (CK := ?v1) (dx := ?v2) (a := ?v3) (c := ?v4) (r := ?v5) (said := ?v6) (n := ?v7) (s := ?v8) ?tw ?hh ?kk); (case tw => assumption); (case hh => assumption))
  | ((with_reducible refine g_kind (CK := ?v1) (dx := ?v2) (a := ?v3) (c := ?v4) (r := ?v5) (said := ?v6) (n := ?v7) (s := ?v8) ?tw ?hh ?kk); (case tw => assumption); (case hh => assumption))
  | ((with_reducible refine g_rest (CK := ?v1) (dx := ?v2) (a := ?v3) (c := ?v4) (r := ?v5) (said := ?v6) (n := ?v7) (s := ?v8) ?tw ?hh ?kk); (case tw => assumption); (case hh => assumption))
  | ((with_reducible refine g_saids (CK := ?v1) (dx := ?v2) (a := ?v3) (c := ?v4) (r := ?v5) (b := ?v6) (n := ?v7) (s := ?v8) ?tw ?hh ?kk); (case tw => assumption); (case hh => assumption))
  | ((with_reducible refine g_said (CK := ?v1) (dx := ?v2) (a := ?v3) (c := ?v4) (r := ?v5) (said := ?v6) (n := ?v7) (s := ?v8) ?tw ?hh ?kk); (case tw => assumption); (case hh => assumption))
  | ((with_reducible refine g_names (CK := ?v1) (dx := ?v2) (a := ?v3) (c := ?v4) (r := ?v5) (said := ?v6) (n := ?v7) (s := ?v8) ?tw ?hh ?kk); (case tw => assumption); (case hh => assumption))
  | ((with_reducible refine g_seen (CK := ?v1) (dx := ?v2) (a := ?v3) (c := ?v4) (r := ?v5) (said := ?v6) (n := ?v7) (s := ?v8) ?tw ?hh ?kk); (case tw => assumption); (case hh => assumption)))
local macro_rules | `(tactic| tm_at "s") => `(tactic| first
  | with_reducible refine w_pcons ?_ | with_reducible refine w_pnil ?_
  | ((with_reducible refine m_width (w := ?v1) (t := ?v2) (l := ?v3) (told := ?v4) (many := ?v5) ?hh ?kk); (case hh => assumption))
  | ((with_reducible refine m_things (w := ?v1) (t := ?v2) (l := ?v3) (told := ?v4) (many := ?v5) ?hh ?kk); (case hh => assumption))
  | ((with_reducible refine m_lis (w := ?v1) (t := ?v2) (l := ?v3) (told := ?v4) (many := ?v5) ?hh ?kk); (case hh => assumption))
  | ((with_reducible refine m_saids (w := ?v1) (t := ?v2) (l := ?v3) (b := ?v4) (many := ?v5) ?hh ?kk); (case hh => assumption))
  | ((with_reducible refine m_said (w := ?v1) (t := ?v2) (l := ?v3) (told := ?v4) (many := ?v5) ?hh ?kk); (case hh => assumption))
  | ((with_reducible refine m_looks (w := ?v1) (t := ?v2) (l := ?v3) (told := ?v4) (many := ?v5) ?hh ?kk); (case hh => assumption))
  | ((with_reducible refine j_kind (c := ?v1) (r := ?v2) (said := ?v3) (n := ?v4) (s := ?v5) ?hh ?kk); (case hh => assumption))
  | ((with_reducible refine j_rest (c := ?v1) (r := ?v2) (said := ?v3) (n := ?v4) (s := ?v5) ?hh ?kk); (case hh => assumption))
  | ((with_reducible refine j_saids (c := ?v1) (r := ?v2) (b := ?v3) (n := ?v4) (s := ?v5) ?hh ?kk); (case hh => assumption))
  | ((with_reducible refine j_said (c := ?v1) (r := ?v2) (said := ?v3) (n := ?v4) (s := ?v5) ?hh ?kk); (case hh => assumption))
  | ((with_reducible refine j_found (c := ?v1) (r := ?v2) (said := ?v3) (n := ?v4) (s := ?v5) ?hh ?kk); (case hh => assumption))
  | ((with_reducible refine j_paper (c := ?v1) (r := ?v2) (said := ?v3) (n := ?v4) (s := ?v5) ?hh ?kk); (case hh => assumption)))
local macro_rules | `(tactic| tm_at "q") => `(tactic| repeat (first | with_reducible refine w_next ?_ | with_reducible refine w_seq ?_))
namespace My
abbrev s_law_use : Stmt := top 44
theorem sc_law_use : FnScope ["_law_row", "_law_wire", "_law_m", "_law_way", "_law_kind", "_law_bit"] ["_law_row", "_law_wire", "_law_m"] (defScope s_law_use) := ⟨rfl, rfl, rfl, by decide +kernel, rfl, by decide +kernel, by decide +kernel⟩
def sp_use (K : PySem.W.Frag) (CW : Addr) (TT : List (Addr × Str)) : Sp := fun vs H Q _ => ∃ (r a dx t l d tm lm : Addr) (M : WM), vs = [.ref r, .ref a, .ref d] ∧ RowOk K H r ∧ Sts H [oWire CW a dx t l M, oM d tm lm M] ∧ WOk M ∧ LamX.Tabs TT H ∧
  ∀ (l' lm' : Addr) (M' : WM) (H' : Hp), In2 K TT r CW a dx t d tm ([a, t, l] ++ [d, tm, lm]) H l' lm' M' M' H' → WOk M' → M'.width = M.width → M'.things = M.things → Q (.bl true) H'
theorem w_word {K : PySem.W.Frag} {mg : Str → Option Value} {g : Kinds K mg} {tl : XK → Hp → VK → Prop} {H : Hp} {Q : VK} (k : tl (fun cls d H' => WordOk g cls d H' Q) H fun _ H' => Q (.str "") H') : TWord g tl H Q := k
section
variable {P : Program} {w : World} {K : PySem.W.Frag} {mg : Str → Option Value} {base : Heap} {CW : Addr}
theorem ok_use {f c Pt fw cK cB : Addr} {fd fdw : FuncData} {TT : List (Addr × Str)} (g : Kinds K mg) (F : FunC K "_law_use" "_law_use" s_law_use f fd c) (T : TxB mg) (TW : ClW K CW) (Fw : Fun K "_law_word" "_law_word" s_law_word fw fdw) (bw : Binds K fdw ["_law_work"] []) (m_word : mg "_law_word" = some (.ref fw))
    (TB : LamX.TabB base mg c Pt) (hmT : (Pt, ("_law_use.<locals>.<lambda>" : Str)) ∈ TT) (hu : ∀ p ∈ TT, p.1 = Pt → p.2 = ("_law_use.<locals>.<lambda>" : Str))
    (C_law_taken : Cal P w K mg base 1 "_law_taken" ["_law_row", "_law_many"] (sp_taken K)) (C_law_begun : Cal P w K mg base 1 "_law_begun" ["_law_m", "_law_kind"] sp_begun) (C_law_said : Cal P w K mg base 1 "_law_said" ["_law_m", "_law_bit"] sp_said) (C_law_looked : Cal P w K mg base 1 "_law_looked" ["_law_numbers", "_law_beginning"] (sp_looked K))
    (C_law_alike : Cal P w K mg base 7 "_law_alike" ["_law_found", "_law_due"] (sp_alike K 7)) (C_Wire_begin : CalM P w K mg base 2 CW "begin" ["self", "kind"] (sp_begin CW cK)) (C_Wire_look : CalM P w K mg base 2 CW "look" ["self"] (sp_look CW g.c_NoRound)) (C_Wire_say : CalM P w K mg base 2 CW "say" ["self", "bit"] (sp_say CW g.c_NoRound cB)) :
    FnOk P w K mg base (L2.CX P w) 10 f fd ["_law_row", "_law_wire", "_law_m"] (sp_use K CW TT) := by
  obtain ⟨ocw, odw, kVw, docw, pmw, anw, cdw, ctw, oslw, rfl, lkw, hcw⟩ := Fw.ex
  have cl_Wire := TW.cl
  refine F.okX sc_law_use (fun vs H Q E h => ?_) (fun A outer s H vs Q E hr h => ⟨_, (pss_cons (ps_set (i := 3) sc_law_use.nd rfl (by first | exact Or.inl rfl | exact Or.inr rfl) (pe_cal (E := E0) C_law_taken (hr.mono (by first | decide | omega)) passL (pa_cons (pv 0) (pa_cons pe_int pa_nil))))
 (pss_cons (ps_if (pt_cmpR op_eq (pv 3) pe_int (nomark _))
 (pss_cons (ps_set (i := 4) sc_law_use.nd rfl (by first | exact Or.inl rfl | exact Or.inr rfl) (pe_ix (ixL (K := K) rfl) (pe_lst (pa_cons pe_str (pa_cons pe_str (pa_cons pe_str pa_nil)))) (pe_cal (E := E0) C_law_taken (hr.mono (by first | decide | omega)) passL (pa_cons (pv 0) (pa_cons pe_int pa_nil))) (fun _ _ => rfl)))
 (pss_cons (ps_expr (pe_cal (E := E0) C_law_begun (hr.mono (by first | decide | omega)) passL (pa_cons (pv 2) (pa_cons (pv 4) pa_nil))))
 (pss_one (ps_ret (pe_cmp (pc_isN (pe_me (E := E0) (pv 1) cl_Wire C_Wire_begin (hr.mono (by first | decide | omega)) passL (pa_cons (pv 4) pa_nil))))))))
 pss_nil)
 (pss_cons (ps_set (i := 5) sc_law_use.nd rfl (by first | exact Or.inl rfl | exact Or.inr rfl) (pe_cal (E := E0) C_law_taken (hr.mono (by first | decide | omega)) passL (pa_cons (pv 0) (pa_cons pe_int pa_nil))))
 (pss_cons (ps_if (PW.pt (pw_or (pt_cmp (pc_isN (pe_dget (hu_of hr) (pv 2) pe_str (fun _ _ => rfl)))) (pw_or1 (pt_cmpR op_eq (pe_callB c_lenT (by rfl) T.n_len (by decide +kernel) (pa_cons (pe_dget (hu_of hr) (pv 2) pe_str (fun _ _ => rfl)) pa_nil)) (pe_dget (hu_of hr) (pv 2) pe_str (fun _ _ => rfl)) (nomark _)))))
 (pss_one (ps_ret (pe_cmpR (oEqD (K := K) rfl hr.units) (pe_lst (pa_cons (pe_work (k := 6) rfl m_word Fw.kp lkw hcw bw sc_law_word rfl (Or.inl rfl) (gives_wordR _ rfl rfl T g fw _) (hr.mono (by first | decide | omega)) (pe_lam0 (T := TT) (k := 6) TB rfl hmT hu (lamD_by (by kernel_rfl)) rfl (fun _ _ _ _ _ _ => rfl) (fun A outer s H E f c' hr => (pe_me0 (E := E) (pv 1) cl_Wire C_Wire_look (hr.mono (by first | decide | omega)) (passes_call (takes_of rfl rfl rfl rfl) (fun _ _ _ _ h => h)))))) (pa_cons (pe_work (k := 6) rfl m_word Fw.kp lkw hcw bw sc_law_word rfl (Or.inl rfl) (gives_wordR _ rfl rfl T g fw _) (hr.mono (by first | decide | omega)) (pe_lam1 (T := TT) (k := 6) TB rfl hmT hu (lamD_by (by kernel_rfl)) rfl rfl rfl (fun _ _ _ _ _ _ _ => ⟨_, rfl, fun _ => rfl⟩) (fun A outer s H E f c' hr => (pe_me (E := E) (pv 1) cl_Wire C_Wire_say (hr.mono (by first | decide | omega)) (passes_call (takes_of rfl rfl rfl rfl) (fun _ _ _ _ h => h)) (pa_cons (pv 5) pa_nil))))) pa_nil))) (pe_lst (pa_cons pe_str (pa_cons pe_str pa_nil))) (nomark _))))
 pss_nil)
 (pss_cons (ps_if (pt_cmpR op_lt (pv 3) pe_int (nomark _))
 (pss_cons (ps_dput (hu_of hr) (pv 2) pe_str (pe_op op_add (pe_dget (hu_of hr) (pv 2) pe_str (fun _ _ => rfl)) pe_int) rfl)
 (pss_one (ps_ret (pe_cal (E := E0) C_law_alike (hr.mono (by first | decide | omega)) passL (pa_cons (pe_me0 (E := E0) (pv 1) cl_Wire C_Wire_look (hr.mono (by first | decide | omega)) passL) (pa_cons (pe_cal (E := E0) C_law_looked (hr.mono (by first | decide | omega)) passL (pa_cons (pe_dget (hu_of hr) (pv 2) pe_str (fun _ _ => rfl)) (pa_cons (pe_dget (hu_of hr) (pv 2) pe_str (fun _ _ => rfl)) pa_nil))) pa_nil))))))
 pss_nil)
 (pss_cons (ps_if (PW.pt (pw_and (pt_cmpR (oNeD (K := K) rfl hr.units) (pe_dget (hu_of hr) (pv 2) pe_str (fun _ _ => rfl)) (pe_lst pa_nil) (nomark _)) (pw_and1 (pt_cmpR op_gt (pe_cal (E := E0) C_law_taken (hr.mono (by first | decide | omega)) passL (pa_cons (pv 0) (pa_cons pe_int pa_nil))) pe_int (nomark _)))))
 (pss_one (ps_set (i := 5) sc_law_use.nd rfl (by first | exact Or.inl rfl | exact Or.inr rfl) (pe_callTy c_intS (by rfl) T.n_int (by decide +kernel) (pa_cons (pe_ix ix_str (pe_ix (ixL (K := K) rfl) (pe_dget (hu_of hr) (pv 2) pe_str (fun _ _ => rfl)) (pe_cal (E := E0) C_law_taken (hr.mono (by first | decide | omega)) passL (pa_cons (pv 0) (pa_cons (pe_callB (cLen (K := K) rfl) (by rfl) T.n_len (by decide +kernel) (pa_cons (pe_dget (hu_of hr) (pv 2) pe_str (fun _ _ => rfl)) pa_nil)) pa_nil))) (fun _ _ => rfl)) (pe_callB c_lenT (by rfl) T.n_len (by decide +kernel) (pa_cons (pe_dget (hu_of hr) (pv 2) pe_str (fun _ _ => rfl)) pa_nil)) (fun _ _ => rfl)) pa_nil))))
 pss_nil)
 (pss_cons (ps_expr (pe_cal (E := E0) C_law_said (hr.mono (by first | decide | omega)) passL (pa_cons (pv 2) (pa_cons (pv 5) pa_nil))))
 (pss_one (ps_ret (pe_cmp (pc_isN (pe_me (E := E0) (pv 1) cl_Wire C_Wire_say (hr.mono (by first | decide | omega)) passL (pa_cons (pv 5) pa_nil))))))))))))), ?_⟩)
  · obtain ⟨r, a, dx, t, l, d, tm, lm, M, rfl, _⟩ := h
    rfl
  · obtain ⟨r, a, dx, t, l, d, tm, lm, M, rfl, hrow, st, ok, htab, q⟩ := h
    have J : In2 K TT r CW a dx t d tm ([a, t, l] ++ [d, tm, lm]) H l lm M M H := ⟨hrow, st, htab, StepN.ofExt (Ext.refl H)⟩
    clear hrow st htab
    tm_at "r"
    refine u_taken J.row (by omega) (by omega) fun way H1 hw0 hw1 e1 => ?_
    have J := J.ext e1
    tm_at "r"
    refine w_iteD (fun c0 => ?_) fun c0 => ?_
    · tm_at "r"
      intro z H2 hz e2 hz2
      have J := J.ext e2
      tm_at "r"
      refine u_taken J.row (by omega) (by omega) fun x H3 hx0 hx1 e3 => ?_
      have J := J.ext e3
      obtain ⟨cc, ha⟩ : ∃ c : Bool, atI [V.str "all", V.str "all", V.str "alarm"] x = some (.str (kindS c)) := by
        have : x = 0 ∨ x = 1 ∨ x = 2 := by omega
        rcases this with rfl | rfl | rfl
        · exact ⟨true, rfl⟩
        · exact ⟨true, rfl⟩
        · exact ⟨false, rfl⟩
      refine w_ixL (SqL.of (e3.st _ _ hz2 (nsh_of fun a i m z e => by cases e))) ha ?_
      tm_at "r"
      refine ⟨d, tm, lm, M, cc, rfl, J.G, ok, fun lm4 H4 gm4 m4 => ?_⟩
      have J := J.other gm4 m4
      have W4 := J.W
      tm_at "r"
      refine w_meOk W4.ob (by kernel_rfl) ?_
      tm_at "r"
      refine ⟨a, dx, t, l, M, kindS cc, rfl, W4, ok, fun h => absurd (kindS_or cc) h, fun l5 H5 _ W5 m5 => ?_⟩
      have W5 : WAt CW a dx t l5 (M.begin cc) H5 := by
        have e : decide (kindS cc = "all") = cc := by cases cc <;> decide
        rw [e] at W5
        exact W5
      have J := J.one W5 m5
      tm_at "r"
      exact q l5 lm4 (M.begin cc) H5 J ok.begin rfl rfl
    · tm_at "r"
      refine u_taken J.row (by omega) (by omega) fun bit H2 hb0 hb1 e2 => ?_
      have J := J.ext e2
      obtain ⟨bc0, rfl⟩ : ∃ c, bit = bi c := by
        have : bit = 0 ∨ bit = 1 := by omega
        rcases this with rfl | rfl
        · exact ⟨false, rfl⟩
        · exact ⟨true, rfl⟩
      have obm := J.G.ob
      by_cases hU : ∃ b, Under M b
      rotate_left
      · have hN : ∀ b, ¬ Under M b := fun b h => hU ⟨b, h⟩
        rcases ht : M.told with _ | b
        all_goals rw [ht] at obm
        all_goals tm_at "r"
        refine w_iteT (by simp [tvo]) ?_
        tm_at "b"
        rotate_left
        refine w_iteF (by simp [tvo]) ?_
        have hb12 := (ok.tl b ht).1
        have hw12 := ok.w2
        tm_at "r"
        refine w_lenS (by rw [B_len]; omega) ?_
        rw [B_len]
        tm_at "r"
        refine w_iteT (decide_eq_true (show (b.length : Int) = (M.width : Int) by
          have := hN b
          unfold Under at this
          have : ¬ b.length < M.width := fun h => this ⟨ht, h⟩
          omega)) ?_
        all_goals (
          tm_at "r"
          refine ⟨J.tab, fun f1 H3 eN1 T3 _ lam1 => ⟨f1, _, rfl, lam1, ?_⟩⟩
          have J := J.lam eN1 T3
          refine w_word ?_
          have W3 := J.W
          tm_at "r"
          refine w_meOk W3.ob (by kernel_rfl) ?_
          refine ⟨a, dx, t, l, M, rfl, W3, ok, fun _ => ⟨6, g.c_NoRound, "round", rfl, rfl, by decide, by decide, by decide, rfl, rfl, fun H4 e4 => ?_⟩, fun b p H' hb => absurd hb (hN b)⟩
          have J := J.ext e4
          tm_at "r"
          refine ⟨J.tab, fun f2 H5 eN2 T5 _ lam2 => ⟨f2, _, rfl, lam2, ?_⟩⟩
          have J := J.lam eN2 T5
          refine w_word ?_
          have W5 := J.W
          tm_at "r"
          refine w_meOk W5.ob (by kernel_rfl) ?_
          tm_at "r"
          refine ⟨a, dx, t, l, M, bi bc0, rfl, W5, ok, fun _ => ⟨6, g.c_NoRound, "round", rfl, rfl, by decide, by decide, by decide, rfl, rfl, fun H6 e6 => ?_⟩, fun b hb => absurd hb (hN b), fun b c H' hb => absurd hb (hN b)⟩
          have J := J.ext e6
          tm_at "r"
          intro p1 H7 hp1 e7 hp71
          tm_at "r"
          intro p2 H8 hp2 e8 hp82
          have J := (J.ext e7).ext e8
          have hd1 : Dp K H8 (.ref p1) (.list [.str "round", .str "round"]) := .lst (SqL.of (e8.st _ _ hp71 (nsh_of fun a i m z e => by cases e))) (.cons (.str _) (.cons (.str _) .nil))
          have hd2 : Dp K H8 (.ref p2) (.list [.str "round", .str "round"]) := .lst (SqL.of hp82) (.cons (.str _) (.cons (.str _) .nil))
          refine w_eqDb (b := true) hd1 hd2 (by decide +kernel) (by decide +kernel) (by decide +kernel) ?_
          tm_at "r"
          exact q l lm M H8 J ok rfl rfl)
      · obtain ⟨b, ht, hbw⟩ := hU
        have hU : Under M b := ⟨ht, hbw⟩
        have hw12 := ok.w2
        rw [ht] at obm
        tm_at "r"
        refine w_iteF (by simp [tvo]) ?_
        tm_at "r"
        refine w_lenS (by rw [B_len]; omega) ?_
        rw [B_len]
        tm_at "r"
        refine w_iteF (decide_eq_false (show ¬ (b.length : Int) = (M.width : Int) by omega)) ?_
        tm_at "r"
        have hlis : ∀ y ∈ M.lis, b.length < y.length ∧ y.length ≤ 1000 := fun y hy => by rw [ok.llen y hy]; omega
        have hlz := ok.lsz
        refine w_iteD (fun c1 => ?_) fun c1 => ?_
        · tm_at "r"
          have em : (M.many : Int) + 1 = ((M.many + 1 : Nat) : Int) := by omega
          rw [em]
          rw [← ht] at obm
          refine mp_looks obm ?_
          have gm := J.G
          have gm2 : MAt d tm lm M.look (upd H2 d (.dK (mf M.width tm lm M.told (M.many + 1)))) := ⟨upd_same, by rw [upd_ne gm.dt.symm]; exact gm.th, by rw [upd_ne gm.dl.symm]; exact gm.li, gm.dt⟩
          have J := J.other gm2 (Step.wr gm.ob (by simp))
          generalize upd H2 d (.dK (mf M.width tm lm M.told (M.many + 1))) = H3 at J ⊢
          clear gm gm2 obm
          have W3 := J.W
          tm_at "r"
          refine w_meOk W3.ob (by kernel_rfl) ?_
          refine ⟨a, dx, t, l, M, rfl, W3, ok, fun h => absurd hU (h b), fun b2 p H4 hU2 hp W4 m4 hp4 => ?_⟩
          obtain rfl : b2 = b := by
            have := hU2.1
            rw [ht] at this
            exact (Option.some.inj this).symm
          have J := J.one W4 m4
          have G4 := J.G
          have ob4 : H4 d = some (.dK (mf M.width tm lm (some b2) (M.many + 1))) := by
            have := G4.ob
            rw [show M.look.told = some b2 from ht] at this
            exact this
          have li4 : H4 lm = some (.lst (bvs M.lis)) := G4.li
          tm_at "r"
          refine ⟨lm, M.lis, b2, rfl, SqL.of li4, by omega, hlis, fun p5 H5 hp5 e5 hp55 => ?_⟩
          tm_at "r"
          refine u_alike (d := .tuple [.bool (lookZ M.lis b2 false), .bool (lookZ M.lis b2 true)]) (.tup (SqT.of (e5.st _ _ hp4 nsh_tup)) (show 2 ≤ 100000 by decide) (.cons (.bl _) (.cons (.bl _) .nil))) (.tup (SqT.of hp55) (show 2 ≤ 100000 by decide) (.cons (.bl _) (.cons (.bl _) .nil))) (by simp [PyData.depth, PyData.depthAll]) fun H6 e6 => ?_
          tm_at "r"
          exact q l lm M.look H6 ((J.ext e5).ext e6) ok.look rfl rfl
        · tm_at "q"
          refine scut (fun σ1 H1 => ∃ c2 : Bool, σ1 = [some (.ref r), some (.ref a), some (.ref d), some (.int way), none, some (.int (bi c2))] ∧ Ext H2 H1) ?_ (fun tail => ?_)
          rotate_left
          · have li := J.G.li
            tm_at "r"
            intro z H3 hz e3 hz3
            refine w_neLs (ls := M.lis) (ms := []) (SqL.of (e3.st _ _ li (nsh_bvs _))) (SqL.of hz3) ?_
            tm_at "r"
            refine w_iteN (fun c2 => ?_) fun c2 => ?_
            · have J := J.ext e3
              tm_at "r"
              refine u_taken J.row (by omega) (by omega) fun x4 H4 h40 h41 e4 => ?_
              have J := J.ext e4
              tm_at "r"
              refine w_iteD (fun c3 => ?_) fun c3 => ?_
              · have ob4 := J.G.ob
                have li4 := J.G.li
                rw [ht] at ob4
                have hpos : 0 < M.lis.length := List.length_pos_iff.mpr c2
                tm_at "r"
                refine w_lenL (SqL.of li4) ?_
                rw [bvs_len]
                tm_at "r"
                refine u_taken J.row (by omega) (by omega) fun x5 H5 h50 h51 e5 => ?_
                have J := J.ext e5
                have ob5 := J.G.ob
                have li5 := J.G.li
                rw [ht] at ob5
                obtain ⟨y, hy1, hy2⟩ := atI_in M.lis (i := x5) h50 (by omega)
                have hyl := hlis y (List.mem_of_getElem? hy2)
                refine w_ixL (v := .str (B y)) (SqL.of li5) (bvs_atI hy1) ?_
                tm_at "r"
                refine w_lenS (by rw [B_len]; omega) ?_
                rw [B_len]
                obtain ⟨c5, hc5⟩ : ∃ c, y[b.length]? = some c := ⟨y[b.length], List.getElem?_eq_getElem hyl.1⟩
                refine w_ixS (by rw [B_len]; omega) (B_at (atI_k hc5)) ?_
                tm_at "r"
                rw [B_one]
                refine w_intS (digit_int c5) (by rw [B_len]; exact Nat.le_of_ble_eq_true rfl) ?_
                exact tail _ _ ⟨c5, by cases c5 <;> rfl, (e3.trans e4).trans e5⟩
              · exact tail _ _ ⟨bc0, rfl, e3.trans e4⟩
            · exact tail _ _ ⟨bc0, rfl, e3⟩
          rintro σ1 H3 ⟨c2, rfl, e3⟩
          have J := J.ext e3
          tm_at "r"
          refine ⟨d, tm, lm, M, b, c2, rfl, J.G, ok, ht, hbw, fun lm4 H4 gm4 m4 => ?_⟩
          have J := J.other gm4 m4
          have W4 := J.W
          tm_at "r"
          refine w_meOk W4.ob (by kernel_rfl) ?_
          tm_at "r"
          refine ⟨a, dx, t, l, M, bi c2, rfl, W4, ok, fun h => absurd hU (h b), fun b2 _ hi => absurd (by cases c2 <;> simp [bi]) hi, fun b2 c3 H5 hU2 hc3 W5 m5 => ?_⟩
          obtain rfl : b2 = b := by
            have := hU2.1
            rw [ht] at this
            exact (Option.some.inj this).symm
          obtain rfl : c3 = c2 := by
            revert hc3
            cases c3 <;> cases c2 <;> simp [bi]
          have J := J.one W5 m5
          tm_at "r"
          exact q l lm4 (M.say b2 c3) H5 J (ok.say hbw) rfl rfl
end
end My
end

section
set_option pp.maxSteps 700
open PySem L2 Lw
local macro_rules | `(tactic| tm_at "s") => `(tactic| first
  | with_reducible refine w_seq ?_ | with_reducible refine w_asg ?_ | with_reducible refine w_gname ?_ | with_reducible refine w_ret ?_ | with_reducible refine w_drop ?_ | with_reducible refine w_ifS ?_ | with_reducible refine w_next ?_ | with_reducible refine w_retN ?_
  | with_reducible refine w_c ?_ | ((with_reducible refine w_var (v := ?vv) ?hh ?kk); (case hh => exact rfl)) | with_reducible refine w_op ?_ | with_reducible refine w_un ?_ | with_reducible refine w_cons ?_ | with_reducible refine w_nil ?_ | with_reducible refine w_test ?_ | with_reducible refine w_B ?_
  | with_reducible refine w_isbl ?_ | with_reducible refine w_not ?_ | with_reducible refine w_and ?_ | with_reducible refine w_or ?_ | with_reducible refine w_andV ?_ | with_reducible refine w_orV ?_ | with_reducible refine w_notV ?_ | with_reducible refine w_if ?_ | with_reducible refine w_chain ?_
  | with_reducible refine w_isN ?_ | with_reducible refine w_notN ?_ | with_reducible refine w_yes ?_ | with_reducible refine w_call ?_ | with_reducible refine w_CB ?_ | with_reducible refine w_tup ?_ | with_reducible refine w_lst ?_ | with_reducible refine w_sl ?_ | with_reducible refine w_noPart ?_
  | with_reducible refine w_part ?_ | with_reducible refine w_isint ?_ | with_reducible refine w_gSub ?_ | with_reducible refine w_break ?_ | with_reducible refine w_cont ?_
  | with_reducible refine w_I0 ?_ | with_reducible refine w_eqI ?_ | with_reducible refine w_neI ?_ | with_reducible refine w_eqS ?_ | with_reducible refine w_neS ?_ | with_reducible refine w_eqB ?_ | with_reducible refine w_neB ?_ | ((with_reducible refine w_isi (d := ?dd) ?hh ?kk); (case hh => assumption))
  | with_reducible refine w_sg ?_ | with_reducible refine w_notSg ?_ | with_reducible refine w_starts ?_ | with_reducible refine w_max2 ?_ | with_reducible refine w_min2 ?_ | with_reducible refine w_intB ?_ | with_reducible refine w_intI ?_ | with_reducible refine w_bm ?_ | with_reducible refine w_bm0 ?_ | with_reducible refine w_m1 ?_ | with_reducible refine w_m0 ?_ | with_reducible refine w_isstr ?_
  | with_reducible refine w_for ?_ | with_reducible refine w_lc ?_ | with_reducible refine w_rng ?_ | with_reducible refine w_rng2 ?_ | with_reducible refine w_ilist ?_ | with_reducible refine w_itup ?_ | with_reducible refine w_istr ?_ | with_reducible refine w_strOk ?_
  | ((with_reducible refine w_rngOk ?hh ?h2 ?kk); (case hh => omega); (case h2 => omega)) | ((with_reducible refine w_lstOk (xs := ?xx) ?hh ?kk); (case hh => assumption))
  | ((with_reducible refine w_alL ?hh ?kk); (case hh => exact Nat.le_of_ble_eq_true rfl)) | ((with_reducible refine w_alT ?hh ?kk); (case hh => exact Nat.le_of_ble_eq_true rfl))
  | ((with_reducible refine w_lenL (xs := ?xx) ?hh ?kk); (case hh => assumption)) | ((with_reducible refine w_lenT (xs := ?xx) ?hh ?kk); (case hh => assumption))
  | ((with_reducible refine w_I ?hh ?kk); (case hh => first | (show _ ≠ (0 : Int); omega) | (show (0 : Int) < _; omega) | exact ⟨by omega, by omega⟩ | exact .inl ⟨by omega, by omega⟩ | exact .inr ⟨by omega, by omega⟩ | exact ⟨by decide, by decide, by decide⟩))
  | with_reducible refine w_din ?_ | with_reducible refine w_dnot ?_ | with_reducible refine w_dget ?_ | with_reducible refine w_dput ?_ | with_reducible refine w_fld ?_ | with_reducible refine w_sto ?_ | with_reducible refine w_meth ?_ | with_reducible refine w_pop1 ?_ | with_reducible refine w_pop2 ?_ | with_reducible refine w_ikeys ?_
  | ((with_reducible refine f_width (CW := ?v1) (dx := ?v2) (t := ?v3) (l := ?v4) (w := ?v5) (told := ?v6) (many := ?v7) ?tw ?hh ?kk); (case tw => assumption); (case hh => assumption))
  | ((with_reducible refine f_things (CW := ?v1) (dx := ?v2) (t := ?v3) (l := ?v4) (w := ?v5) (told := ?v6) (many := ?v7) ?tw ?hh ?kk); (case tw => assumption); (case hh => assumption))
  | ((with_reducible refine f_listening (CW := ?v1) (dx := ?v2) (t := ?v3) (l := ?v4) (w := ?v5) (told := ?v6) (many := ?v7) ?tw ?hh ?kk); (case tw => assumption); (case hh => assumption))
  | ((with_reducible refine f_tolds (CW := ?v1) (dx := ?v2) (t := ?v3) (l := ?v4) (w := ?v5) (b := ?v6) (many := ?v7) ?tw ?hh ?kk); (case tw => assumption); (case hh => assumption))
  | ((with_reducible refine f_told (CW := ?v1) (dx := ?v2) (t := ?v3) (l := ?v4) (w := ?v5) (told := ?v6) (many := ?v7) ?tw ?hh ?kk); (case tw => assumption); (case hh => assumption))
  | ((with_reducible refine f_many (CW := ?v1) (dx := ?v2) (t := ?v3) (l := ?v4) (w := ?v5) (told := ?v6) (many := ?v7) ?tw ?hh ?kk); (case tw => assumption); (case hh => assumption))
  | ((with_reducible refine w_ixL (v := ?vv) (xs := ?xx) ?hh ?h2 ?kk); (case hh => assumption); (case h2 => exact rfl)) | ((with_reducible refine w_ixT (v := ?vv) (xs := ?xx) ?hh ?h2 ?kk); (case hh => assumption); (case h2 => exact rfl)))
local macro_rules | `(tactic| tm_at "r") => `(tactic| repeat tm_at "s")
local macro_rules | `(tactic| tm_at "b") => `(tactic| first | refine w_iteT (by with_reducible rfl) ?_ | refine w_iteF (by with_reducible rfl) ?_ | refine w_iteT (by rfl) ?_ | refine w_iteF (by rfl) ?_)
local macro_rules | `(tactic| tm_at "e") => `(tactic| repeat (first | tm_at "s" | tm_at "b"))
local macro_rules | `(tactic| tm_at "s") => `(tactic| first
  | with_reducible refine w_gcons ?_ | with_reducible refine w_gnil ?_
  | ((with_reducible refine g_wire (CK := ?v1) (dx := ?v2) (a := ?v3) (c := ?v4) (r := ?v5) (said := ?v6) (n := ?v7) (s := ?v8) ?tw ?hh ?kk); (case tw => assumption); (case hh => assumption))
  | ((with_reducible refine g_kind (CK := ?v1) (dx := ?v2) (a := ?v3) (c := ?v4) (r := ?v5) (said := ?v6) (n := ?v7) (s := ?v8) ?tw ?hh ?kk); (case tw => assumption); (case hh => assumption))
  | ((with_reducible refine g_rest (CK := ?v1) (dx := ?v2) (a := ?v3) (c := ?v4) (r := ?v5) (said := ?v6) (n := ?v7) (s := ?v8) ?tw ?hh ?kk); (case tw => assumption); (case hh => assumption))
  | ((with_reducible refine g_saids (CK := ?v1) (dx := ?v2) (a := ?v3) (c := ?v4) (r := ?v5) (b := ?v6) (n := ?v7) (s := ?v8) ?tw ?hh ?kk); (case tw => assumption); (case hh => assumption))
  | ((with_reducible refine g_said (CK := ?v1) (dx := ?v2) (a := ?v3) (c := ?v4) (r := ?v5) (said := ?v6) (n := ?v7) (s := ?v8) ?tw ?hh ?kk); (case tw => assumption); (case hh => assumption))
  | ((with_reducible refine g_names (CK := ?v1) (dx := ?v2) (a := ?v3) (c := ?v4) (r := ?v5) (said := ?v6) (n := ?v7) (s := ?v8) ?tw ?hh ?kk); (case tw => assumption); (case hh => assumption))
  | ((with_reducible refine g_seen (CK := ?v1) (dx := ?v2) (a := ?v3) (c := ?v4) (r := ?v5) (said := ?v6) (n := ?v7) (s := ?v8) ?tw ?hh ?kk); (case tw => assumption); (case hh => assumption)))
local macro_rules | `(tactic| tm_at "s") => `(tactic| first
  | with_reducible refine w_pcons ?_ | with_reducible refine w_pnil ?_
  | ((with_reducible refine m_width (w := ?v1) (t := ?v2) (l := ?v3) (told := ?v4) (many := ?v5) ?hh ?kk); (case hh => assumption))
  | ((with_reducible refine m_things (w := ?v1) (t := ?v2) (l := ?v3) (told := ?v4) (many := ?v5) ?hh ?kk); (case hh => assumption))
  | ((with_reducible refine m_lis (w := ?v1) (t := ?v2) (l := ?v3) (told := ?v4) (many := ?v5) ?hh ?kk); (case hh => assumption))
  | ((with_reducible refine m_saids (w := ?v1) (t := ?v2) (l := ?v3) (b := ?v4) (many := ?v5) ?hh ?kk); (case hh => assumption))
  | ((with_reducible refine m_said (w := ?v1) (t := ?v2) (l := ?v3) (told := ?v4) (many := ?v5) ?hh ?kk); (case hh => assumption))
  | ((with_reducible refine m_looks (w := ?v1) (t := ?v2) (l := ?v3) (told := ?v4) (many := ?v5) ?hh ?kk); (case hh => assumption))
  | ((with_reducible refine j_kind (c := ?v1) (r := ?v2) (said := ?v3) (n := ?v4) (s := ?v5) ?hh ?kk); (case hh => assumption))
  | ((with_reducible refine j_rest (c := ?v1) (r := ?v2) (said := ?v3) (n := ?v4) (s := ?v5) ?hh ?kk); (case hh => assumption))
  | ((with_reducible refine j_saids (c := ?v1) (r := ?v2) (b := ?v3) (n := ?v4) (s := ?v5) ?hh ?kk); (case hh => assumption))
  | ((with_reducible refine j_said (c := ?v1) (r := ?v2) (said := ?v3) (n := ?v4) (s := ?v5) ?hh ?kk); (case hh => assumption))
  | ((with_reducible refine j_found (c := ?v1) (r := ?v2) (said := ?v3) (n := ?v4) (s := ?v5) ?hh ?kk); (case hh => assumption))
  | ((with_reducible refine j_paper (c := ?v1) (r := ?v2) (said := ?v3) (n := ?v4) (s := ?v5) ?hh ?kk); (case hh => assumption)))
local macro_rules | `(tactic| tm_at "s") => `(tactic| first | with_reducible refine w_par ?_ | with_reducible refine w_gcons ?_ | with_reducible refine w_gnil ?_ | with_reducible refine w_make ?_)
local macro_rules | `(tactic| tm_at "q") => `(tactic| repeat (first | with_reducible refine w_next ?_ | with_reducible refine w_seq ?_))
namespace My
abbrev s_law : Stmt := top 45
theorem sc_law : FnScope ["_law_script", "_law_row", "_law_sides", "_law_k", "_law_width_here", "_law_names", "_law_turn", "_law_wire", "_law_m", "_law_good", "_law_again", "_law_found", "_law_due", "_law_number_here"] ["_law_script"] (defScope s_law) := ⟨rfl, rfl, rfl, by decide +kernel, rfl, by decide +kernel, by decide +kernel⟩
def sp_law02 (K : PySem.W.Frag) (TT : List (Addr × Str)) : Sp := fun vs H Q _ => ∃ (a : Addr) (ns : List Int), vs = [.ref a] ∧ SqL K H a (ns.map V.int) ∧ LamX.Tabs TT H ∧ ∀ H', Q (.bl true) H'
section
variable {P : Program} {w : World} {K : PySem.W.Frag} {mg : Str → Option Value} {base : Heap} {CW : Addr}
theorem ok_law02 {f cN : Addr} {fd : FuncData} {TT : List (Addr × Str)} (F : Fun K "law" "law" s_law f fd) (T : TxB mg) (TW : ClW K CW)
    (C_law_taken : Cal P w K mg base 1 "_law_taken" ["_law_row", "_law_many"] (sp_taken K)) (C_law_width : Cal P w K mg base 2 "_law_width" ["_law_row"] (sp_width K)) (C_law_pool : Cal P w K mg base 5 "_law_pool" ["_law_row", "_law_width_here"] (sp_pool K))
    (C_Wire : CalC P w K mg base 2 CW "Wire" ["self", "width"] (sp_winit CW cN)) (C_law_model : Cal P w K mg base 1 "_law_model" ["_law_width_here"] sp_model) (C_law_change : Cal P w K mg base 10 "_law_change" ["_law_row", "_law_wire", "_law_m", "_law_names"] (sp_change K CW TT)) (C_law_use : Cal P w K mg base 10 "_law_use" ["_law_row", "_law_wire", "_law_m"] (sp_use K CW TT))
    (C_law_alike : Cal P w K mg base 7 "_law_alike" ["_law_found", "_law_due"] (sp_alike K 7)) (C_Wire_hung : CalM P w K mg base 1 CW "hung" ["self"] (sp_hung CW)) (C_Wire_alarms : CalM P w K mg base 1 CW "alarms" ["self"] (sp_alarms CW)) (C_Wire_looks : CalM P w K mg base 1 CW "looks" ["self"] (sp_looks CW)) :
    FnOk P w K mg base (L2.CX P w) 12 f fd ["_law_script"] (sp_law02 K TT) := by
  have cl_Wire := TW.cl
  refine F.okX sc_law (fun vs H Q E h => ?_) (fun cdv A outer s H vs Q E hr h => ⟨_, (pss_cons (ps_set (i := 1) sc_law.nd rfl (by first | exact Or.inl rfl | exact Or.inr rfl) (pe_lst (pa_cons (pv 0) (pa_cons pe_int (pa_cons pe_int (pa_cons pe_int pa_nil))))))
 (pss_lk (pss_cons (ps_set (i := 2) sc_law.nd rfl (by first | exact Or.inl rfl | exact Or.inr rfl) (pe_lst pa_nil))
 (pss_cons (ps_for (passes_of rfl) rfl (pi_range1 rfl T.n_range (pa_cons pe_int pa_nil)) (pg_name (i := 3) sc_law.nd rfl (by first | exact Or.inl rfl | exact Or.inr rfl))
 (pss_cons (ps_set (i := 4) sc_law.nd rfl (by first | exact Or.inl rfl | exact Or.inr rfl) (pe_cal (E := E0) C_law_width (hr.mono (by first | decide | omega)) passL (pa_cons (pv 1) pa_nil)))
 (pss_cons (ps_set (i := 5) sc_law.nd rfl (by first | exact Or.inl rfl | exact Or.inr rfl) (pe_cal (E := E0) C_law_pool (hr.mono (by first | decide | omega)) passL (pa_cons (pv 1) (pa_cons (pv 4) pa_nil))))
 (pss_one (ps_expr (pBm (K := K) rfl PySem.F.plainAttrs_list PySem.F.slot_list_append PySem.F.type_list_append mt_append (pv 2) (pa_cons (pe_tup (pa_cons (pe_mk C_Wire (hr.mono (by first | decide | omega)) passL (pa_cons (pv 4) pa_nil)) (pa_cons (pe_cal (E := E0) C_law_model (hr.mono (by first | decide | omega)) passL (pa_cons (pv 4) pa_nil)) (pa_cons (pv 5) pa_nil)))) pa_nil)))))))
 (pss_cons (ps_for (passes_of rfl) rfl (pi_range1 rfl T.n_range (pa_cons (pe_cal (E := E0) C_law_taken (hr.mono (by first | decide | omega)) passL (pa_cons (pv 1) (pa_cons pe_int pa_nil))) pa_nil)) (pg_name (i := 6) sc_law.nd rfl (by first | exact Or.inl rfl | exact Or.inr rfl))
 (pss_cons (ps_asg (pe_ix (ixL (K := K) rfl) (pv 2) (pe_cal (E := E0) C_law_taken (hr.mono (by first | decide | omega)) passL (pa_cons (pv 1) (pa_cons pe_int pa_nil))) (fun _ _ => rfl)) (pg_tup rfl (pgs_cons (pg_name (i := 7) sc_law.nd rfl (by first | exact Or.inl rfl | exact Or.inr rfl)) (pgs_cons (pg_name (i := 8) sc_law.nd rfl (by first | exact Or.inl rfl | exact Or.inr rfl)) (pgs_cons (pg_name (i := 5) sc_law.nd rfl (by first | exact Or.inl rfl | exact Or.inr rfl)) pgs_nil)))))
 (pss_cons (ps_set (i := 9) sc_law.nd rfl (by first | exact Or.inl rfl | exact Or.inr rfl) (pe_ifExp (pt_cmpR op_eq (pe_cal (E := E0) C_law_taken (hr.mono (by first | decide | omega)) passL (pa_cons (pv 1) (pa_cons pe_int pa_nil))) pe_int (nomark _)) (pe_cal (E := E0) C_law_change (hr.mono (by first | decide | omega)) passL (pa_cons (pv 1) (pa_cons (pv 7) (pa_cons (pv 8) (pa_cons (pv 5) pa_nil))))) (pe_cal (E := E0) C_law_use (hr.mono (by first | decide | omega)) passL (pa_cons (pv 1) (pa_cons (pv 7) (pa_cons (pv 8) pa_nil))))))
 (pss_cons (ps_if (pt_not (pt_val (pv 9)))
 (pss_one (ps_ret pe_bl))
 pss_nil)
 (pss_one (ps_for (passes_of rfl) rfl (pi_range1 rfl T.n_range (pa_cons pe_int pa_nil)) (pg_name (i := 10) sc_law.nd rfl (by first | exact Or.inl rfl | exact Or.inr rfl))
 (pss_cons (ps_set (i := 11) sc_law.nd rfl (by first | exact Or.inl rfl | exact Or.inr rfl) (pe_lst (pa_cons (pe_me0 (E := E0) (pv 7) cl_Wire C_Wire_hung (hr.mono (by first | decide | omega)) passL) (pa_cons (pe_me0 (E := E0) (pv 7) cl_Wire C_Wire_alarms (hr.mono (by first | decide | omega)) passL) pa_nil))))
 (pss_cons (ps_set (i := 12) sc_law.nd rfl (by first | exact Or.inl rfl | exact Or.inr rfl) (pe_lst (pa_cons (pe_callB (c_sortD rfl) (by rfl) T.n_sorted (by decide +kernel) (pa_cons (pe_dget (hu_of hr) (pv 8) pe_str (fun _ _ => rfl)) pa_nil)) (pa_cons (pe_lc (own := [("_law_number_here", 13)]) (g := gName 13) rfl sc_law.nd (piL (K := K) rfl (pe_callB (c_sortD rfl) (by rfl) T.n_sorted (by decide +kernel) (pa_cons (pe_dget (hu_of hr) (pv 8) pe_str (fun _ _ => rfl)) pa_nil))) (blkOk_by (own := [("_law_number_here", 13)]) (N := ["_law_script", "_law_row", "_law_sides", "_law_k", "_law_width_here", "_law_names", "_law_turn", "_law_wire", "_law_m", "_law_good", "_law_again", "_law_found", "_law_due", "_law_number_here"]) (sc := defScope s_law) (by decide +kernel)) (fun _ _ _ _ _ => pg_name (i := 13) sc_law.nd rfl (Or.inl rfl)) (fun _ _ _ _ _ => pts_one (pt_val (pe_dget (hu_of hr) (pe_dget (hu_of hr) (pv 8) pe_str (fun _ _ => rfl)) (pv 13) (fun _ _ => rfl)))) (fun _ _ _ _ _ => (pv 13))) pa_nil))))
 (pss_cons (ps_if (PW.pt (pw_or (pt_not (pt_val (pe_cal (E := E0) C_law_alike (hr.mono (by first | decide | omega)) passL (pa_cons (pv 11) (pa_cons (pv 12) pa_nil))))) (pw_or1 (pt_not (pt_val (pe_cal (E := E0) C_law_alike (hr.mono (by first | decide | omega)) passL (pa_cons (pe_me0 (E := E0) (pv 7) cl_Wire C_Wire_looks (hr.mono (by first | decide | omega)) passL) (pa_cons (pe_dget (hu_of hr) (pv 8) pe_str (fun _ _ => rfl)) pa_nil))))))))
 (pss_one (ps_ret pe_bl))
 pss_nil)
 (pss_cons (ps_expr (pBm (K := K) rfl PySem.F.plainAttrs_list PySem.F.slot_list_append PySem.F.type_list_append mt_append (pe_ix (ixL (K := K) rfl) (pv 11) pe_int (fun _ _ => rfl)) (pa_cons pe_str pa_nil)))
 (pss_one (ps_expr (pBm (K := K) rfl PySem.F.plainAttrs_list PySem.F.slot_list_append PySem.F.type_list_append mt_append (pe_ix (ixL (K := K) rfl) (pv 11) pe_int (fun _ _ => rfl)) (pa_cons pe_str pa_nil))))))))))))))
 (pss_one (ps_ret pe_bl))))))), ?_⟩)
  · obtain ⟨a0, ns, rfl, _⟩ := h
    rfl
  · obtain ⟨a0, ns, rfl, hs0, htab, q⟩ := h
    tm_at "r"
    intro r H1 hr1 e1 hr2
    tm_at "r"
    refine lk_byS hr2 (e1.seq (nsh_ints ns) hs0) (tabs_ext htab e1) (fun z0 H2 D lg kD => ?_) (fun H' => q H')
    clear hr1 e1 hr2 hs0 htab
    tm_at "r"
    intro sl H3 hsl e3 hsl3
    have lg := lg.ext e3
    tm_at "r"
    refine forR (fun i σ H => (∃ y3 y4 y5, σ = [some (.ref a0), some (.ref r), some (.ref sl), y3, y4, y5, none, none, none, none, none, none, none, none]) ∧ LG K TT z0 r H ∧ ∃ Ss : List Sd, Ss.length = i ∧ Sts H (oRefL sl (Ss.map (·.tp)) :: Ss.flatMap (Sd.own CW)) ∧ ∀ x ∈ Ss, x.Ok)
      ⟨⟨_, _, _, rfl⟩, lg, [], rfl, ⟨fun o ho => (by rw [List.mem_singleton.mp ho]; exact hsl3), List.pairwise_singleton _ _⟩, by simp⟩ ?_ ?_
    · clear lg hsl3 hsl e3
      rintro i σ H4 NN hi ⟨⟨y3, y4, y5, rfl⟩, lg, Ss, hSs, st, hok⟩ kN
      tm_at "r"
      refine ⟨r, rfl, lg.row, fun n H5 hn1 hn2 e5 => ?_⟩
      have lg := lg.ext e5
      tm_at "r"
      refine ⟨r, n, rfl, lg.row, hn1, hn2, fun p ls H6 hp e6 hp6 hri hne hlen hl40 => ?_⟩
      have lg := lg.ext e6
      have st0 := Sts.new (W := oList p ls) (st.ext e5) e6 (fun b hb => by rw [List.mem_singleton.mp hb]; exact hp) hp6
      have hslq : ∀ H', Ext H6 H' → H' sl = some (.lst ((Ss.map (·.tp)).map V.ref)) := fun H' e => (st0.ext e).1 (oRefL sl (Ss.map fun x : Sd => x.tp)) (by simp)
      tm_at "r"
      refine w_tyL (SqL.of (hslq _ (Ext.refl _))) ?_
      tm_at "r"
      intro a dx ha hdx hne2
      have ex := ext_make (C := CW) ha hdx hne2
      have a6 : upd (upd H6 dx (.own a)) a (.ins CW dx []) a = some (.ins CW dx []) := upd_same
      have nn : ∀ b, upd (upd H6 dx (.own a)) a (.ins CW dx []) b = none → H6 b = none := fun b hb => make_none hb
      generalize upd (upd H6 dx (.own a)) a (.ins CW dx []) = H7 at ex a6 nn ⊢
      refine ⟨a, dx, (n : Int), rfl, a6, fun h => absurd ⟨by omega, by omega⟩ h, fun n' t l H8 hn' _ _ W8 m8 => ⟨rfl, ?_⟩⟩
      obtain rfl : n' = n := by omega
      clear hn'
      have e8 := ext_fresh ha ex m8
      have fr : ∀ b ∈ [a, t, l], H6 b = none := fun b hb => by
        rcases m8.nw b hb with h | h
        · rw [List.mem_singleton.mp h]
          exact ha
        · exact nn b h
      have st1 := Sts.new (W := oWire CW a dx t l ⟨n', [], [], none, 0⟩) st0 e8 fr W8
      have lg := lg.ext e8
      clear m8 nn a6 ex hdx hne2
      tm_at "r"
      refine ⟨n', rfl, fun d tm lm H9 hd htm hlm e9 G9 => ?_⟩
      have st2 := Sts.new (W := oM d tm lm ⟨n', [], [], none, 0⟩) st1 e9 (fun b hb => by
        change b ∈ [d, tm, lm] at hb
        simp only [List.mem_cons, List.not_mem_nil, or_false] at hb
        rcases hb with rfl | rfl | rfl
        · exact hd
        · exact htm
        · exact hlm) G9
      have lg := lg.ext e9
      tm_at "r"
      intro tp H10 htp e10 htp10
      have st3 := Sts.new (W := oTup1 tp [.ref a, .ref d, .ref p]) st2 e10 (fun b hb => by rw [List.mem_singleton.mp hb]; exact htp) htp10
      have lg := lg.ext e10
      have hsl10 := hslq H10 ((e8.trans e9).trans e10)
      tm_at "r"
      refine w_append hsl10 (by rw [List.length_map, List.length_map]; omega) ?_
      rw [show (Ss.map fun x : Sd => x.tp).map V.ref ++ [V.ref tp] = ((Ss.map fun x : Sd => x.tp) ++ [tp]).map V.ref by rw [List.map_append]; rfl]
      have mm : Step [sl] [sl] H10 (upd H10 sl (.lst (((Ss.map fun x : Sd => x.tp) ++ [tp]).map V.ref))) := Step.wr hsl10 (by simp)
      have al := Sts.al (l1 := [_, _, _, _]) st3
      have st4 := Sts.step (l1 := [oTup1 tp [.ref a, .ref d, .ref p], oM d tm lm ⟨n', [], [], none, 0⟩, oWire CW a dx t l ⟨n', [], [], none, 0⟩, oList p ls]) (W' := oRefL sl ((Ss.map fun x : Sd => x.tp) ++ [tp])) st3 upd_same mm
      have lg := lg.step mm al
      generalize upd H10 sl (.lst (((Ss.map fun x : Sd => x.tp) ++ [tp]).map V.ref)) = H11 at st4 lg ⊢
      refine kN _ _ ⟨⟨_, _, _, rfl⟩, lg, Ss ++ [⟨a, dx, t, l, d, tm, lm, p, tp, ⟨n', [], [], none, 0⟩, ls⟩], by simp [hSs], ?_, fun x hx => ?_⟩
      · rw [List.map_append, List.flatMap_append]
        refine st4.perm ?_
        have : List.flatMap (Sd.own CW) [⟨a, dx, t, l, d, tm, lm, p, tp, ⟨n', [], [], none, 0⟩, ls⟩] = [oWire CW a dx t l ⟨n', [], [], none, 0⟩, oM d tm lm ⟨n', [], [], none, 0⟩, oList p ls, oTup1 tp [.ref a, .ref d, .ref p]] := by simp [Sd.own]
        rw [this]
        exact (List.perm_append_comm (l₁ := [oTup1 tp [.ref a, .ref d, .ref p], oM d tm lm ⟨n', [], [], none, 0⟩, oWire CW a dx t l ⟨n', [], [], none, 0⟩, oList p ls])).trans (List.Perm.append_left _ ((List.perm_append_comm (l₁ := [oTup1 tp [.ref a, .ref d, .ref p]]) (l₂ := [_, _, _])).trans (List.Perm.swap _ _ _)))
      · rcases List.mem_append.mp hx with hx | hx
        · exact hok x hx
        · rw [List.mem_singleton.mp hx]
          exact ⟨⟨hn1, hn2, by simp, fun k hk => absurd hk (by simp), by simp, List.Pairwise.nil, fun k hk => absurd hk (by simp), by simp, fun b hb => (by cases hb), fun _ => rfl⟩, by simp, fun k hk => absurd hk (by simp [WM.keys]), hne, hl40, rise_nodup hri, hlen⟩
    · rintro σ H4 ⟨⟨y3, y4, y5, rfl⟩, lg, Ss, hSs, st, hok⟩
      have hSs : Ss.length = 2 := hSs
      tm_at "r"
      refine u_taken lg.row (by omega) (by omega) fun x5 H5 h50 h51 e5 => ?_
      have lg := lg.ext e5
      have st := st.ext e5
      tm_at "r"
      refine forR (fun i σ H => (∃ v : List (Option V), v.length = 11 ∧ σ = some (.ref a0) :: some (.ref r) :: some (.ref sl) :: v) ∧ LG K TT z0 r H ∧ ∃ Ss : List Sd, Ss.length = 2 ∧ Sts H (oRefL sl (Ss.map fun x : Sd => x.tp) :: Ss.flatMap (Sd.own CW)) ∧ ∀ x ∈ Ss, x.Ok)
        ⟨⟨_, rfl, rfl⟩, lg, Ss, hSs, st, hok⟩ ?_ ?_
      · clear lg st hok
        rintro i σ H6 NN hi ⟨⟨v, hv, rfl⟩, lg, Ss, hSs, st, hok⟩ kN
        obtain ⟨v3, v4, v5, v6, v7, v8, v9, v10, v11, v12, v13, rfl⟩ : ∃ v3 v4 v5 v6 v7 v8 v9 v10 v11 v12 v13, v = [v3, v4, v5, v6, v7, v8, v9, v10, v11, v12, v13] := by
          match v, hv with
          | [v3, v4, v5, v6, v7, v8, v9, v10, v11, v12, v13], _ => exact ⟨_, _, _, _, _, _, _, _, _, _, _, rfl⟩
        clear hv
        have hsl6 : H6 sl = some (.lst ((Ss.map fun x : Sd => x.tp).map V.ref)) := st.1 (oRefL sl (Ss.map fun x : Sd => x.tp)) (by simp)
        tm_at "r"
        refine u_taken lg.row (by omega) (by omega) fun x6 H7 h60 h61 e7 => ?_
        obtain ⟨k, rfl⟩ : ∃ k : Nat, x6 = (k : Int) := ⟨x6.toNat, by omega⟩
        have lg := lg.ext e7
        have st := st.ext e7
        obtain ⟨x, hx⟩ : ∃ x, Ss[k]? = some x := ⟨_, List.getElem?_eq_getElem (by omega)⟩
        have hxm := List.mem_of_getElem? hx
        have ox := hok x hxm
        have own : ∀ o ∈ x.own CW, o.S H7 := fun o ho => st.1 o (List.mem_cons_of_mem _ (List.mem_flatMap.mpr ⟨x, hxm, ho⟩))
        have htp : H7 x.tp = some (.tup [.ref x.a, .ref x.d, .ref x.p]) := own (oTup1 x.tp _) (by simp [Sd.own])
        tm_at "r"
        refine w_ixL (v := .ref x.tp) (SqL.of (e7.st _ _ hsl6 (nsh_refs _))) (atI_k (by rw [List.getElem?_map, List.getElem?_map, hx]; rfl)) ?_
        refine ⟨x.tp, _, rfl, SqT.of htp, rfl, ?_⟩
        refine w_gcons ?_
        refine w_gname ?_
        refine w_gcons ?_
        refine w_gname ?_
        refine w_gcons ?_
        refine w_gname ?_
        refine w_gnil ?_
        clear hsl6 e7 own htp
        tm_at "q"
        refine scut (fun σ1 H1 => ∃ b9, σ1 = [some (.ref a0), some (.ref r), some (.ref sl), v3, v4, some (.ref x.p), some (.int (0 + (i : Int))), some (.ref x.a), some (.ref x.d), some b9, v10, v11, v12, v13] ∧ b9 = .bl true ∧ LG K TT z0 r H1 ∧ ∃ y : Sd, y.own CW = [oWire CW x.a x.dx x.t y.l y.M, oM x.d x.tm y.lm y.M, oList x.p x.ls, oTup1 x.tp [.ref x.a, .ref x.d, .ref x.p]] ∧ y.tp = x.tp ∧ y.ls = x.ls ∧ y.Ok ∧ Sts H1 (oRefL sl (Ss.map fun x : Sd => x.tp) :: (Ss.set k y).flatMap (Sd.own CW))) ?_ (fun tail => ?_)
        rotate_left
        · have st' := st
          rw [Sd.split hx] at st'
          tm_at "r"
          refine u_taken lg.row (by omega) (by omega) fun x8 H8 h80 h81 e8 => ?_
          have lg := lg.ext e8
          have st' := st'.ext e8
          have hlz := ox.lz
          have hsz := ox.sz
          have hpx : H8 x.p = some (.lst (bvs x.ls)) := st'.1 (oList x.p x.ls) (by simp)
          tm_at "r"
          refine w_iteD (fun c => ?_) fun c => ?_
          · tm_at "r"
            refine ⟨r, x.a, x.dx, x.t, x.l, x.d, x.tm, x.lm, x.p, x.M, x.M, x.ls, rfl, lg.row, Sts.get2 st', ox.ok, ox.ok, rfl, by omega, hpx, ox.ne, by omega, ox.ln, lg.tab, fun lm' wd u H9 hu _ st9 _ m9 => ?_⟩
            have lg := lg.stepN m9 (Sts.al2 st')
            have st'' := Sts.step2N (A' := oWire CW x.a x.dx x.t x.l (deedM x.M wd u).1) (B' := oM x.d x.tm lm' (deedM x.M wd u).1) st' st9 m9
            obtain ⟨o1, o2, o3⟩ := ox.ok.deed (wd := wd) (x := u) (ox.ln u hu) (by omega)
            have kk := deed_kl (wd := wd) ox.ks hu
            have z40 : (deedM x.M wd u).1.things.length ≤ 40 := by
              have := nodup_le (deedM x.M wd u).1.keys x.ls o1.nd kk
              unfold WM.keys at this
              rw [List.length_map] at this
              omega
            refine w_gname ?_
            exact tail _ _ ⟨_, rfl, rfl, lg, { x with lm := lm', M := (deedM x.M wd u).1 }, rfl, rfl, rfl, ⟨o1, z40, kk, ox.ne, ox.lz, ox.nd, fun k hk => (ox.ln k hk).trans o2.symm⟩, by rw [Sd.joined (y := { x with lm := lm', M := (deedM x.M wd u).1 }) hx rfl]; exact st''⟩
          · tm_at "r"
            refine ⟨r, x.a, x.dx, x.t, x.l, x.d, x.tm, x.lm, x.M, rfl, lg.row, Sts.get2 st', ox.ok, lg.tab, fun l' lm' M' H9 J ok' hw' ht' => ?_⟩
            have lg := lg.stepN J.m (Sts.al2 st')
            have st'' := Sts.step2N (A' := oWire CW x.a x.dx x.t l' M') (B' := oM x.d x.tm lm' M') st' J.st J.m
            have kk : ∀ k ∈ M'.keys, k ∈ x.ls := fun k hk => ox.ks k (by unfold WM.keys at hk ⊢; rw [ht'] at hk; exact hk)
            refine w_gname ?_
            exact tail _ _ ⟨_, rfl, rfl, lg, { x with l := l', lm := lm', M := M' }, rfl, rfl, rfl, ⟨ok', by show M'.things.length ≤ 40; rw [ht']; exact hsz, kk, ox.ne, ox.lz, ox.nd, fun k hk => (ox.ln k hk).trans hw'.symm⟩, by rw [Sd.joined (y := { x with l := l', lm := lm', M := M' }) hx rfl]; exact st''⟩
        · rintro σ1 H8 ⟨b9, rfl, rfl, lg, y, hy, hytp, hyls, oy, st⟩
          have hmy : y ∈ Ss.set k y := List.mem_of_getElem? (i := k) (by rw [List.getElem?_set, if_pos rfl, if_pos (List.getElem?_eq_some_iff.mp hx).1])
          have hmem : ∀ o ∈ y.own CW, o ∈ oRefL sl (Ss.map fun x : Sd => x.tp) :: (Ss.set k y).flatMap (Sd.own CW) := fun o ho => List.mem_cons_of_mem _ (List.mem_flatMap.mpr ⟨y, hmy, ho⟩)
          have fin : ∀ v H, v.length = 4 → LG K TT z0 r H → Sts H (oRefL sl (Ss.map fun x : Sd => x.tp) :: (Ss.set k y).flatMap (Sd.own CW)) → NN (some (.ref a0) :: some (.ref r) :: some (.ref sl) :: v3 :: v4 :: some (.ref x.p) :: some (.int (0 + (i : Int))) :: some (.ref x.a) :: some (.ref x.d) :: some (.bl true) :: v) H := fun v H hv lg st => by
            refine kN _ _ ⟨⟨_, by simp [hv], rfl⟩, lg, Ss.set k y, by simp [hSs], by rw [Sd.tps hx hytp]; exact st, fun x' hx' => ?_⟩
            rcases List.mem_or_eq_of_mem_set hx' with h | rfl
            · exact hok x' h
            · exact oy
          have hoW : oWire CW x.a x.dx x.t y.l y.M ∈ y.own CW := by rw [hy]; simp
          have hoM : oM x.d x.tm y.lm y.M ∈ y.own CW := by rw [hy]; simp
          generalize oRefL sl (Ss.map fun x : Sd => x.tp) :: (Ss.set k y).flatMap (Sd.own CW) = Os at st hmem fin
          generalize y.l = l1 at hoW
          generalize y.lm = lm1 at hoM
          have okM := oy.ok
          have hsy := oy.sz
          generalize y.M = M1 at hoW hoM okM hsy
          have hW := hmem _ hoW
          have hM := hmem _ hoM
          clear hmem hoW hoM oy hyls hytp hy hmy kN hok ox hxm
          tm_at "r"
          tm_at "b"
          tm_at "r"
          refine forR (fun i2 σ H => (∃ v : List (Option V), v.length = 4 ∧ σ = some (.ref a0) :: some (.ref r) :: some (.ref sl) :: v3 :: v4 :: some (.ref x.p) :: some (.int (0 + (i : Int))) :: some (.ref x.a) :: some (.ref x.d) :: some (.bl true) :: v) ∧ LG K TT z0 r H ∧ Sts H Os) ⟨⟨_, rfl, rfl⟩, lg, st⟩ ?_ ?_
          · clear lg st
            rintro i2 σ H9 N9 _ ⟨⟨v, hv, rfl⟩, lg, st⟩ kN9
            obtain ⟨v10, v11, v12, v13, rfl⟩ : ∃ v10 v11 v12 v13, v = [v10, v11, v12, v13] := by
              match v, hv with
              | [v10, v11, v12, v13], _ => exact ⟨_, _, _, _, rfl⟩
            clear hv
            have W4 : WAt CW x.a x.dx x.t l1 M1 H9 := st.1 _ hW
            have gm : MAt x.d x.tm lm1 M1 H9 := st.1 _ hM
            have ob := gm.ob
            have hmz : M1.things.length ≤ 60 := okM.sz
            tm_at "r"
            refine w_meOk W4.ob (by kernel_rfl) ?_
            refine ⟨x.a, x.dx, x.t, l1, M1, rfl, W4, okM, fun pa la H10 hpa e10 hpa' hra hla => ?_⟩
            tm_at "r"
            have W5 : WAt CW x.a x.dx x.t l1 M1 H10 := (oWire CW x.a x.dx x.t l1 M1).ext e10 W4
            refine w_meOk W5.ob (by kernel_rfl) ?_
            refine ⟨x.a, x.dx, x.t, l1, M1, rfl, W5, okM, fun pb lb H11 hpb e11 hpb' hrb hlb => ?_⟩
            tm_at "r"
            intro zz H12 hzz e12 hzz'
            have e3 := (e10.trans e11).trans e12
            have ob12 := e3.st _ _ ob nsh_dK
            have th12 := e3.st _ _ gm.th nsh_dK
            tm_at "r"
            refine w_sortD (.inl th12) (by omega) okM.nd fun ms q1 H21 hpm hri hq1 e21 hq1' => ?_
            have ob21 := e21.st _ _ ob12 nsh_dK
            have th21 := e21.st _ _ th12 nsh_dK
            tm_at "r"
            refine w_sortD (.inl th21) (by omega) okM.nd fun ms2 q2 H22 hpm2 hri2 hq2 e22 hq2' => ?_
            tm_at "r"
            refine w_lstOk (SqL.of hq2') ?_
            have hml : ms2.length ≤ 60 := by rw [hpm2.length_eq, List.length_map]; exact hmz
            have hml1 : ms.length ≤ 60 := by rw [hpm.length_eq, List.length_map]; exact hmz
            refine lcFB (fun y => (alook M1.things y).getD false) (src_bits (SqL.of hq2')) (fun i x h => yb h) (by omega) (fun _ => rfl) (fun y H2 NF NE hy e2 kF kE => ?_) fun q3 H23 hq3 e23 hq3' => ?_
            · have ob2 := (e22.trans e2).st _ _ ob21 nsh_dK
              have th2 := (e22.trans e2).st _ _ th21 nsh_dK
              obtain ⟨u, hu⟩ := alook_some (hpm2.subset hy)
              rw [hu] at kF kE
              tm_at "r"
              refine w_dgetB (.inl th2) hu ?_
              tm_at "r"
              cases u
              · tm_at "e"
                exact kF rfl
              · tm_at "e"
                exact kE rfl
            · have hperm : (ms2.filter fun y => (alook M1.things y).getD false).Perm ((M1.things.filter fun p => p.2).map (·.1)) := by
                rw [← keys_ring okM.nd]
                exact hpm2.filter _
              have hrise : Rise (ms2.filter fun y => (alook M1.things y).getD false) := List.Pairwise.filter _ hri2
              have hlen2 : (ms2.filter fun y => (alook M1.things y).getD false).length ≤ 60 := Nat.le_trans (List.length_filter_le _ _) hml
              generalize (ms2.filter fun y => (alook M1.things y).getD false) = rs at hq3' hperm hrise hlen2
              tm_at "r"
              intro zd H24 hzd e24 hzd'
              have ela : la = ms := rise_perm hra hri (hla.trans hpm.symm)
              have elb : lb = rs := rise_perm hrb hrise (hlb.trans hperm.symm)
              subst ela elb
              have e34 := (e22.trans e23).trans e24
              have e14 := e12.trans (e21.trans e34)
              have hq1'' := e34.st _ _ hq1' (nsh_bvs _)
              have hq3'' := e24.st _ _ hq3' (nsh_bvs _)
              have hpa'' := e14.st _ _ (e11.st _ _ hpa' (nsh_bvs _)) (nsh_bvs _)
              have hpb'' := e14.st _ _ hpb' (nsh_bvs _)
              have hzz'' := (e21.trans e34).st _ _ hzz' (nsh_ne4 (show (2 : Nat) ≠ 4 by decide))
              have eAll := e3.trans (e21.trans e34)
              have fpb := e10.free hpb
              have fpb1 : H10 pb = none := hpb
              have hpa1 : H10 pa = some (.lst (bvs la)) := hpa'
              clear e34 e14 e24 e23 e22 e21 e12 e11 e3 ob ob12 th12 ob21 th21 gm W4 W5 hq1 hq2 hq2' hq3 hq3' hq1' hzd hpa' hpb' hzz hzz' hpb
              tm_at "r"
              refine u_alike (dq_two hzz'' hpa'' hpb'' (by omega) (by omega)) (dq_two hzd' hq1'' hq3'' (by omega) (by omega)) (dpt_two _ _) fun H28 e28 => ?_
              have eA := eAll.trans e28
              have W6 : WAt CW x.a x.dx x.t l1 M1 H28 := (st.ext eA).1 _ hW
              have ob28 := ((st.ext eA).1 _ hM : MAt x.d x.tm lm1 M1 H28).ob
              tm_at "r"
              tm_at "b"
              tm_at "r"
              refine w_meOk W6.ob (by kernel_rfl) ?_
              refine ⟨x.a, x.dx, x.t, l1, M1, rfl, W6, ?_⟩
              tm_at "r"
              refine u_alike (.int _) (.int _) (by simp [PyData.depth]) fun H29 e29 => ?_
              have eB := eA.trans e29
              have hzz3 := (e28.trans e29).st _ _ hzz'' (nsh_ne4 (show (2 : Nat) ≠ 4 by decide))
              have hpa3 := (e28.trans e29).st _ _ hpa'' (nsh_bvs _)
              have hpb3 := (e28.trans e29).st _ _ hpb'' (nsh_bvs _)
              tm_at "r"
              tm_at "b"
              tm_at "r"
              refine w_ixL (v := .ref pa) (SqL.of hzz3) rfl ?_
              refine w_tyL (SqL.of hpa3) ?_
              tm_at "r"
              refine w_append hpa3 (by rw [bvs_len]; omega) ?_
              have eC := eB.mut (o := .lst (bvs la ++ [.str ""])) hpa
              have nab : pb ≠ pa := fun e => by
                rw [e] at fpb1
                rw [fpb1] at hpa1
                cases hpa1
              have nza : zz ≠ pa := fun e => by
                rw [e, hpa3] at hzz3
                cases la with
                | nil => cases hzz3
                | cons c la => cases hzz3
              have hzz4 : upd H29 pa (.lst (bvs la ++ [.str ""])) zz = some (.lst [.ref pa, .ref pb]) := (upd_ne nza).trans hzz3
              have hpb4 : upd H29 pa (.lst (bvs la ++ [.str ""])) pb = some (.lst (bvs lb)) := (upd_ne nab).trans hpb3
              tm_at "r"
              refine w_ixL (v := .ref pb) (SqL.of hzz4) rfl ?_
              refine w_tyL (SqL.of hpb4) ?_
              tm_at "r"
              refine w_append hpb4 (by rw [bvs_len]; omega) ?_
              have eD := eC.mut (o := .lst (bvs lb ++ [.str ""])) fpb
              exact kN9 _ _ ⟨⟨_, rfl, rfl⟩, lg.ext eD, st.ext eD⟩
          · rintro σ H9 ⟨⟨v, hv, rfl⟩, lg, st⟩
            exact fin v H9 hv lg st
      · rintro σ H6 ⟨⟨v, hv, rfl⟩, lg, _⟩
        tm_at "r"
        exact kD H6 lg
end
end My
end

section
set_option pp.maxSteps 700
namespace My
open PySem L2 Lw PyProof.Rows
theorem all_mk {l : PySem.W.OpenLaw} {w : World} {K : PySem.W.Frag} {h : Heap} {mg : Str → Option Value} {fa c_Wire f_law_taken f_law_width f_law_number f_law_near f_law_things f_law_pool f_need_width f_Wire___init f_law_model f_are_bits f_is_number f_need_number f_Wire_hang f_Wire_need_thing f_Wire_off f_Wire_alarm f_Wire_calm f_law_become f_law_deed f_law_change cd_law_change P_law_change f_law_begun f_law_said f_law_looked f_law_alike f_need_kind f_Wire_begin f_Wire_need_round f_look_at f_Wire_look f_Wire_say f_law_use cd_law_use P_law_use f_Wire_hung f_Wire_alarms f_Wire_looks f_law f_law_word e_BusError e_BadWidth e_BadNumber e_BadKind e_BadBit e_There e_NotThere e_NoRound e_Over e_Busy e_BadLooks e_BadRoster e_TooMany e_BadPlan e_BadStep e_BadText a_KINDS : Addr} {ts : List Addr} (X : K.In h) (G : h.Ns mainGlobals mg) (hts : ∀ P ∈ ts, h.get? P = some (PySem.W.tabObj #[])) (hfa : mg "law" = some (.ref fa))
    {od_law_taken an_law_taken : Option Addr} {sl_law_taken : Array (Option Value)} {oc_law_taken kV_law_taken dc_law_taken pm_law_taken ct_law_taken cd_law_taken : Value}
    {od_law_width an_law_width : Option Addr} {sl_law_width : Array (Option Value)} {oc_law_width kV_law_width dc_law_width pm_law_width ct_law_width cd_law_width : Value}
    {od_law_number an_law_number : Option Addr} {sl_law_number : Array (Option Value)} {oc_law_number kV_law_number dc_law_number pm_law_number ct_law_number cd_law_number : Value}
    {od_law_near an_law_near : Option Addr} {sl_law_near : Array (Option Value)} {oc_law_near kV_law_near dc_law_near pm_law_near ct_law_near cd_law_near : Value}
    {od_law_things an_law_things : Option Addr} {sl_law_things : Array (Option Value)} {oc_law_things kV_law_things dc_law_things pm_law_things ct_law_things cd_law_things : Value}
    {od_law_pool an_law_pool : Option Addr} {sl_law_pool : Array (Option Value)} {oc_law_pool kV_law_pool dc_law_pool pm_law_pool ct_law_pool cd_law_pool : Value}
    {od_need_width an_need_width : Option Addr} {sl_need_width : Array (Option Value)} {oc_need_width kV_need_width dc_need_width pm_need_width ct_need_width cd_need_width : Value}
    {od_Wire___init an_Wire___init : Option Addr} {sl_Wire___init : Array (Option Value)} {oc_Wire___init kV_Wire___init dc_Wire___init pm_Wire___init ct_Wire___init cd_Wire___init : Value}
    {od_law_model an_law_model : Option Addr} {sl_law_model : Array (Option Value)} {oc_law_model kV_law_model dc_law_model pm_law_model ct_law_model cd_law_model : Value}
    {od_are_bits an_are_bits : Option Addr} {sl_are_bits : Array (Option Value)} {oc_are_bits kV_are_bits dc_are_bits pm_are_bits ct_are_bits cd_are_bits : Value}
    {od_is_number an_is_number : Option Addr} {sl_is_number : Array (Option Value)} {oc_is_number kV_is_number dc_is_number pm_is_number ct_is_number cd_is_number : Value}
    {od_need_number an_need_number : Option Addr} {sl_need_number : Array (Option Value)} {oc_need_number kV_need_number dc_need_number pm_need_number ct_need_number cd_need_number : Value}
    {od_Wire_hang an_Wire_hang : Option Addr} {sl_Wire_hang : Array (Option Value)} {oc_Wire_hang kV_Wire_hang dc_Wire_hang pm_Wire_hang ct_Wire_hang cd_Wire_hang : Value}
    {od_Wire_need_thing an_Wire_need_thing : Option Addr} {sl_Wire_need_thing : Array (Option Value)} {oc_Wire_need_thing kV_Wire_need_thing dc_Wire_need_thing pm_Wire_need_thing ct_Wire_need_thing cd_Wire_need_thing : Value}
    {od_Wire_off an_Wire_off : Option Addr} {sl_Wire_off : Array (Option Value)} {oc_Wire_off kV_Wire_off dc_Wire_off pm_Wire_off ct_Wire_off cd_Wire_off : Value}
    {od_Wire_alarm an_Wire_alarm : Option Addr} {sl_Wire_alarm : Array (Option Value)} {oc_Wire_alarm kV_Wire_alarm dc_Wire_alarm pm_Wire_alarm ct_Wire_alarm cd_Wire_alarm : Value}
    {od_Wire_calm an_Wire_calm : Option Addr} {sl_Wire_calm : Array (Option Value)} {oc_Wire_calm kV_Wire_calm dc_Wire_calm pm_Wire_calm ct_Wire_calm cd_Wire_calm : Value}
    {od_law_become an_law_become : Option Addr} {sl_law_become : Array (Option Value)} {oc_law_become kV_law_become dc_law_become pm_law_become ct_law_become cd_law_become : Value}
    {od_law_deed an_law_deed : Option Addr} {sl_law_deed : Array (Option Value)} {oc_law_deed kV_law_deed dc_law_deed pm_law_deed ct_law_deed cd_law_deed : Value}
    {od_law_change an_law_change : Option Addr} {sl_law_change : Array (Option Value)} {oc_law_change kV_law_change dc_law_change pm_law_change ct_law_change : Value}
    {od_law_begun an_law_begun : Option Addr} {sl_law_begun : Array (Option Value)} {oc_law_begun kV_law_begun dc_law_begun pm_law_begun ct_law_begun cd_law_begun : Value}
    {od_law_said an_law_said : Option Addr} {sl_law_said : Array (Option Value)} {oc_law_said kV_law_said dc_law_said pm_law_said ct_law_said cd_law_said : Value}
    {od_law_looked an_law_looked : Option Addr} {sl_law_looked : Array (Option Value)} {oc_law_looked kV_law_looked dc_law_looked pm_law_looked ct_law_looked cd_law_looked : Value}
    {od_law_alike an_law_alike : Option Addr} {sl_law_alike : Array (Option Value)} {oc_law_alike kV_law_alike dc_law_alike pm_law_alike ct_law_alike cd_law_alike : Value}
    {od_need_kind an_need_kind : Option Addr} {sl_need_kind : Array (Option Value)} {oc_need_kind kV_need_kind dc_need_kind pm_need_kind ct_need_kind cd_need_kind : Value}
    {od_Wire_begin an_Wire_begin : Option Addr} {sl_Wire_begin : Array (Option Value)} {oc_Wire_begin kV_Wire_begin dc_Wire_begin pm_Wire_begin ct_Wire_begin cd_Wire_begin : Value}
    {od_Wire_need_round an_Wire_need_round : Option Addr} {sl_Wire_need_round : Array (Option Value)} {oc_Wire_need_round kV_Wire_need_round dc_Wire_need_round pm_Wire_need_round ct_Wire_need_round cd_Wire_need_round : Value}
    {od_look_at an_look_at : Option Addr} {sl_look_at : Array (Option Value)} {oc_look_at kV_look_at dc_look_at pm_look_at ct_look_at cd_look_at : Value}
    {od_Wire_look an_Wire_look : Option Addr} {sl_Wire_look : Array (Option Value)} {oc_Wire_look kV_Wire_look dc_Wire_look pm_Wire_look ct_Wire_look cd_Wire_look : Value}
    {od_Wire_say an_Wire_say : Option Addr} {sl_Wire_say : Array (Option Value)} {oc_Wire_say kV_Wire_say dc_Wire_say pm_Wire_say ct_Wire_say cd_Wire_say : Value}
    {od_law_use an_law_use : Option Addr} {sl_law_use : Array (Option Value)} {oc_law_use kV_law_use dc_law_use pm_law_use ct_law_use : Value}
    {od_Wire_hung an_Wire_hung : Option Addr} {sl_Wire_hung : Array (Option Value)} {oc_Wire_hung kV_Wire_hung dc_Wire_hung pm_Wire_hung ct_Wire_hung cd_Wire_hung : Value}
    {od_Wire_alarms an_Wire_alarms : Option Addr} {sl_Wire_alarms : Array (Option Value)} {oc_Wire_alarms kV_Wire_alarms dc_Wire_alarms pm_Wire_alarms ct_Wire_alarms cd_Wire_alarms : Value}
    {od_Wire_looks an_Wire_looks : Option Addr} {sl_Wire_looks : Array (Option Value)} {oc_Wire_looks kV_Wire_looks dc_Wire_looks pm_Wire_looks ct_Wire_looks cd_Wire_looks : Value}
    {od_law an_law : Option Addr} {sl_law : Array (Option Value)} {oc_law kV_law dc_law pm_law ct_law cd_law : Value}
    {od_law_word an_law_word : Option Addr} {sl_law_word : Array (Option Value)} {oc_law_word kV_law_word dc_law_word pm_law_word ct_law_word cd_law_word : Value}
    {od_KINDS : Option Addr} {nn_KINDS : Nat} {sl_KINDS : Array (Option Value)} {j1_KINDS j2_KINDS j_MOST_WIDTH : Tok}
    (n_Wire : PySem.W.nsIn K mainGlobals "Wire" = some (some (.ref c_Wire)))
    (a_law_taken : PySem.W.nsIn K mainGlobals "_law_taken" = some (some (.ref f_law_taken)))
    (l_law_taken : K.lookup f_law_taken = some ⟨oc_law_taken, od_law_taken, .func (PySem.W.fnOf "_law_taken" "_law_taken" (defArgs s_law_taken) (defBody s_law_taken) (defScope s_law_taken) .none kV_law_taken dc_law_taken pm_law_taken an_law_taken cd_law_taken ct_law_taken), sl_law_taken⟩)
    (d_law_taken : PySem.W.codeIn K cd_law_taken "_law_taken" = true)
    (k_law_taken : PySem.W.keepIn K (.ref f_law_taken) = true)
    (a_law_width : PySem.W.nsIn K mainGlobals "_law_width" = some (some (.ref f_law_width)))
    (l_law_width : K.lookup f_law_width = some ⟨oc_law_width, od_law_width, .func (PySem.W.fnOf "_law_width" "_law_width" (defArgs s_law_width) (defBody s_law_width) (defScope s_law_width) .none kV_law_width dc_law_width pm_law_width an_law_width cd_law_width ct_law_width), sl_law_width⟩)
    (d_law_width : PySem.W.codeIn K cd_law_width "_law_width" = true)
    (k_law_width : PySem.W.keepIn K (.ref f_law_width) = true)
    (a_law_number : PySem.W.nsIn K mainGlobals "_law_number" = some (some (.ref f_law_number)))
    (l_law_number : K.lookup f_law_number = some ⟨oc_law_number, od_law_number, .func (PySem.W.fnOf "_law_number" "_law_number" (defArgs s_law_number) (defBody s_law_number) (defScope s_law_number) .none kV_law_number dc_law_number pm_law_number an_law_number cd_law_number ct_law_number), sl_law_number⟩)
    (d_law_number : PySem.W.codeIn K cd_law_number "_law_number" = true)
    (k_law_number : PySem.W.keepIn K (.ref f_law_number) = true)
    (a_law_near : PySem.W.nsIn K mainGlobals "_law_near" = some (some (.ref f_law_near)))
    (l_law_near : K.lookup f_law_near = some ⟨oc_law_near, od_law_near, .func (PySem.W.fnOf "_law_near" "_law_near" (defArgs s_law_near) (defBody s_law_near) (defScope s_law_near) .none kV_law_near dc_law_near pm_law_near an_law_near cd_law_near ct_law_near), sl_law_near⟩)
    (d_law_near : PySem.W.codeIn K cd_law_near "_law_near" = true)
    (k_law_near : PySem.W.keepIn K (.ref f_law_near) = true)
    (a_law_things : PySem.W.nsIn K mainGlobals "_law_things" = some (some (.ref f_law_things)))
    (l_law_things : K.lookup f_law_things = some ⟨oc_law_things, od_law_things, .func (PySem.W.fnOf "_law_things" "_law_things" (defArgs s_law_things) (defBody s_law_things) (defScope s_law_things) .none kV_law_things dc_law_things pm_law_things an_law_things cd_law_things ct_law_things), sl_law_things⟩)
    (d_law_things : PySem.W.codeIn K cd_law_things "_law_things" = true)
    (k_law_things : PySem.W.keepIn K (.ref f_law_things) = true)
    (a_law_pool : PySem.W.nsIn K mainGlobals "_law_pool" = some (some (.ref f_law_pool)))
    (l_law_pool : K.lookup f_law_pool = some ⟨oc_law_pool, od_law_pool, .func (PySem.W.fnOf "_law_pool" "_law_pool" (defArgs s_law_pool) (defBody s_law_pool) (defScope s_law_pool) .none kV_law_pool dc_law_pool pm_law_pool an_law_pool cd_law_pool ct_law_pool), sl_law_pool⟩)
    (d_law_pool : PySem.W.codeIn K cd_law_pool "_law_pool" = true)
    (k_law_pool : PySem.W.keepIn K (.ref f_law_pool) = true)
    (a_need_width : PySem.W.nsIn K mainGlobals "need_width" = some (some (.ref f_need_width)))
    (l_need_width : K.lookup f_need_width = some ⟨oc_need_width, od_need_width, .func (PySem.W.fnOf "need_width" "need_width" (defArgs s_need_width) (defBody s_need_width) (defScope s_need_width) .none kV_need_width dc_need_width pm_need_width an_need_width cd_need_width ct_need_width), sl_need_width⟩)
    (d_need_width : PySem.W.codeIn K cd_need_width "need_width" = true)
    (k_need_width : PySem.W.keepIn K (.ref f_need_width) = true)
    (a_Wire___init : PySem.W.findIn K (.ref c_Wire) "__init__" = some (some (.ref f_Wire___init)))
    (i_Wire___init : PySem.W.isFn K (.ref f_Wire___init) = true)
    (l_Wire___init : K.lookup f_Wire___init = some ⟨oc_Wire___init, od_Wire___init, .func (PySem.W.fnOf "__init__" "Wire.__init__" (defArgs s_Wire_init) (defBody s_Wire_init) (defScope s_Wire_init) .none kV_Wire___init dc_Wire___init pm_Wire___init an_Wire___init cd_Wire___init ct_Wire___init), sl_Wire___init⟩)
    (d_Wire___init : PySem.W.codeIn K cd_Wire___init "Wire.__init__" = true)
    (k_Wire___init : PySem.W.keepIn K (.ref f_Wire___init) = true)
    (a_law_model : PySem.W.nsIn K mainGlobals "_law_model" = some (some (.ref f_law_model)))
    (l_law_model : K.lookup f_law_model = some ⟨oc_law_model, od_law_model, .func (PySem.W.fnOf "_law_model" "_law_model" (defArgs s_law_model) (defBody s_law_model) (defScope s_law_model) .none kV_law_model dc_law_model pm_law_model an_law_model cd_law_model ct_law_model), sl_law_model⟩)
    (d_law_model : PySem.W.codeIn K cd_law_model "_law_model" = true)
    (k_law_model : PySem.W.keepIn K (.ref f_law_model) = true)
    (a_are_bits : PySem.W.nsIn K mainGlobals "are_bits" = some (some (.ref f_are_bits)))
    (l_are_bits : K.lookup f_are_bits = some ⟨oc_are_bits, od_are_bits, .func (PySem.W.fnOf "are_bits" "are_bits" (defArgs s_are_bits) (defBody s_are_bits) (defScope s_are_bits) .none kV_are_bits dc_are_bits pm_are_bits an_are_bits cd_are_bits ct_are_bits), sl_are_bits⟩)
    (d_are_bits : PySem.W.codeIn K cd_are_bits "are_bits" = true)
    (k_are_bits : PySem.W.keepIn K (.ref f_are_bits) = true)
    (a_is_number : PySem.W.nsIn K mainGlobals "is_number" = some (some (.ref f_is_number)))
    (l_is_number : K.lookup f_is_number = some ⟨oc_is_number, od_is_number, .func (PySem.W.fnOf "is_number" "is_number" (defArgs s_is_number) (defBody s_is_number) (defScope s_is_number) .none kV_is_number dc_is_number pm_is_number an_is_number cd_is_number ct_is_number), sl_is_number⟩)
    (d_is_number : PySem.W.codeIn K cd_is_number "is_number" = true)
    (k_is_number : PySem.W.keepIn K (.ref f_is_number) = true)
    (a_need_number : PySem.W.nsIn K mainGlobals "need_number" = some (some (.ref f_need_number)))
    (l_need_number : K.lookup f_need_number = some ⟨oc_need_number, od_need_number, .func (PySem.W.fnOf "need_number" "need_number" (defArgs s_need_number) (defBody s_need_number) (defScope s_need_number) .none kV_need_number dc_need_number pm_need_number an_need_number cd_need_number ct_need_number), sl_need_number⟩)
    (d_need_number : PySem.W.codeIn K cd_need_number "need_number" = true)
    (k_need_number : PySem.W.keepIn K (.ref f_need_number) = true)
    (a_Wire_hang : PySem.W.findIn K (.ref c_Wire) "hang" = some (some (.ref f_Wire_hang)))
    (i_Wire_hang : PySem.W.isFn K (.ref f_Wire_hang) = true)
    (l_Wire_hang : K.lookup f_Wire_hang = some ⟨oc_Wire_hang, od_Wire_hang, .func (PySem.W.fnOf "hang" "Wire.hang" (defArgs s_Wire_hang) (defBody s_Wire_hang) (defScope s_Wire_hang) .none kV_Wire_hang dc_Wire_hang pm_Wire_hang an_Wire_hang cd_Wire_hang ct_Wire_hang), sl_Wire_hang⟩)
    (d_Wire_hang : PySem.W.codeIn K cd_Wire_hang "Wire.hang" = true)
    (k_Wire_hang : PySem.W.keepIn K (.ref f_Wire_hang) = true)
    (a_Wire_need_thing : PySem.W.findIn K (.ref c_Wire) "need_thing" = some (some (.ref f_Wire_need_thing)))
    (i_Wire_need_thing : PySem.W.isFn K (.ref f_Wire_need_thing) = true)
    (l_Wire_need_thing : K.lookup f_Wire_need_thing = some ⟨oc_Wire_need_thing, od_Wire_need_thing, .func (PySem.W.fnOf "need_thing" "Wire.need_thing" (defArgs s_Wire_need_thing) (defBody s_Wire_need_thing) (defScope s_Wire_need_thing) .none kV_Wire_need_thing dc_Wire_need_thing pm_Wire_need_thing an_Wire_need_thing cd_Wire_need_thing ct_Wire_need_thing), sl_Wire_need_thing⟩)
    (d_Wire_need_thing : PySem.W.codeIn K cd_Wire_need_thing "Wire.need_thing" = true)
    (k_Wire_need_thing : PySem.W.keepIn K (.ref f_Wire_need_thing) = true)
    (a_Wire_off : PySem.W.findIn K (.ref c_Wire) "off" = some (some (.ref f_Wire_off)))
    (i_Wire_off : PySem.W.isFn K (.ref f_Wire_off) = true)
    (l_Wire_off : K.lookup f_Wire_off = some ⟨oc_Wire_off, od_Wire_off, .func (PySem.W.fnOf "off" "Wire.off" (defArgs s_Wire_off) (defBody s_Wire_off) (defScope s_Wire_off) .none kV_Wire_off dc_Wire_off pm_Wire_off an_Wire_off cd_Wire_off ct_Wire_off), sl_Wire_off⟩)
    (d_Wire_off : PySem.W.codeIn K cd_Wire_off "Wire.off" = true)
    (k_Wire_off : PySem.W.keepIn K (.ref f_Wire_off) = true)
    (a_Wire_alarm : PySem.W.findIn K (.ref c_Wire) "alarm" = some (some (.ref f_Wire_alarm)))
    (i_Wire_alarm : PySem.W.isFn K (.ref f_Wire_alarm) = true)
    (l_Wire_alarm : K.lookup f_Wire_alarm = some ⟨oc_Wire_alarm, od_Wire_alarm, .func (PySem.W.fnOf "alarm" "Wire.alarm" (defArgs s_Wire_alarm) (defBody s_Wire_alarm) (defScope s_Wire_alarm) .none kV_Wire_alarm dc_Wire_alarm pm_Wire_alarm an_Wire_alarm cd_Wire_alarm ct_Wire_alarm), sl_Wire_alarm⟩)
    (d_Wire_alarm : PySem.W.codeIn K cd_Wire_alarm "Wire.alarm" = true)
    (k_Wire_alarm : PySem.W.keepIn K (.ref f_Wire_alarm) = true)
    (a_Wire_calm : PySem.W.findIn K (.ref c_Wire) "calm" = some (some (.ref f_Wire_calm)))
    (i_Wire_calm : PySem.W.isFn K (.ref f_Wire_calm) = true)
    (l_Wire_calm : K.lookup f_Wire_calm = some ⟨oc_Wire_calm, od_Wire_calm, .func (PySem.W.fnOf "calm" "Wire.calm" (defArgs s_Wire_calm) (defBody s_Wire_calm) (defScope s_Wire_calm) .none kV_Wire_calm dc_Wire_calm pm_Wire_calm an_Wire_calm cd_Wire_calm ct_Wire_calm), sl_Wire_calm⟩)
    (d_Wire_calm : PySem.W.codeIn K cd_Wire_calm "Wire.calm" = true)
    (k_Wire_calm : PySem.W.keepIn K (.ref f_Wire_calm) = true)
    (a_law_become : PySem.W.nsIn K mainGlobals "_law_become" = some (some (.ref f_law_become)))
    (l_law_become : K.lookup f_law_become = some ⟨oc_law_become, od_law_become, .func (PySem.W.fnOf "_law_become" "_law_become" (defArgs s_law_become) (defBody s_law_become) (defScope s_law_become) .none kV_law_become dc_law_become pm_law_become an_law_become cd_law_become ct_law_become), sl_law_become⟩)
    (d_law_become : PySem.W.codeIn K cd_law_become "_law_become" = true)
    (k_law_become : PySem.W.keepIn K (.ref f_law_become) = true)
    (a_law_deed : PySem.W.nsIn K mainGlobals "_law_deed" = some (some (.ref f_law_deed)))
    (l_law_deed : K.lookup f_law_deed = some ⟨oc_law_deed, od_law_deed, .func (PySem.W.fnOf "_law_deed" "_law_deed" (defArgs s_law_deed) (defBody s_law_deed) (defScope s_law_deed) .none kV_law_deed dc_law_deed pm_law_deed an_law_deed cd_law_deed ct_law_deed), sl_law_deed⟩)
    (d_law_deed : PySem.W.codeIn K cd_law_deed "_law_deed" = true)
    (k_law_deed : PySem.W.keepIn K (.ref f_law_deed) = true)
    (a_law_change : PySem.W.nsIn K mainGlobals "_law_change" = some (some (.ref f_law_change)))
    (l_law_change : K.lookup f_law_change = some ⟨oc_law_change, od_law_change, .func (PySem.W.fnOf "_law_change" "_law_change" (defArgs s_law_change) (defBody s_law_change) (defScope s_law_change) .none kV_law_change dc_law_change pm_law_change an_law_change (.ref cd_law_change) ct_law_change), sl_law_change⟩)
    (d_law_change : PySem.W.codeIn K (.ref cd_law_change) "_law_change" = true)
    (k_law_change : PySem.W.keepIn K (.ref f_law_change) = true)
    (t_law_change : PySem.W.codeHdIn K cd_law_change P_law_change = true)
    (u_law_change : K.lookup P_law_change = none)
    (v_law_change : P_law_change ∈ ts)
    (a_law_begun : PySem.W.nsIn K mainGlobals "_law_begun" = some (some (.ref f_law_begun)))
    (l_law_begun : K.lookup f_law_begun = some ⟨oc_law_begun, od_law_begun, .func (PySem.W.fnOf "_law_begun" "_law_begun" (defArgs s_law_begun) (defBody s_law_begun) (defScope s_law_begun) .none kV_law_begun dc_law_begun pm_law_begun an_law_begun cd_law_begun ct_law_begun), sl_law_begun⟩)
    (d_law_begun : PySem.W.codeIn K cd_law_begun "_law_begun" = true)
    (k_law_begun : PySem.W.keepIn K (.ref f_law_begun) = true)
    (a_law_said : PySem.W.nsIn K mainGlobals "_law_said" = some (some (.ref f_law_said)))
    (l_law_said : K.lookup f_law_said = some ⟨oc_law_said, od_law_said, .func (PySem.W.fnOf "_law_said" "_law_said" (defArgs s_law_said) (defBody s_law_said) (defScope s_law_said) .none kV_law_said dc_law_said pm_law_said an_law_said cd_law_said ct_law_said), sl_law_said⟩)
    (d_law_said : PySem.W.codeIn K cd_law_said "_law_said" = true)
    (k_law_said : PySem.W.keepIn K (.ref f_law_said) = true)
    (a_law_looked : PySem.W.nsIn K mainGlobals "_law_looked" = some (some (.ref f_law_looked)))
    (l_law_looked : K.lookup f_law_looked = some ⟨oc_law_looked, od_law_looked, .func (PySem.W.fnOf "_law_looked" "_law_looked" (defArgs s_law_looked) (defBody s_law_looked) (defScope s_law_looked) .none kV_law_looked dc_law_looked pm_law_looked an_law_looked cd_law_looked ct_law_looked), sl_law_looked⟩)
    (d_law_looked : PySem.W.codeIn K cd_law_looked "_law_looked" = true)
    (k_law_looked : PySem.W.keepIn K (.ref f_law_looked) = true)
    (a_law_alike : PySem.W.nsIn K mainGlobals "_law_alike" = some (some (.ref f_law_alike)))
    (l_law_alike : K.lookup f_law_alike = some ⟨oc_law_alike, od_law_alike, .func (PySem.W.fnOf "_law_alike" "_law_alike" (defArgs s_law_alike) (defBody s_law_alike) (defScope s_law_alike) .none kV_law_alike dc_law_alike pm_law_alike an_law_alike cd_law_alike ct_law_alike), sl_law_alike⟩)
    (d_law_alike : PySem.W.codeIn K cd_law_alike "_law_alike" = true)
    (k_law_alike : PySem.W.keepIn K (.ref f_law_alike) = true)
    (a_need_kind : PySem.W.nsIn K mainGlobals "need_kind" = some (some (.ref f_need_kind)))
    (l_need_kind : K.lookup f_need_kind = some ⟨oc_need_kind, od_need_kind, .func (PySem.W.fnOf "need_kind" "need_kind" (defArgs s_need_kind) (defBody s_need_kind) (defScope s_need_kind) .none kV_need_kind dc_need_kind pm_need_kind an_need_kind cd_need_kind ct_need_kind), sl_need_kind⟩)
    (d_need_kind : PySem.W.codeIn K cd_need_kind "need_kind" = true)
    (k_need_kind : PySem.W.keepIn K (.ref f_need_kind) = true)
    (a_Wire_begin : PySem.W.findIn K (.ref c_Wire) "begin" = some (some (.ref f_Wire_begin)))
    (i_Wire_begin : PySem.W.isFn K (.ref f_Wire_begin) = true)
    (l_Wire_begin : K.lookup f_Wire_begin = some ⟨oc_Wire_begin, od_Wire_begin, .func (PySem.W.fnOf "begin" "Wire.begin" (defArgs s_Wire_begin) (defBody s_Wire_begin) (defScope s_Wire_begin) .none kV_Wire_begin dc_Wire_begin pm_Wire_begin an_Wire_begin cd_Wire_begin ct_Wire_begin), sl_Wire_begin⟩)
    (d_Wire_begin : PySem.W.codeIn K cd_Wire_begin "Wire.begin" = true)
    (k_Wire_begin : PySem.W.keepIn K (.ref f_Wire_begin) = true)
    (a_Wire_need_round : PySem.W.findIn K (.ref c_Wire) "need_round" = some (some (.ref f_Wire_need_round)))
    (i_Wire_need_round : PySem.W.isFn K (.ref f_Wire_need_round) = true)
    (l_Wire_need_round : K.lookup f_Wire_need_round = some ⟨oc_Wire_need_round, od_Wire_need_round, .func (PySem.W.fnOf "need_round" "Wire.need_round" (defArgs s_Wire_need_round) (defBody s_Wire_need_round) (defScope s_Wire_need_round) .none kV_Wire_need_round dc_Wire_need_round pm_Wire_need_round an_Wire_need_round cd_Wire_need_round ct_Wire_need_round), sl_Wire_need_round⟩)
    (d_Wire_need_round : PySem.W.codeIn K cd_Wire_need_round "Wire.need_round" = true)
    (k_Wire_need_round : PySem.W.keepIn K (.ref f_Wire_need_round) = true)
    (a_look_at : PySem.W.nsIn K mainGlobals "look_at" = some (some (.ref f_look_at)))
    (l_look_at : K.lookup f_look_at = some ⟨oc_look_at, od_look_at, .func (PySem.W.fnOf "look_at" "look_at" (defArgs s_look_at) (defBody s_look_at) (defScope s_look_at) .none kV_look_at dc_look_at pm_look_at an_look_at cd_look_at ct_look_at), sl_look_at⟩)
    (d_look_at : PySem.W.codeIn K cd_look_at "look_at" = true)
    (k_look_at : PySem.W.keepIn K (.ref f_look_at) = true)
    (a_Wire_look : PySem.W.findIn K (.ref c_Wire) "look" = some (some (.ref f_Wire_look)))
    (i_Wire_look : PySem.W.isFn K (.ref f_Wire_look) = true)
    (l_Wire_look : K.lookup f_Wire_look = some ⟨oc_Wire_look, od_Wire_look, .func (PySem.W.fnOf "look" "Wire.look" (defArgs s_Wire_look) (defBody s_Wire_look) (defScope s_Wire_look) .none kV_Wire_look dc_Wire_look pm_Wire_look an_Wire_look cd_Wire_look ct_Wire_look), sl_Wire_look⟩)
    (d_Wire_look : PySem.W.codeIn K cd_Wire_look "Wire.look" = true)
    (k_Wire_look : PySem.W.keepIn K (.ref f_Wire_look) = true)
    (a_Wire_say : PySem.W.findIn K (.ref c_Wire) "say" = some (some (.ref f_Wire_say)))
    (i_Wire_say : PySem.W.isFn K (.ref f_Wire_say) = true)
    (l_Wire_say : K.lookup f_Wire_say = some ⟨oc_Wire_say, od_Wire_say, .func (PySem.W.fnOf "say" "Wire.say" (defArgs s_Wire_say) (defBody s_Wire_say) (defScope s_Wire_say) .none kV_Wire_say dc_Wire_say pm_Wire_say an_Wire_say cd_Wire_say ct_Wire_say), sl_Wire_say⟩)
    (d_Wire_say : PySem.W.codeIn K cd_Wire_say "Wire.say" = true)
    (k_Wire_say : PySem.W.keepIn K (.ref f_Wire_say) = true)
    (a_law_use : PySem.W.nsIn K mainGlobals "_law_use" = some (some (.ref f_law_use)))
    (l_law_use : K.lookup f_law_use = some ⟨oc_law_use, od_law_use, .func (PySem.W.fnOf "_law_use" "_law_use" (defArgs s_law_use) (defBody s_law_use) (defScope s_law_use) .none kV_law_use dc_law_use pm_law_use an_law_use (.ref cd_law_use) ct_law_use), sl_law_use⟩)
    (d_law_use : PySem.W.codeIn K (.ref cd_law_use) "_law_use" = true)
    (k_law_use : PySem.W.keepIn K (.ref f_law_use) = true)
    (t_law_use : PySem.W.codeHdIn K cd_law_use P_law_use = true)
    (u_law_use : K.lookup P_law_use = none)
    (v_law_use : P_law_use ∈ ts)
    (a_Wire_hung : PySem.W.findIn K (.ref c_Wire) "hung" = some (some (.ref f_Wire_hung)))
    (i_Wire_hung : PySem.W.isFn K (.ref f_Wire_hung) = true)
    (l_Wire_hung : K.lookup f_Wire_hung = some ⟨oc_Wire_hung, od_Wire_hung, .func (PySem.W.fnOf "hung" "Wire.hung" (defArgs s_Wire_hung) (defBody s_Wire_hung) (defScope s_Wire_hung) .none kV_Wire_hung dc_Wire_hung pm_Wire_hung an_Wire_hung cd_Wire_hung ct_Wire_hung), sl_Wire_hung⟩)
    (d_Wire_hung : PySem.W.codeIn K cd_Wire_hung "Wire.hung" = true)
    (k_Wire_hung : PySem.W.keepIn K (.ref f_Wire_hung) = true)
    (a_Wire_alarms : PySem.W.findIn K (.ref c_Wire) "alarms" = some (some (.ref f_Wire_alarms)))
    (i_Wire_alarms : PySem.W.isFn K (.ref f_Wire_alarms) = true)
    (l_Wire_alarms : K.lookup f_Wire_alarms = some ⟨oc_Wire_alarms, od_Wire_alarms, .func (PySem.W.fnOf "alarms" "Wire.alarms" (defArgs s_Wire_alarms) (defBody s_Wire_alarms) (defScope s_Wire_alarms) .none kV_Wire_alarms dc_Wire_alarms pm_Wire_alarms an_Wire_alarms cd_Wire_alarms ct_Wire_alarms), sl_Wire_alarms⟩)
    (d_Wire_alarms : PySem.W.codeIn K cd_Wire_alarms "Wire.alarms" = true)
    (k_Wire_alarms : PySem.W.keepIn K (.ref f_Wire_alarms) = true)
    (a_Wire_looks : PySem.W.findIn K (.ref c_Wire) "looks" = some (some (.ref f_Wire_looks)))
    (i_Wire_looks : PySem.W.isFn K (.ref f_Wire_looks) = true)
    (l_Wire_looks : K.lookup f_Wire_looks = some ⟨oc_Wire_looks, od_Wire_looks, .func (PySem.W.fnOf "looks" "Wire.looks" (defArgs s_Wire_looks) (defBody s_Wire_looks) (defScope s_Wire_looks) .none kV_Wire_looks dc_Wire_looks pm_Wire_looks an_Wire_looks cd_Wire_looks ct_Wire_looks), sl_Wire_looks⟩)
    (d_Wire_looks : PySem.W.codeIn K cd_Wire_looks "Wire.looks" = true)
    (k_Wire_looks : PySem.W.keepIn K (.ref f_Wire_looks) = true)
    (a_law : PySem.W.nsIn K mainGlobals "law" = some (some (.ref f_law)))
    (l_law : K.lookup f_law = some ⟨oc_law, od_law, .func (PySem.W.fnOf "law" "law" (defArgs s_law) (defBody s_law) (defScope s_law) .none kV_law dc_law pm_law an_law cd_law ct_law), sl_law⟩)
    (d_law : PySem.W.codeIn K cd_law "law" = true)
    (k_law : PySem.W.keepIn K (.ref f_law) = true)
    (a_law_word : PySem.W.nsIn K mainGlobals "_law_word" = some (some (.ref f_law_word)))
    (l_law_word : K.lookup f_law_word = some ⟨oc_law_word, od_law_word, .func (PySem.W.fnOf "_law_word" "_law_word" (defArgs s_law_word) (defBody s_law_word) (defScope s_law_word) .none kV_law_word dc_law_word pm_law_word an_law_word cd_law_word ct_law_word), sl_law_word⟩)
    (d_law_word : PySem.W.codeIn K cd_law_word "_law_word" = true)
    (k_law_word : PySem.W.keepIn K (.ref f_law_word) = true)
    (hPP : P_law_change ≠ P_law_use)
    (pg_Wire : PySem.W.plainGet K c_Wire Str.empty = true)
    (hd_Wire : PySem.W.hasDictIn K c_Wire = true)
    (po_Wire : PySem.W.plainOver K c_Wire = true)
    (sa_Wire : PySem.W.findIn K (.ref c_Wire) "__setattr__" = some (some (.builtin "object.__setattr__")))
    (mk_Wire : PySem.W.makesIn K c_Wire = true)
    (kc_Wire : PySem.W.keepIn K (.ref c_Wire) = true)
    (na_Wire_width : PySem.W.findIn K (.ref c_Wire) "width" = some none)
    (na_Wire_things : PySem.W.findIn K (.ref c_Wire) "things" = some none)
    (na_Wire_listening : PySem.W.findIn K (.ref c_Wire) "listening" = some none)
    (na_Wire_told : PySem.W.findIn K (.ref c_Wire) "told" = some none)
    (na_Wire_many : PySem.W.findIn K (.ref c_Wire) "many" = some none)
    (n_BusError : PySem.W.nsIn K mainGlobals "BusError" = some (some (.ref e_BusError)))
    (n_BadWidth : PySem.W.nsIn K mainGlobals "BadWidth" = some (some (.ref e_BadWidth)))
    (n_BadNumber : PySem.W.nsIn K mainGlobals "BadNumber" = some (some (.ref e_BadNumber)))
    (n_BadKind : PySem.W.nsIn K mainGlobals "BadKind" = some (some (.ref e_BadKind)))
    (n_BadBit : PySem.W.nsIn K mainGlobals "BadBit" = some (some (.ref e_BadBit)))
    (n_There : PySem.W.nsIn K mainGlobals "There" = some (some (.ref e_There)))
    (n_NotThere : PySem.W.nsIn K mainGlobals "NotThere" = some (some (.ref e_NotThere)))
    (n_NoRound : PySem.W.nsIn K mainGlobals "NoRound" = some (some (.ref e_NoRound)))
    (n_Over : PySem.W.nsIn K mainGlobals "Over" = some (some (.ref e_Over)))
    (n_Busy : PySem.W.nsIn K mainGlobals "Busy" = some (some (.ref e_Busy)))
    (n_BadLooks : PySem.W.nsIn K mainGlobals "BadLooks" = some (some (.ref e_BadLooks)))
    (n_BadRoster : PySem.W.nsIn K mainGlobals "BadRoster" = some (some (.ref e_BadRoster)))
    (n_TooMany : PySem.W.nsIn K mainGlobals "TooMany" = some (some (.ref e_TooMany)))
    (n_BadPlan : PySem.W.nsIn K mainGlobals "BadPlan" = some (some (.ref e_BadPlan)))
    (n_BadStep : PySem.W.nsIn K mainGlobals "BadStep" = some (some (.ref e_BadStep)))
    (n_BadText : PySem.W.nsIn K mainGlobals "BadText" = some (some (.ref e_BadText)))
    (q_BadBit : PySem.W.excIn K e_BadBit [.type "ValueError", .type "Exception", .type "BaseException", .type "object"] "ValueError.__new__" = true)
    (kx_BadBit : PySem.W.keepIn K (.ref e_BadBit) = true)
    (bx_BadBit : PySem.W.subIn K (.ref e_BadBit) (.type "BaseException") = some true)
    (tx_BadBit : PySem.W.typeIn K (.ref e_BadBit) = some (.type "type"))
    (q_BadKind : PySem.W.excIn K e_BadKind [.type "ValueError", .type "Exception", .type "BaseException", .type "object"] "ValueError.__new__" = true)
    (kx_BadKind : PySem.W.keepIn K (.ref e_BadKind) = true)
    (bx_BadKind : PySem.W.subIn K (.ref e_BadKind) (.type "BaseException") = some true)
    (tx_BadKind : PySem.W.typeIn K (.ref e_BadKind) = some (.type "type"))
    (q_BadNumber : PySem.W.excIn K e_BadNumber [.type "ValueError", .type "Exception", .type "BaseException", .type "object"] "ValueError.__new__" = true)
    (kx_BadNumber : PySem.W.keepIn K (.ref e_BadNumber) = true)
    (bx_BadNumber : PySem.W.subIn K (.ref e_BadNumber) (.type "BaseException") = some true)
    (tx_BadNumber : PySem.W.typeIn K (.ref e_BadNumber) = some (.type "type"))
    (q_BadWidth : PySem.W.excIn K e_BadWidth [.type "ValueError", .type "Exception", .type "BaseException", .type "object"] "ValueError.__new__" = true)
    (kx_BadWidth : PySem.W.keepIn K (.ref e_BadWidth) = true)
    (bx_BadWidth : PySem.W.subIn K (.ref e_BadWidth) (.type "BaseException") = some true)
    (tx_BadWidth : PySem.W.typeIn K (.ref e_BadWidth) = some (.type "type"))
    (q_NoRound : PySem.W.excIn K e_NoRound [.type "ValueError", .type "Exception", .type "BaseException", .type "object"] "ValueError.__new__" = true)
    (kx_NoRound : PySem.W.keepIn K (.ref e_NoRound) = true)
    (bx_NoRound : PySem.W.subIn K (.ref e_NoRound) (.type "BaseException") = some true)
    (tx_NoRound : PySem.W.typeIn K (.ref e_NoRound) = some (.type "type"))
    (q_NotThere : PySem.W.excIn K e_NotThere [.type "ValueError", .type "Exception", .type "BaseException", .type "object"] "ValueError.__new__" = true)
    (kx_NotThere : PySem.W.keepIn K (.ref e_NotThere) = true)
    (bx_NotThere : PySem.W.subIn K (.ref e_NotThere) (.type "BaseException") = some true)
    (tx_NotThere : PySem.W.typeIn K (.ref e_NotThere) = some (.type "type"))
    (q_There : PySem.W.excIn K e_There [.type "ValueError", .type "Exception", .type "BaseException", .type "object"] "ValueError.__new__" = true)
    (kx_There : PySem.W.keepIn K (.ref e_There) = true)
    (bx_There : PySem.W.subIn K (.ref e_There) (.type "BaseException") = some true)
    (tx_There : PySem.W.typeIn K (.ref e_There) = some (.type "type"))
    (kk : ([e_BadWidth, e_BadNumber, e_BadKind, e_BadBit, e_There, e_NotThere, e_NoRound, e_Over, e_Busy, e_BadLooks, e_BadRoster, e_TooMany, e_BadPlan, e_BadStep, e_BadText].map fun c => [e_BadWidth, e_BadNumber, e_BadKind, e_BadBit, e_There, e_NotThere, e_NoRound, e_Over, e_Busy, e_BadLooks, e_BadRoster, e_TooMany, e_BadPlan, e_BadStep, e_BadText].map fun d => PySem.W.kitOne K (.ref c) (.ref d)) = (List.range 15).map fun i => (List.range 15).map fun j => some (decide (i = j)))
    (kv : ([e_BadWidth, e_BadNumber, e_BadKind, e_BadBit, e_There, e_NotThere, e_NoRound, e_Over, e_Busy, e_BadLooks, e_BadRoster, e_TooMany, e_BadPlan, e_BadStep, e_BadText].map fun c => PySem.W.kitOne K (.ref c) (.type "ValueError")) = List.replicate 15 (some true))
    (kg : ([e_BadWidth, e_BadNumber, e_BadKind, e_BadBit, e_There, e_NotThere, e_NoRound, e_Over, e_Busy, e_BadLooks, e_BadRoster, e_TooMany, e_BadPlan, e_BadStep, e_BadText].map fun c => PySem.W.findIn K (.ref c) "__getattribute__") = List.replicate 15 (some (some (.builtin "BaseException.__getattribute__"))))
    (ka : ([e_BadWidth, e_BadNumber, e_BadKind, e_BadBit, e_There, e_NotThere, e_NoRound, e_Over, e_Busy, e_BadLooks, e_BadRoster, e_TooMany, e_BadPlan, e_BadStep, e_BadText].map fun c => PySem.W.findIn K (.ref c) "__getattr__") = List.replicate 15 (some none))
    (ks : ([e_BadWidth, e_BadNumber, e_BadKind, e_BadBit, e_There, e_NotThere, e_NoRound, e_Over, e_Busy, e_BadLooks, e_BadRoster, e_TooMany, e_BadPlan, e_BadStep, e_BadText].map fun c => PySem.W.subIn K (.ref c) (.type "BaseException")) = List.replicate 15 (some true))
    (kh : ([e_BadWidth, e_BadNumber, e_BadKind, e_BadBit, e_There, e_NotThere, e_NoRound, e_Over, e_Busy, e_BadLooks, e_BadRoster, e_TooMany, e_BadPlan, e_BadStep, e_BadText].map fun c => PySem.W.hasDictIn K c) = List.replicate 15 (true))
    (kl : ([e_BadWidth, e_BadNumber, e_BadKind, e_BadBit, e_There, e_NotThere, e_NoRound, e_Over, e_Busy, e_BadLooks, e_BadRoster, e_TooMany, e_BadPlan, e_BadStep, e_BadText].map fun c => PySem.W.findIn K (.ref c) "__class__") = List.replicate 15 (some (some (.builtin "object.__class__"))))
    (km : ([e_BadWidth, e_BadNumber, e_BadKind, e_BadBit, e_There, e_NotThere, e_NoRound, e_Over, e_Busy, e_BadLooks, e_BadRoster, e_TooMany, e_BadPlan, e_BadStep, e_BadText].map fun c => PySem.W.mroIn K c (.type "object")) = List.replicate 15 (some true))
    (kb : ([e_BadWidth, e_BadNumber, e_BadKind, e_BadBit, e_There, e_NotThere, e_NoRound, e_Over, e_Busy, e_BadLooks, e_BadRoster, e_TooMany, e_BadPlan, e_BadStep, e_BadText].map fun c => PySem.W.exmOne K (.ref c) (.ref e_BusError)) = List.replicate 15 (some true))
    (kn : PySem.W.specialIn K (.builtin "object.__class__") "__get__" = some (some (.builtin "getset_descriptor.__get__")))
    (kt : PySem.W.takesIn K (.builtin "object.__class__") = some true)
    (n_KINDS : PySem.W.nsIn K mainGlobals "KINDS" = some (some (.ref a_KINDS)))
    (l_KINDS : K.lookup a_KINDS = some ⟨.type "tuple", od_KINDS, .seq #[.str "all" j1_KINDS, .str "alarm" j2_KINDS] nn_KINDS, sl_KINDS⟩)
    (n_MOST_WIDTH : PySem.W.nsIn K mainGlobals "MOST_WIDTH" = some (some (.int 12 j_MOST_WIDTH)))
    (z_len : PySem.W.nsIn K mainGlobals "len" = some none)
    (z_range : PySem.W.nsIn K mainGlobals "range" = some none)
    (z_int : PySem.W.nsIn K mainGlobals "int" = some none)
    (z_bool : PySem.W.nsIn K mainGlobals "bool" = some none)
    (z_str : PySem.W.nsIn K mainGlobals "str" = some none)
    (z_tuple : PySem.W.nsIn K mainGlobals "tuple" = some none)
    (z_list : PySem.W.nsIn K mainGlobals "list" = some none)
    (z_set : PySem.W.nsIn K mainGlobals "set" = some none)
    (z_sorted : PySem.W.nsIn K mainGlobals "sorted" = some none)
    (z_max : PySem.W.nsIn K mainGlobals "max" = some none)
    (z_min : PySem.W.nsIn K mainGlobals "min" = some none)
    (z_isinstance : PySem.W.nsIn K mainGlobals "isinstance" = some none)
    (z_enumerate : PySem.W.nsIn K mainGlobals "enumerate" = some none)
    (z_ValueError : PySem.W.nsIn K mainGlobals "ValueError" = some none) :
    LamX.LawAtS l w K (L2.CX l.prog w) 12 63 "_law_script" mg fa h := by
  have e := hfa.symm.trans (PySem.W.mg_of X G a_law)
  cases e
  have T : TxB mg := ⟨mg_none X G z_len, mg_none X G z_range, mg_none X G z_int, mg_none X G z_bool, mg_none X G z_str, mg_none X G z_tuple, mg_none X G z_list, mg_none X G z_set, mg_none X G z_sorted, mg_none X G z_max, mg_none X G z_min, mg_none X G z_isinstance, mg_none X G z_enumerate, mg_none X G z_ValueError⟩
  have TW : ClW K c_Wire := ⟨⟨pg_Wire, hd_Wire, po_Wire, sa_Wire⟩, na_Wire_width, na_Wire_things, na_Wire_listening, na_Wire_told, na_Wire_many⟩
  have X_BadBit : Lw.ExcC K mg "BadBit" e_BadBit := ⟨q_BadBit, PySem.W.mg_of X G n_BadBit, kx_BadBit, bx_BadBit, tx_BadBit⟩
  have X_BadKind : Lw.ExcC K mg "BadKind" e_BadKind := ⟨q_BadKind, PySem.W.mg_of X G n_BadKind, kx_BadKind, bx_BadKind, tx_BadKind⟩
  have X_BadNumber : Lw.ExcC K mg "BadNumber" e_BadNumber := ⟨q_BadNumber, PySem.W.mg_of X G n_BadNumber, kx_BadNumber, bx_BadNumber, tx_BadNumber⟩
  have X_BadWidth : Lw.ExcC K mg "BadWidth" e_BadWidth := ⟨q_BadWidth, PySem.W.mg_of X G n_BadWidth, kx_BadWidth, bx_BadWidth, tx_BadWidth⟩
  have X_NoRound : Lw.ExcC K mg "NoRound" e_NoRound := ⟨q_NoRound, PySem.W.mg_of X G n_NoRound, kx_NoRound, bx_NoRound, tx_NoRound⟩
  have X_NotThere : Lw.ExcC K mg "NotThere" e_NotThere := ⟨q_NotThere, PySem.W.mg_of X G n_NotThere, kx_NotThere, bx_NotThere, tx_NotThere⟩
  have X_There : Lw.ExcC K mg "There" e_There := ⟨q_There, PySem.W.mg_of X G n_There, kx_There, bx_There, tx_There⟩
  let g : Kinds K mg := ⟨e_BusError, e_BadWidth, e_BadNumber, e_BadKind, e_BadBit, e_There, e_NotThere, e_NoRound, e_Over, e_Busy, e_BadLooks, e_BadRoster, e_TooMany, e_BadPlan, e_BadStep, e_BadText, PySem.W.mg_of X G n_BusError, PySem.W.mg_of X G n_BadWidth, PySem.W.mg_of X G n_BadNumber, PySem.W.mg_of X G n_BadKind, PySem.W.mg_of X G n_BadBit, PySem.W.mg_of X G n_There, PySem.W.mg_of X G n_NotThere, PySem.W.mg_of X G n_NoRound, PySem.W.mg_of X G n_Over, PySem.W.mg_of X G n_Busy, PySem.W.mg_of X G n_BadLooks, PySem.W.mg_of X G n_BadRoster, PySem.W.mg_of X G n_TooMany, PySem.W.mg_of X G n_BadPlan, PySem.W.mg_of X G n_BadStep, PySem.W.mg_of X G n_BadText, kinds_kk kk, kinds_kv kv kg ka ks kh kl km kb kn kt⟩
  have k_KINDS := PySem.W.mg_of X G n_KINDS
  have t_KINDS : ∀ H, SqT K H a_KINDS [.str "all", .str "alarm"] := fun H => .inr ⟨_, _, _, l_KINDS, rfl, rfl, show (2 : Nat) ≤ sizeLine by decide, .cons ⟨_, rfl⟩ (.cons ⟨_, rfl⟩ .nil)⟩
  have k_MOST_WIDTH := PySem.W.mg_of X G n_MOST_WIDTH
  have F_law_taken := fun_mk (st := s_law_taken) l_law_taken d_law_taken k_law_taken
  have b_law_taken := F_law_taken.binds (ps := ["_law_row", "_law_many"]) fun _ _ _ _ _ _ us hl => match us, hl with | [_, _], _ => rfl
  have m_law_taken := PySem.W.mg_of X G a_law_taken
  have F_law_width := fun_mk (st := s_law_width) l_law_width d_law_width k_law_width
  have b_law_width := F_law_width.binds (ps := ["_law_row"]) fun _ _ _ _ _ _ us hl => match us, hl with | [_], _ => rfl
  have m_law_width := PySem.W.mg_of X G a_law_width
  have F_law_number := fun_mk (st := s_law_number) l_law_number d_law_number k_law_number
  have b_law_number := F_law_number.binds (ps := ["_law_row", "_law_width_here"]) fun _ _ _ _ _ _ us hl => match us, hl with | [_, _], _ => rfl
  have m_law_number := PySem.W.mg_of X G a_law_number
  have F_law_near := fun_mk (st := s_law_near) l_law_near d_law_near k_law_near
  have b_law_near := F_law_near.binds (ps := ["_law_row", "_law_width_here", "_law_some"]) fun _ _ _ _ _ _ us hl => match us, hl with | [_, _, _], _ => rfl
  have m_law_near := PySem.W.mg_of X G a_law_near
  have F_law_things := fun_mk (st := s_law_things) l_law_things d_law_things k_law_things
  have b_law_things := F_law_things.binds (ps := ["_law_row", "_law_width_here", "_law_most"]) fun _ _ _ _ _ _ us hl => match us, hl with | [_, _, _], _ => rfl
  have m_law_things := PySem.W.mg_of X G a_law_things
  have F_law_pool := fun_mk (st := s_law_pool) l_law_pool d_law_pool k_law_pool
  have b_law_pool := F_law_pool.binds (ps := ["_law_row", "_law_width_here"]) fun _ _ _ _ _ _ us hl => match us, hl with | [_, _], _ => rfl
  have m_law_pool := PySem.W.mg_of X G a_law_pool
  have F_need_width := fun_mk (st := s_need_width) l_need_width d_need_width k_need_width
  have b_need_width := F_need_width.binds (ps := ["width"]) fun _ _ _ _ _ _ us hl => match us, hl with | [_], _ => rfl
  have m_need_width := PySem.W.mg_of X G a_need_width
  have F_Wire___init := fun_mk (st := s_Wire_init) l_Wire___init d_Wire___init k_Wire___init
  have b_Wire___init := F_Wire___init.binds (ps := ["self", "width"]) fun _ _ _ _ _ _ us hl => match us, hl with | [_, _], _ => rfl
  have F_law_model := fun_mk (st := s_law_model) l_law_model d_law_model k_law_model
  have b_law_model := F_law_model.binds (ps := ["_law_width_here"]) fun _ _ _ _ _ _ us hl => match us, hl with | [_], _ => rfl
  have m_law_model := PySem.W.mg_of X G a_law_model
  have F_are_bits := fun_mk (st := s_are_bits) l_are_bits d_are_bits k_are_bits
  have b_are_bits := F_are_bits.binds (ps := ["part"]) fun _ _ _ _ _ _ us hl => match us, hl with | [_], _ => rfl
  have m_are_bits := PySem.W.mg_of X G a_are_bits
  have F_is_number := fun_mk (st := s_is_number) l_is_number d_is_number k_is_number
  have b_is_number := F_is_number.binds (ps := ["width", "part"]) fun _ _ _ _ _ _ us hl => match us, hl with | [_, _], _ => rfl
  have m_is_number := PySem.W.mg_of X G a_is_number
  have F_need_number := fun_mk (st := s_need_number) l_need_number d_need_number k_need_number
  have b_need_number := F_need_number.binds (ps := ["width", "part"]) fun _ _ _ _ _ _ us hl => match us, hl with | [_, _], _ => rfl
  have m_need_number := PySem.W.mg_of X G a_need_number
  have F_Wire_hang := fun_mk (st := s_Wire_hang) l_Wire_hang d_Wire_hang k_Wire_hang
  have b_Wire_hang := F_Wire_hang.binds (ps := ["self", "number"]) fun _ _ _ _ _ _ us hl => match us, hl with | [_, _], _ => rfl
  have F_Wire_need_thing := fun_mk (st := s_Wire_need_thing) l_Wire_need_thing d_Wire_need_thing k_Wire_need_thing
  have b_Wire_need_thing := F_Wire_need_thing.binds (ps := ["self", "number"]) fun _ _ _ _ _ _ us hl => match us, hl with | [_, _], _ => rfl
  have F_Wire_off := fun_mk (st := s_Wire_off) l_Wire_off d_Wire_off k_Wire_off
  have b_Wire_off := F_Wire_off.binds (ps := ["self", "number"]) fun _ _ _ _ _ _ us hl => match us, hl with | [_, _], _ => rfl
  have F_Wire_alarm := fun_mk (st := s_Wire_alarm) l_Wire_alarm d_Wire_alarm k_Wire_alarm
  have b_Wire_alarm := F_Wire_alarm.binds (ps := ["self", "number"]) fun _ _ _ _ _ _ us hl => match us, hl with | [_, _], _ => rfl
  have F_Wire_calm := fun_mk (st := s_Wire_calm) l_Wire_calm d_Wire_calm k_Wire_calm
  have b_Wire_calm := F_Wire_calm.binds (ps := ["self", "number"]) fun _ _ _ _ _ _ us hl => match us, hl with | [_, _], _ => rfl
  have F_law_become := fun_mk (st := s_law_become) l_law_become d_law_become k_law_become
  have b_law_become := F_law_become.binds (ps := ["_law_wire", "_law_word_here", "_law_number_here"]) fun _ _ _ _ _ _ us hl => match us, hl with | [_, _, _], _ => rfl
  have m_law_become := PySem.W.mg_of X G a_law_become
  have F_law_deed := fun_mk (st := s_law_deed) l_law_deed d_law_deed k_law_deed
  have b_law_deed := F_law_deed.binds (ps := ["_law_m", "_law_word_here", "_law_number_here"]) fun _ _ _ _ _ _ us hl => match us, hl with | [_, _, _], _ => rfl
  have m_law_deed := PySem.W.mg_of X G a_law_deed
  have F_law_change : FunC K "_law_change" "_law_change" s_law_change _ _ cd_law_change := ⟨⟨oc_law_change, od_law_change, kV_law_change, dc_law_change, pm_law_change, an_law_change, ct_law_change, sl_law_change, rfl, l_law_change, d_law_change⟩, k_law_change⟩
  have b_law_change : Binds K _ ["_law_row", "_law_wire", "_law_m", "_law_names"] [] := F_law_change.binds fun _ _ _ _ _ us hl => match us, hl with | [_, _, _, _], _ => rfl
  have m_law_change := PySem.W.mg_of X G a_law_change
  have F_law_begun := fun_mk (st := s_law_begun) l_law_begun d_law_begun k_law_begun
  have b_law_begun := F_law_begun.binds (ps := ["_law_m", "_law_kind"]) fun _ _ _ _ _ _ us hl => match us, hl with | [_, _], _ => rfl
  have m_law_begun := PySem.W.mg_of X G a_law_begun
  have F_law_said := fun_mk (st := s_law_said) l_law_said d_law_said k_law_said
  have b_law_said := F_law_said.binds (ps := ["_law_m", "_law_bit"]) fun _ _ _ _ _ _ us hl => match us, hl with | [_, _], _ => rfl
  have m_law_said := PySem.W.mg_of X G a_law_said
  have F_law_looked := fun_mk (st := s_law_looked) l_law_looked d_law_looked k_law_looked
  have b_law_looked := F_law_looked.binds (ps := ["_law_numbers", "_law_beginning"]) fun _ _ _ _ _ _ us hl => match us, hl with | [_, _], _ => rfl
  have m_law_looked := PySem.W.mg_of X G a_law_looked
  have F_law_alike := fun_mk (st := s_law_alike) l_law_alike d_law_alike k_law_alike
  have b_law_alike := F_law_alike.binds (ps := ["_law_found", "_law_due"]) fun _ _ _ _ _ _ us hl => match us, hl with | [_, _], _ => rfl
  have m_law_alike := PySem.W.mg_of X G a_law_alike
  have F_need_kind := fun_mk (st := s_need_kind) l_need_kind d_need_kind k_need_kind
  have b_need_kind := F_need_kind.binds (ps := ["kind"]) fun _ _ _ _ _ _ us hl => match us, hl with | [_], _ => rfl
  have m_need_kind := PySem.W.mg_of X G a_need_kind
  have F_Wire_begin := fun_mk (st := s_Wire_begin) l_Wire_begin d_Wire_begin k_Wire_begin
  have b_Wire_begin := F_Wire_begin.binds (ps := ["self", "kind"]) fun _ _ _ _ _ _ us hl => match us, hl with | [_, _], _ => rfl
  have F_Wire_need_round := fun_mk (st := s_Wire_need_round) l_Wire_need_round d_Wire_need_round k_Wire_need_round
  have b_Wire_need_round := F_Wire_need_round.binds (ps := ["self"]) fun _ _ _ _ _ _ us hl => match us, hl with | [_], _ => rfl
  have F_look_at := fun_mk (st := s_look_at) l_look_at d_look_at k_look_at
  have b_look_at := F_look_at.binds (ps := ["numbers", "beginning"]) fun _ _ _ _ _ _ us hl => match us, hl with | [_, _], _ => rfl
  have m_look_at := PySem.W.mg_of X G a_look_at
  have F_Wire_look := fun_mk (st := s_Wire_look) l_Wire_look d_Wire_look k_Wire_look
  have b_Wire_look := F_Wire_look.binds (ps := ["self"]) fun _ _ _ _ _ _ us hl => match us, hl with | [_], _ => rfl
  have F_Wire_say := fun_mk (st := s_Wire_say) l_Wire_say d_Wire_say k_Wire_say
  have b_Wire_say := F_Wire_say.binds (ps := ["self", "bit"]) fun _ _ _ _ _ _ us hl => match us, hl with | [_, _], _ => rfl
  have F_law_use : FunC K "_law_use" "_law_use" s_law_use _ _ cd_law_use := ⟨⟨oc_law_use, od_law_use, kV_law_use, dc_law_use, pm_law_use, an_law_use, ct_law_use, sl_law_use, rfl, l_law_use, d_law_use⟩, k_law_use⟩
  have b_law_use : Binds K _ ["_law_row", "_law_wire", "_law_m"] [] := F_law_use.binds fun _ _ _ _ _ us hl => match us, hl with | [_, _, _], _ => rfl
  have m_law_use := PySem.W.mg_of X G a_law_use
  have F_Wire_hung := fun_mk (st := s_Wire_hung) l_Wire_hung d_Wire_hung k_Wire_hung
  have b_Wire_hung := F_Wire_hung.binds (ps := ["self"]) fun _ _ _ _ _ _ us hl => match us, hl with | [_], _ => rfl
  have F_Wire_alarms := fun_mk (st := s_Wire_alarms) l_Wire_alarms d_Wire_alarms k_Wire_alarms
  have b_Wire_alarms := F_Wire_alarms.binds (ps := ["self"]) fun _ _ _ _ _ _ us hl => match us, hl with | [_], _ => rfl
  have F_Wire_looks := fun_mk (st := s_Wire_looks) l_Wire_looks d_Wire_looks k_Wire_looks
  have b_Wire_looks := F_Wire_looks.binds (ps := ["self"]) fun _ _ _ _ _ _ us hl => match us, hl with | [_], _ => rfl
  have F_law := fun_mk (st := s_law) l_law d_law k_law
  have b_law := F_law.binds (ps := ["_law_script"]) fun _ _ _ _ _ _ us hl => match us, hl with | [_], _ => rfl
  have F_law_word := fun_mk (st := s_law_word) l_law_word d_law_word k_law_word
  have b_law_word := F_law_word.binds (ps := ["_law_work"]) fun _ _ _ _ _ _ us hl => match us, hl with | [_], _ => rfl
  have m_law_word := PySem.W.mg_of X G a_law_word
  refine ⟨PySem.W.fnOf "law" "law" (defArgs s_law) (defBody s_law) (defScope s_law) .none kV_law dc_law pm_law an_law cd_law ct_law, [(cd_law_change, P_law_change), (cd_law_use, P_law_use)], sp_law02 K [(P_law_change, ("_law_change.<locals>.<lambda>" : Str)), (P_law_use, ("_law_use.<locals>.<lambda>" : Str))], ?_, ?_, ?_, fun s v => .of_eq rfl, ?_, ?_⟩
  · intro p hp
    simp only [List.mem_cons, List.not_mem_nil, or_false] at hp
    rcases hp with rfl | rfl
    all_goals exact hts _ (by assumption)
  · intro p hp
    simp only [List.mem_cons, List.not_mem_nil, or_false] at hp
    rcases hp with rfl | rfl
    all_goals assumption
  · intro p hp
    simp only [List.mem_cons, List.not_mem_nil, or_false] at hp
    rcases hp with rfl | rfl
    all_goals exact PySem.W.codeHd_of_K X (by assumption)
  · intro H a ns _ _ hT hS
    refine ⟨a, ns, rfl, hS, fun p hp => ?_, fun _ => rfl⟩
    simp only [List.mem_cons, List.not_mem_nil, or_false] at hp
    rcases hp with rfl | rfl
    · exact LamX.TabS.nil (hT (cd_law_change, P_law_change) (by simp))
    · exact LamX.TabS.nil (hT (cd_law_use, P_law_use) (by simp))
  intro base hKb hNs TBs
  have C_law_taken : Cal l.prog w K mg base 1 "_law_taken" ["_law_row", "_law_many"] _ := ⟨f_law_taken, _, ok_taken (P := l.prog) (w := w) (base := base) (F := F_law_taken) (T := T), m_law_taken, k_law_taken, b_law_taken⟩
  have C_law_width : Cal l.prog w K mg base 2 "_law_width" ["_law_row"] _ := ⟨f_law_width, _, ok_width (P := l.prog) (w := w) (base := base) (F := F_law_width) (T := T) (C_law_taken := C_law_taken), m_law_width, k_law_width, b_law_width⟩
  have C_law_number : Cal l.prog w K mg base 2 "_law_number" ["_law_row", "_law_width_here"] _ := ⟨f_law_number, _, ok_number (P := l.prog) (w := w) (base := base) (F := F_law_number) (T := T) (C_law_taken := C_law_taken), m_law_number, k_law_number, b_law_number⟩
  have C_law_near : Cal l.prog w K mg base 3 "_law_near" ["_law_row", "_law_width_here", "_law_some"] _ := ⟨f_law_near, _, ok_near (P := l.prog) (w := w) (base := base) (F := F_law_near) (T := T) (C_law_taken := C_law_taken) (C_law_number := C_law_number), m_law_near, k_law_near, b_law_near⟩
  have C_law_things : Cal l.prog w K mg base 4 "_law_things" ["_law_row", "_law_width_here", "_law_most"] _ := ⟨f_law_things, _, ok_things (P := l.prog) (w := w) (base := base) (F := F_law_things) (T := T) (C_law_taken := C_law_taken) (C_law_number := C_law_number) (C_law_near := C_law_near), m_law_things, k_law_things, b_law_things⟩
  have C_law_pool : Cal l.prog w K mg base 5 "_law_pool" ["_law_row", "_law_width_here"] _ := ⟨f_law_pool, _, ok_pool (P := l.prog) (w := w) (base := base) (F := F_law_pool) (T := T) (C_law_taken := C_law_taken) (C_law_number := C_law_number) (C_law_things := C_law_things), m_law_pool, k_law_pool, b_law_pool⟩
  have C_need_width : Cal l.prog w K mg base 1 "need_width" ["width"] _ := ⟨f_need_width, _, ok_need_width (P := l.prog) (w := w) (base := base) (F := F_need_width) (T := T) (k_MOST_WIDTH := k_MOST_WIDTH) (X_BadWidth := X_BadWidth), m_need_width, k_need_width, b_need_width⟩
  have C_Wire : CalC l.prog w K mg base 2 c_Wire "Wire" ["self", "width"] _ := ⟨f_Wire___init, _, ok_winit (P := l.prog) (w := w) (base := base) (F := F_Wire___init) (T := T) (TW := TW) (C_need_width := C_need_width), ⟨mk_Wire, a_Wire___init, i_Wire___init, kc_Wire⟩, PySem.W.mg_of X G n_Wire, b_Wire___init⟩
  have C_law_model : Cal l.prog w K mg base 1 "_law_model" ["_law_width_here"] _ := ⟨f_law_model, _, ok_model (P := l.prog) (w := w) (base := base) (F := F_law_model) (T := T), m_law_model, k_law_model, b_law_model⟩
  have C_are_bits : Cal l.prog w K mg base 1 "are_bits" ["part"] _ := ⟨f_are_bits, _, ok_are_bits (P := l.prog) (w := w) (base := base) (F := F_are_bits) (T := T), m_are_bits, k_are_bits, b_are_bits⟩
  have C_is_number : Cal l.prog w K mg base 2 "is_number" ["width", "part"] _ := ⟨f_is_number, _, ok_is_number (P := l.prog) (w := w) (base := base) (F := F_is_number) (T := T) (C_are_bits := C_are_bits), m_is_number, k_is_number, b_is_number⟩
  have C_need_number : Cal l.prog w K mg base 3 "need_number" ["width", "part"] _ := ⟨f_need_number, _, ok_need_number (P := l.prog) (w := w) (base := base) (F := F_need_number) (T := T) (C_is_number := C_is_number) (X_BadNumber := X_BadNumber), m_need_number, k_need_number, b_need_number⟩
  have C_Wire_hang : CalM l.prog w K mg base 4 c_Wire "hang" ["self", "number"] _ := ⟨f_Wire_hang, _, ok_hang (P := l.prog) (w := w) (base := base) (F := F_Wire_hang) (T := T) (TW := TW) (C_need_number := C_need_number) (X_There := X_There), ⟨a_Wire_hang, i_Wire_hang, k_Wire_hang⟩, b_Wire_hang⟩
  have C_Wire_need_thing : CalM l.prog w K mg base 4 c_Wire "need_thing" ["self", "number"] _ := ⟨f_Wire_need_thing, _, ok_need_thing (P := l.prog) (w := w) (base := base) (F := F_Wire_need_thing) (T := T) (TW := TW) (C_need_number := C_need_number) (X_NotThere := X_NotThere), ⟨a_Wire_need_thing, i_Wire_need_thing, k_Wire_need_thing⟩, b_Wire_need_thing⟩
  have C_Wire_off : CalM l.prog w K mg base 5 c_Wire "off" ["self", "number"] _ := ⟨f_Wire_off, _, ok_off (P := l.prog) (w := w) (base := base) (F := F_Wire_off) (T := T) (TW := TW) (C_Wire_need_thing := C_Wire_need_thing), ⟨a_Wire_off, i_Wire_off, k_Wire_off⟩, b_Wire_off⟩
  have C_Wire_alarm : CalM l.prog w K mg base 5 c_Wire "alarm" ["self", "number"] _ := ⟨f_Wire_alarm, _, ok_alarm (P := l.prog) (w := w) (base := base) (F := F_Wire_alarm) (T := T) (TW := TW) (C_Wire_need_thing := C_Wire_need_thing), ⟨a_Wire_alarm, i_Wire_alarm, k_Wire_alarm⟩, b_Wire_alarm⟩
  have C_Wire_calm : CalM l.prog w K mg base 5 c_Wire "calm" ["self", "number"] _ := ⟨f_Wire_calm, _, ok_calm (P := l.prog) (w := w) (base := base) (F := F_Wire_calm) (T := T) (TW := TW) (C_Wire_need_thing := C_Wire_need_thing), ⟨a_Wire_calm, i_Wire_calm, k_Wire_calm⟩, b_Wire_calm⟩
  have C_law_become : Cal l.prog w K mg base 6 "_law_become" ["_law_wire", "_law_word_here", "_law_number_here"] _ := ⟨f_law_become, _, ok_become (P := l.prog) (w := w) (base := base) (F := F_law_become) (T := T) (TW := TW) (C_Wire_hang := C_Wire_hang) (C_Wire_off := C_Wire_off) (C_Wire_alarm := C_Wire_alarm) (C_Wire_calm := C_Wire_calm), m_law_become, k_law_become, b_law_become⟩
  have C_law_deed : Cal l.prog w K mg base 1 "_law_deed" ["_law_m", "_law_word_here", "_law_number_here"] _ := ⟨f_law_deed, _, ok_deed (P := l.prog) (w := w) (base := base) (F := F_law_deed) (T := T), m_law_deed, k_law_deed, b_law_deed⟩
  have C_law_change : Cal l.prog w K mg base 10 "_law_change" ["_law_row", "_law_wire", "_law_m", "_law_names"] _ := ⟨f_law_change, _, ok_change (P := l.prog) (w := w) (base := base) (TT := [(P_law_change, ("_law_change.<locals>.<lambda>" : Str)), (P_law_use, ("_law_use.<locals>.<lambda>" : Str))]) (g := g) (F := F_law_change) (T := T) (TW := TW) (Fw := F_law_word) (bw := b_law_word) (m_word := m_law_word) (TB := (TBs (cd_law_change, P_law_change) (by simp))) (hmT := (by simp)) (hu := (tabs_hu1 hPP)) (C_law_taken := C_law_taken) (C_law_become := C_law_become) (C_law_deed := C_law_deed), m_law_change, k_law_change, b_law_change⟩
  have C_law_begun : Cal l.prog w K mg base 1 "_law_begun" ["_law_m", "_law_kind"] _ := ⟨f_law_begun, _, ok_begun (P := l.prog) (w := w) (base := base) (F := F_law_begun) (T := T), m_law_begun, k_law_begun, b_law_begun⟩
  have C_law_said : Cal l.prog w K mg base 1 "_law_said" ["_law_m", "_law_bit"] _ := ⟨f_law_said, _, ok_said (P := l.prog) (w := w) (base := base) (F := F_law_said) (T := T), m_law_said, k_law_said, b_law_said⟩
  have C_law_looked : Cal l.prog w K mg base 1 "_law_looked" ["_law_numbers", "_law_beginning"] _ := ⟨f_law_looked, _, ok_looked (P := l.prog) (w := w) (base := base) (F := F_law_looked) (T := T), m_law_looked, k_law_looked, b_law_looked⟩
  have C_law_alike : Cal l.prog w K mg base 7 "_law_alike" ["_law_found", "_law_due"] _ := ⟨f_law_alike, _, ok_alike (P := l.prog) (w := w) (base := base) (F := F_law_alike) (T := T) (hm := m_law_alike) (hb := b_law_alike) 7, m_law_alike, k_law_alike, b_law_alike⟩
  have C_need_kind : Cal l.prog w K mg base 1 "need_kind" ["kind"] _ := ⟨f_need_kind, _, ok_need_kind (P := l.prog) (w := w) (base := base) (F := F_need_kind) (T := T) (k_KINDS := k_KINDS) (t_KINDS := t_KINDS) (X_BadKind := X_BadKind), m_need_kind, k_need_kind, b_need_kind⟩
  have C_Wire_begin : CalM l.prog w K mg base 2 c_Wire "begin" ["self", "kind"] _ := ⟨f_Wire_begin, _, ok_begin (P := l.prog) (w := w) (base := base) (F := F_Wire_begin) (T := T) (TW := TW) (C_need_kind := C_need_kind), ⟨a_Wire_begin, i_Wire_begin, k_Wire_begin⟩, b_Wire_begin⟩
  have C_Wire_need_round : CalM l.prog w K mg base 1 c_Wire "need_round" ["self"] _ := ⟨f_Wire_need_round, _, ok_need_round (P := l.prog) (w := w) (base := base) (F := F_Wire_need_round) (T := T) (TW := TW) (X_NoRound := X_NoRound), ⟨a_Wire_need_round, i_Wire_need_round, k_Wire_need_round⟩, b_Wire_need_round⟩
  have C_look_at : Cal l.prog w K mg base 1 "look_at" ["numbers", "beginning"] _ := ⟨f_look_at, _, ok_look_at (P := l.prog) (w := w) (base := base) (F := F_look_at) (T := T), m_look_at, k_look_at, b_look_at⟩
  have C_Wire_look : CalM l.prog w K mg base 2 c_Wire "look" ["self"] _ := ⟨f_Wire_look, _, ok_look (P := l.prog) (w := w) (base := base) (F := F_Wire_look) (T := T) (TW := TW) (C_Wire_need_round := C_Wire_need_round) (C_look_at := C_look_at), ⟨a_Wire_look, i_Wire_look, k_Wire_look⟩, b_Wire_look⟩
  have C_Wire_say : CalM l.prog w K mg base 2 c_Wire "say" ["self", "bit"] _ := ⟨f_Wire_say, _, ok_say (P := l.prog) (w := w) (base := base) (F := F_Wire_say) (T := T) (TW := TW) (C_Wire_need_round := C_Wire_need_round) (X_BadBit := X_BadBit), ⟨a_Wire_say, i_Wire_say, k_Wire_say⟩, b_Wire_say⟩
  have C_law_use : Cal l.prog w K mg base 10 "_law_use" ["_law_row", "_law_wire", "_law_m"] _ := ⟨f_law_use, _, ok_use (P := l.prog) (w := w) (base := base) (TT := [(P_law_change, ("_law_change.<locals>.<lambda>" : Str)), (P_law_use, ("_law_use.<locals>.<lambda>" : Str))]) (g := g) (F := F_law_use) (T := T) (TW := TW) (Fw := F_law_word) (bw := b_law_word) (m_word := m_law_word) (TB := (TBs (cd_law_use, P_law_use) (by simp))) (hmT := (by simp)) (hu := (tabs_hu2 hPP)) (C_law_taken := C_law_taken) (C_law_begun := C_law_begun) (C_law_said := C_law_said) (C_law_looked := C_law_looked) (C_law_alike := C_law_alike) (C_Wire_begin := C_Wire_begin) (C_Wire_look := C_Wire_look) (C_Wire_say := C_Wire_say), m_law_use, k_law_use, b_law_use⟩
  have C_Wire_hung : CalM l.prog w K mg base 1 c_Wire "hung" ["self"] _ := ⟨f_Wire_hung, _, ok_hung (P := l.prog) (w := w) (base := base) (F := F_Wire_hung) (T := T) (TW := TW), ⟨a_Wire_hung, i_Wire_hung, k_Wire_hung⟩, b_Wire_hung⟩
  have C_Wire_alarms : CalM l.prog w K mg base 1 c_Wire "alarms" ["self"] _ := ⟨f_Wire_alarms, _, ok_alarms (P := l.prog) (w := w) (base := base) (F := F_Wire_alarms) (T := T) (TW := TW), ⟨a_Wire_alarms, i_Wire_alarms, k_Wire_alarms⟩, b_Wire_alarms⟩
  have C_Wire_looks : CalM l.prog w K mg base 1 c_Wire "looks" ["self"] _ := ⟨f_Wire_looks, _, ok_looks (P := l.prog) (w := w) (base := base) (F := F_Wire_looks) (T := T) (TW := TW), ⟨a_Wire_looks, i_Wire_looks, k_Wire_looks⟩, b_Wire_looks⟩
  exact ok_law02 (P := l.prog) (w := w) (base := base) (F := F_law) (T := T) (TW := TW) (C_law_taken := C_law_taken) (C_law_width := C_law_width) (C_law_pool := C_law_pool) (C_Wire := C_Wire) (C_law_model := C_law_model) (C_law_change := C_law_change) (C_law_use := C_law_use) (C_law_alike := C_law_alike) (C_Wire_hung := C_Wire_hung) (C_Wire_alarms := C_Wire_alarms) (C_Wire_looks := C_Wire_looks)
end My
end

section
set_option pp.maxSteps 700
open PySem PySem.W PyProof.Rows
set_option maxRecDepth 100000 in
set_option maxHeartbeats 0 in
theorem PySem.Challenge.cw_busfind_k02_wires_deed_by_deed_holds : PySem.Challenge.rw_busfind_k02_wires_deed_by_deed.Holds := by
  w_on; o_law; k_head; (case hw => w_witness2)
  k_fill
  refine LamX.walk_ofTs (l := PySem.Challenge.rw_busfind_k02_wires_deed_by_deed) (n := 63) (k := 12) (x := "_law_script") (CX := fun w => L2.CX PySem.Challenge.rw_busfind_k02_wires_deed_by_deed.prog w) rfl (by decide) rfl ⟨rfl, by decide, by decide⟩ (fun w h Y => PySem.W.km_in_of Y) ?F (fun w H s e s' h => by obtain ⟨_, _, _, _, _, _, _, _, _, _, _, _, z⟩ := h; exact z)
  case F =>
    intro w mg fa h Y KX G hmg
    refine' My.all_mk KX G (PySem.W.km_tabs_of Y) hmg ?n_Wire ?a_law_taken ?l_law_taken ?d_law_taken ?k_law_taken ?a_law_width ?l_law_width ?d_law_width ?k_law_width ?a_law_number ?l_law_number ?d_law_number ?k_law_number ?a_law_near ?l_law_near ?d_law_near ?k_law_near ?a_law_things ?l_law_things ?d_law_things ?k_law_things ?a_law_pool ?l_law_pool ?d_law_pool ?k_law_pool ?a_need_width ?l_need_width ?d_need_width ?k_need_width ?a_Wire___init ?i_Wire___init ?l_Wire___init ?d_Wire___init ?k_Wire___init ?a_law_model ?l_law_model ?d_law_model ?k_law_model ?a_are_bits ?l_are_bits ?d_are_bits ?k_are_bits ?a_is_number ?l_is_number ?d_is_number ?k_is_number ?a_need_number ?l_need_number ?d_need_number ?k_need_number ?a_Wire_hang ?i_Wire_hang ?l_Wire_hang ?d_Wire_hang ?k_Wire_hang ?a_Wire_need_thing ?i_Wire_need_thing ?l_Wire_need_thing ?d_Wire_need_thing ?k_Wire_need_thing ?a_Wire_off ?i_Wire_off ?l_Wire_off ?d_Wire_off ?k_Wire_off ?a_Wire_alarm ?i_Wire_alarm ?l_Wire_alarm ?d_Wire_alarm ?k_Wire_alarm ?a_Wire_calm ?i_Wire_calm ?l_Wire_calm ?d_Wire_calm ?k_Wire_calm ?a_law_become ?l_law_become ?d_law_become ?k_law_become ?a_law_deed ?l_law_deed ?d_law_deed ?k_law_deed ?a_law_change ?l_law_change ?d_law_change ?k_law_change ?t_law_change ?u_law_change ?v_law_change ?a_law_begun ?l_law_begun ?d_law_begun ?k_law_begun ?a_law_said ?l_law_said ?d_law_said ?k_law_said ?a_law_looked ?l_law_looked ?d_law_looked ?k_law_looked ?a_law_alike ?l_law_alike ?d_law_alike ?k_law_alike ?a_need_kind ?l_need_kind ?d_need_kind ?k_need_kind ?a_Wire_begin ?i_Wire_begin ?l_Wire_begin ?d_Wire_begin ?k_Wire_begin ?a_Wire_need_round ?i_Wire_need_round ?l_Wire_need_round ?d_Wire_need_round ?k_Wire_need_round ?a_look_at ?l_look_at ?d_look_at ?k_look_at ?a_Wire_look ?i_Wire_look ?l_Wire_look ?d_Wire_look ?k_Wire_look ?a_Wire_say ?i_Wire_say ?l_Wire_say ?d_Wire_say ?k_Wire_say ?a_law_use ?l_law_use ?d_law_use ?k_law_use ?t_law_use ?u_law_use ?v_law_use ?a_Wire_hung ?i_Wire_hung ?l_Wire_hung ?d_Wire_hung ?k_Wire_hung ?a_Wire_alarms ?i_Wire_alarms ?l_Wire_alarms ?d_Wire_alarms ?k_Wire_alarms ?a_Wire_looks ?i_Wire_looks ?l_Wire_looks ?d_Wire_looks ?k_Wire_looks ?a_law ?l_law ?d_law ?k_law ?a_law_word ?l_law_word ?d_law_word ?k_law_word ?hPP ?pg_Wire ?hd_Wire ?po_Wire ?sa_Wire ?mk_Wire ?kc_Wire ?na_Wire_width ?na_Wire_things ?na_Wire_listening ?na_Wire_told ?na_Wire_many ?n_BusError ?n_BadWidth ?n_BadNumber ?n_BadKind ?n_BadBit ?n_There ?n_NotThere ?n_NoRound ?n_Over ?n_Busy ?n_BadLooks ?n_BadRoster ?n_TooMany ?n_BadPlan ?n_BadStep ?n_BadText ?q_BadBit ?kx_BadBit ?bx_BadBit ?tx_BadBit ?q_BadKind ?kx_BadKind ?bx_BadKind ?tx_BadKind ?q_BadNumber ?kx_BadNumber ?bx_BadNumber ?tx_BadNumber ?q_BadWidth ?kx_BadWidth ?bx_BadWidth ?tx_BadWidth ?q_NoRound ?kx_NoRound ?bx_NoRound ?tx_NoRound ?q_NotThere ?kx_NotThere ?bx_NotThere ?tx_NotThere ?q_There ?kx_There ?bx_There ?tx_There ?kk ?kv ?kg ?ka ?ks ?kh ?kl ?km ?kb ?kn ?kt ?n_KINDS ?l_KINDS ?n_MOST_WIDTH ?z_len ?z_range ?z_int ?z_bool ?z_str ?z_tuple ?z_list ?z_set ?z_sorted ?z_max ?z_min ?z_isinstance ?z_enumerate ?z_ValueError
    (case v_law_change => exact List.mem_cons_of_mem _ (List.mem_cons_self))
    (case v_law_use => exact List.mem_cons_self)
    (case n_Wire => k_is)
    (case n_BusError => k_is)
    (case n_BadWidth => k_is)
    (case n_BadNumber => k_is)
    (case n_BadKind => k_is)
    (case n_BadBit => k_is)
    (case n_There => k_is)
    (case n_NotThere => k_is)
    (case n_NoRound => k_is)
    (case n_Over => k_is)
    (case n_Busy => k_is)
    (case n_BadLooks => k_is)
    (case n_BadRoster => k_is)
    (case n_TooMany => k_is)
    (case n_BadPlan => k_is)
    (case n_BadStep => k_is)
    (case n_BadText => k_is)
    (case n_KINDS => k_is)
    (case n_MOST_WIDTH => k_is)
    (case a_law_taken => k_is)
    (case l_law_taken => k_is)
    (case d_law_taken => k_is)
    (case k_law_taken => k_is)
    (case a_law_width => k_is)
    (case l_law_width => k_is)
    (case d_law_width => k_is)
    (case k_law_width => k_is)
    (case a_law_number => k_is)
    (case l_law_number => k_is)
    (case d_law_number => k_is)
    (case k_law_number => k_is)
    (case a_law_near => k_is)
    (case l_law_near => k_is)
    (case d_law_near => k_is)
    (case k_law_near => k_is)
    (case a_law_things => k_is)
    (case l_law_things => k_is)
    (case d_law_things => k_is)
    (case k_law_things => k_is)
    (case a_law_pool => k_is)
    (case l_law_pool => k_is)
    (case d_law_pool => k_is)
    (case k_law_pool => k_is)
    (case a_need_width => k_is)
    (case l_need_width => k_is)
    (case d_need_width => k_is)
    (case k_need_width => k_is)
    (case a_Wire___init => k_is)
    (case i_Wire___init => k_is)
    (case l_Wire___init => k_is)
    (case d_Wire___init => k_is)
    (case k_Wire___init => k_is)
    (case a_law_model => k_is)
    (case l_law_model => k_is)
    (case d_law_model => k_is)
    (case k_law_model => k_is)
    (case a_are_bits => k_is)
    (case l_are_bits => k_is)
    (case d_are_bits => k_is)
    (case k_are_bits => k_is)
    (case a_is_number => k_is)
    (case l_is_number => k_is)
    (case d_is_number => k_is)
    (case k_is_number => k_is)
    (case a_need_number => k_is)
    (case l_need_number => k_is)
    (case d_need_number => k_is)
    (case k_need_number => k_is)
    (case a_Wire_hang => k_is)
    (case i_Wire_hang => k_is)
    (case l_Wire_hang => k_is)
    (case d_Wire_hang => k_is)
    (case k_Wire_hang => k_is)
    (case a_Wire_need_thing => k_is)
    (case i_Wire_need_thing => k_is)
    (case l_Wire_need_thing => k_is)
    (case d_Wire_need_thing => k_is)
    (case k_Wire_need_thing => k_is)
    (case a_Wire_off => k_is)
    (case i_Wire_off => k_is)
    (case l_Wire_off => k_is)
    (case d_Wire_off => k_is)
    (case k_Wire_off => k_is)
    (case a_Wire_alarm => k_is)
    (case i_Wire_alarm => k_is)
    (case l_Wire_alarm => k_is)
    (case d_Wire_alarm => k_is)
    (case k_Wire_alarm => k_is)
    (case a_Wire_calm => k_is)
    (case i_Wire_calm => k_is)
    (case l_Wire_calm => k_is)
    (case d_Wire_calm => k_is)
    (case k_Wire_calm => k_is)
    (case a_law_become => k_is)
    (case l_law_become => k_is)
    (case d_law_become => k_is)
    (case k_law_become => k_is)
    (case a_law_deed => k_is)
    (case l_law_deed => k_is)
    (case d_law_deed => k_is)
    (case k_law_deed => k_is)
    (case a_law_change => k_is)
    (case l_law_change => k_is)
    (case d_law_change => k_is)
    (case k_law_change => k_is)
    (case t_law_change => first | k_is | kernel_rfl)
    (case u_law_change => first | k_is | kernel_rfl)
    (case a_law_begun => k_is)
    (case l_law_begun => k_is)
    (case d_law_begun => k_is)
    (case k_law_begun => k_is)
    (case a_law_said => k_is)
    (case l_law_said => k_is)
    (case d_law_said => k_is)
    (case k_law_said => k_is)
    (case a_law_looked => k_is)
    (case l_law_looked => k_is)
    (case d_law_looked => k_is)
    (case k_law_looked => k_is)
    (case a_law_alike => k_is)
    (case l_law_alike => k_is)
    (case d_law_alike => k_is)
    (case k_law_alike => k_is)
    (case a_need_kind => k_is)
    (case l_need_kind => k_is)
    (case d_need_kind => k_is)
    (case k_need_kind => k_is)
    (case a_Wire_begin => k_is)
    (case i_Wire_begin => k_is)
    (case l_Wire_begin => k_is)
    (case d_Wire_begin => k_is)
    (case k_Wire_begin => k_is)
    (case a_Wire_need_round => k_is)
    (case i_Wire_need_round => k_is)
    (case l_Wire_need_round => k_is)
    (case d_Wire_need_round => k_is)
    (case k_Wire_need_round => k_is)
    (case a_look_at => k_is)
    (case l_look_at => k_is)
    (case d_look_at => k_is)
    (case k_look_at => k_is)
    (case a_Wire_look => k_is)
    (case i_Wire_look => k_is)
    (case l_Wire_look => k_is)
    (case d_Wire_look => k_is)
    (case k_Wire_look => k_is)
    (case a_Wire_say => k_is)
    (case i_Wire_say => k_is)
    (case l_Wire_say => k_is)
    (case d_Wire_say => k_is)
    (case k_Wire_say => k_is)
    (case a_law_use => k_is)
    (case l_law_use => k_is)
    (case d_law_use => k_is)
    (case k_law_use => k_is)
    (case t_law_use => first | k_is | kernel_rfl)
    (case u_law_use => first | k_is | kernel_rfl)
    (case a_Wire_hung => k_is)
    (case i_Wire_hung => k_is)
    (case l_Wire_hung => k_is)
    (case d_Wire_hung => k_is)
    (case k_Wire_hung => k_is)
    (case a_Wire_alarms => k_is)
    (case i_Wire_alarms => k_is)
    (case l_Wire_alarms => k_is)
    (case d_Wire_alarms => k_is)
    (case k_Wire_alarms => k_is)
    (case a_Wire_looks => k_is)
    (case i_Wire_looks => k_is)
    (case l_Wire_looks => k_is)
    (case d_Wire_looks => k_is)
    (case k_Wire_looks => k_is)
    (case a_law => k_is)
    (case l_law => k_is)
    (case d_law => k_is)
    (case k_law => k_is)
    (case a_law_word => k_is)
    (case l_law_word => k_is)
    (case d_law_word => k_is)
    (case k_law_word => k_is)
    (case hPP => decide)
    (case pg_Wire => k_is)
    (case hd_Wire => k_is)
    (case po_Wire => k_is)
    (case sa_Wire => k_is)
    (case mk_Wire => k_is)
    (case kc_Wire => k_is)
    (case na_Wire_width => k_is)
    (case na_Wire_things => k_is)
    (case na_Wire_listening => k_is)
    (case na_Wire_told => k_is)
    (case na_Wire_many => k_is)
    (case q_BadBit => first | k_is | kernel_rfl)
    (case kx_BadBit => k_is)
    (case bx_BadBit => k_is)
    (case tx_BadBit => k_is)
    (case q_BadKind => first | k_is | kernel_rfl)
    (case kx_BadKind => k_is)
    (case bx_BadKind => k_is)
    (case tx_BadKind => k_is)
    (case q_BadNumber => first | k_is | kernel_rfl)
    (case kx_BadNumber => k_is)
    (case bx_BadNumber => k_is)
    (case tx_BadNumber => k_is)
    (case q_BadWidth => first | k_is | kernel_rfl)
    (case kx_BadWidth => k_is)
    (case bx_BadWidth => k_is)
    (case tx_BadWidth => k_is)
    (case q_NoRound => first | k_is | kernel_rfl)
    (case kx_NoRound => k_is)
    (case bx_NoRound => k_is)
    (case tx_NoRound => k_is)
    (case q_NotThere => first | k_is | kernel_rfl)
    (case kx_NotThere => k_is)
    (case bx_NotThere => k_is)
    (case tx_NotThere => k_is)
    (case q_There => first | k_is | kernel_rfl)
    (case kx_There => k_is)
    (case bx_There => k_is)
    (case tx_There => k_is)
    (case kk => first | k_is | kernel_rfl)
    (case kv => first | k_is | kernel_rfl)
    (case kg => first | k_is | kernel_rfl)
    (case ka => first | k_is | kernel_rfl)
    (case ks => first | k_is | kernel_rfl)
    (case kh => first | k_is | kernel_rfl)
    (case kl => first | k_is | kernel_rfl)
    (case km => first | k_is | kernel_rfl)
    (case kb => first | k_is | kernel_rfl)
    (case kn => first | k_is | kernel_rfl)
    (case kt => first | k_is | kernel_rfl)
    (case l_KINDS => k_is)
    (case z_len => k_is)
    (case z_range => k_is)
    (case z_int => k_is)
    (case z_bool => k_is)
    (case z_str => k_is)
    (case z_tuple => k_is)
    (case z_list => k_is)
    (case z_set => k_is)
    (case z_sorted => k_is)
    (case z_max => k_is)
    (case z_min => k_is)
    (case z_isinstance => k_is)
    (case z_enumerate => k_is)
    (case z_ValueError => k_is)
end
