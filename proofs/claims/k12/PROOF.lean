import PyProof.Rows.All
import Wide.All
import OpenK.AllK
import Wide.FinOn
import HandS.ForMost
import HandS.Exc
import HandS.TryOnly
import HandS.ExcOwn
import HandS.WordsExc
import HandS.Flow
import HandS.TupAny
import HandS.More
import HandS.Conv
import HandS.IsInst
import HandS.Codes
import PyProof.EqAt
import PyProof.EqKinds
import HandS.ExcIs
import HandS.Lambda
import HandS.EndTab
import HandS.SetFor
import KE.KLam
import KE.KNestM
import PySem.Challenge.RW_busfind_k12_plans_with_the_least_looks
import HandS.ExcInit
import HandS.ExcField
import KE.KIsAll
import HandS.FStr
import HandS.Text
import PyProof.P3Eq
import HandS.Iter
import HandS.Replace
import HandS.List
import PyProof.ToksMono
import PyProof.StrLawsReplace
import HandS.Set
import HandS.SortInts
import HandS.Strs
import HandS.Deep
import KE.SortData
import KE.DataCmp
import KE.DatumOrd
import HandS.Style
import KE.KRevSl
import KE.KDflt
import PyProof.SeqIndex
import HandS.TupLen
import HandS.SetKeys
import KE.KDictWalk
import KE.KDictSum
import KE.KeyNested
set_option Elab.async false
set_option linter.all false
set_option maxRecDepth 100000
set_option maxHeartbeats 4000000
section
namespace Lw
open PySem L2
/-! ### calls -/
/-- a def of the module, as it is called -/
structure Cal (P : Program) (w : World) (K : PySem.W.Frag) (mg : Str → Option Value) (base : Heap) (k : Nat) (x : Str) (ps : List Str) (sp : Sp) : Prop where
  ex : ∃ (f : Addr) (fd : FuncData), FnOk P w K mg base (L2.CX P w) k f fd ps sp ∧ mg x = some (.ref f) ∧ PySem.W.keepIn K (.ref f) = true ∧ Binds K fd ps []
/-- a method -/
structure CalM (P : Program) (w : World) (K : PySem.W.Frag) (mg : Str → Option Value) (base : Heap) (k : Nat) (C : Addr) (m : Str) (ps : List Str) (sp : Sp) : Prop where
  ex : ∃ (f : Addr) (fd : FuncData), FnOk P w K mg base (L2.CX P w) k f fd ps sp ∧ Meth K C m f ∧ Binds K fd ps []
/-- a class, as it makes an instance -/
structure CalC (P : Program) (w : World) (K : PySem.W.Frag) (mg : Str → Option Value) (base : Heap) (k : Nat) (C : Addr) (x : Str) (ps : List Str) (sp : Sp) : Prop where
  ex : ∃ (f : Addr) (fd : FuncData), FnOk P w K mg base (L2.CX P w) k f fd ps sp ∧ Mk K C f ∧ mg x = some (.ref C) ∧ Binds K fd ps []
section
variable {X : Cx} {k : Nat} {x m : Str} {ps : List Str} {sp : Sp} {e o : Expr} {es : List Expr} {t : TA} {ta : TE} {E : XK} {p pos apos : Pos} {C : Addr}
theorem pe_cal (c : Cal X.prog X.w X.K X.mg X.base k x ps sp) (hr : Room k X.A) (hx : Passes (L2.CX X.prog X.w) X E) (ha : PA X (e :: es) t) (hg : Gl X x := by rfl) (hdb : (x == ("__debug__" : Str)) = false := by decide)
    (he : starEach (e :: es) X.env = (false, eval e X.env) :: starEach es X.env := by rfl) (hpl : (backTo pos (starEach es X.env)).any (·.1) = false := by rfl) :
    PE X (.Call (.Name x p) (e :: es) [] pos) (tCall sp [] E t) := by
  obtain ⟨f, fd, F, hm, hk, hb⟩ := c.ex
  exact pe_call F hr hg hm hk hb .nil hx ha hdb he hpl
theorem pe_me {pl : Sem Bool} (ho : PE X o ta) (cl : Cls X.K C) (c : CalM X.prog X.w X.K X.mg X.base k C m ps sp) (hr : Room k X.A) (hx : Passes (L2.CX X.prog X.w) X E) (ha : PA X (e :: es) t)
    (he : starEach (e :: es) X.env = (false, eval e X.env) :: starEach es X.env := by rfl) (hpl : (backTo pos (starEach es X.env)).any (·.1) = false := by rfl)
    (hm : eval (.Call (.Attribute o m apos) (e :: es) [] pos) X.env = (do let ov ← eval o X.env; standAt apos.atName; let (f, first) ← holding [ov] (getMethod ov m pl); callWith pos f first (backTo pos (starEach (e :: es) X.env)) (backToKw pos (keywordEach [] X.env))) := by rfl) :
    PE X (.Call (.Attribute o m apos) (e :: es) [] pos) (tMeth C m sp [] E ta t) := by
  obtain ⟨f, fd, F, hM, hb⟩ := c.ex
  exact pe_meth ho cl hM F hr hb .nil hx ha he hpl hm
theorem pe_mk (c : CalC X.prog X.w X.K X.mg X.base k C x ps sp) (hr : Room (k + 1) X.A) (hx : Passes (L2.CX X.prog X.w) X E) (ha : PA X (e :: es) t) (hg : Gl X x := by rfl) (hdb : (x == ("__debug__" : Str)) = false := by decide)
    (he : starEach (e :: es) X.env = (false, eval e X.env) :: starEach es X.env := by rfl) (hpl : (backTo pos (starEach es X.env)).any (·.1) = false := by rfl) :
    PE X (.Call (.Name x p) (e :: es) [] pos) (tMake C sp [] E t) := by
  obtain ⟨f, fd, F, hM, hm, hb⟩ := c.ex
  exact pe_make hM F hr hg hm hb .nil hx ha hdb he hpl
end
/-! ### heaps -/
/-- a law's row: [script, place, mix, rest] -/
abbrev row (a : Addr) (i m z : Int) : HO := .lst [.ref a, .int i, .int m, .int z]
def RowSh (o : HO) : Prop := ∃ a i m z, o = row a i m z
/-- the script: known to its object, or written -/
def Scr (K : PySem.W.Frag) (H : Hp) (a : Addr) (xs : List V) : Prop := (∃ o, H a = some (.frz o (.lst xs))) ∨ ∀ H', SqL K H' a xs
theorem Scr.sq {K : PySem.W.Frag} {H : Hp} {a : Addr} {xs : List V} (h : Scr K H a xs) : SqL K H a xs := by
  rcases h with ⟨o, h⟩ | h
  · exact .inl (.inr ⟨o, h⟩)
  · exact h H
/-- a law's row stands at r -/
def RowOk (K : PySem.W.Frag) (H : Hp) (r : Addr) : Prop := ∃ (a : Addr) (i m z : Int) (ns : List Int), H r = some (row a i m z) ∧ 0 ≤ i ∧ Scr K H a (ns.map V.int)
/-- all but rows stands, rows stay rows -/
structure Ext (H H' : Hp) : Prop where
  st : ∀ b o, H b = some o → ¬ RowSh o → H' b = some o
  rw_ : ∀ b a i m z, H b = some (row a i m z) → 0 ≤ i → ∃ i' m' z', H' b = some (row a i' m' z') ∧ 0 ≤ i'
  th : ∀ b o, H b = some o → ∃ o', H' b = some o'
theorem nsh_of {o : HO} (h : ∀ a i m z, o ≠ row a i m z) : ¬ RowSh o := fun ⟨a, i, m, z, e⟩ => h a i m z e
theorem nsh_ints (ns : List Int) : ¬ RowSh (.lst (ns.map V.int)) := nsh_of fun a i m z e => by
  cases ns with
  | nil => simp [row] at e
  | cons x xs => simp [row] at e
theorem nsh_strs (ns : List Str) : ¬ RowSh (.lst (ns.map V.str)) := nsh_of fun a i m z e => by
  cases ns with
  | nil => simp [row] at e
  | cons x xs => simp [row] at e
theorem nsh_refs (ns : List Addr) : ¬ RowSh (.lst (ns.map V.ref)) := nsh_of fun a i m z e => by
  match ns, e with
  | [], e => simp [row] at e
  | [x], e => simp [row] at e
  | x :: y :: xs, e => simp [row] at e
theorem nsh_nil : ¬ RowSh (.lst []) := nsh_of fun a i m z e => by simp [row] at e
theorem nsh_tup {xs : List V} : ¬ RowSh (.tup xs) := nsh_of fun a i m z e => by cases e
theorem nsh_frz {o : Obj} {u : HO} : ¬ RowSh (.frz o u) := nsh_of fun a i m z e => by cases e
theorem nsh_dK {kvs} : ¬ RowSh (.dK kvs) := nsh_of fun a i m z e => by cases e
theorem nsh_dT {kvs} : ¬ RowSh (.dT kvs) := nsh_of fun a i m z e => by cases e
theorem nsh_ins {C dx fs} : ¬ RowSh (.ins C dx fs) := nsh_of fun a i m z e => by cases e
theorem nsh_ext {x} : ¬ RowSh (.ext x) := nsh_of fun a i m z e => by cases e
section
variable {K : PySem.W.Frag} {H H1 H2 : Hp} {p a r : Addr} {o : HO} {xs : List V}
theorem Ext.refl (H : Hp) : Ext H H := ⟨fun _ _ h _ => h, fun _ _ i m z h hi => ⟨i, m, z, h, hi⟩, fun _ o h => ⟨o, h⟩⟩
theorem Ext.trans (a : Ext H H1) (b : Ext H1 H2) : Ext H H2 := ⟨fun c o h n => b.st c o (a.st c o h n) n, fun c x i m z h hi => by
  obtain ⟨i1, m1, z1, h1, hi1⟩ := a.rw_ c x i m z h hi
  exact b.rw_ c x i1 m1 z1 h1 hi1, fun c o h => by
  obtain ⟨o1, h1⟩ := a.th c o h
  exact b.th c o1 h1⟩
theorem Ext.seq (e : Ext H H1) (n : ¬ RowSh (.lst xs)) (h : SqL K H a xs) : SqL K H1 a xs := by
  rcases h with (h | ⟨o, h⟩) | h
  · exact .inl (.inl (e.st _ _ h n))
  · exact .inl (.inr ⟨o, e.st _ _ h nsh_frz⟩)
  · exact .inr h
theorem Ext.tup (e : Ext H H1) (h : SqT K H a xs) : SqT K H1 a xs := by
  rcases h with (h | ⟨o, h⟩) | h
  · exact .inl (.inl (e.st _ _ h nsh_tup))
  · exact .inl (.inr ⟨o, e.st _ _ h nsh_frz⟩)
  · exact .inr h
theorem Ext.scr (e : Ext H H1) (h : Scr K H a xs) : Scr K H1 a xs := by
  rcases h with ⟨o, h⟩ | h
  · exact .inl ⟨o, e.st _ _ h nsh_frz⟩
  · exact .inr h
theorem Ext.rowOk (e : Ext H H1) (h : RowOk K H r) : RowOk K H1 r := by
  obtain ⟨a, i, m, z, ns, h0, hi, hs⟩ := h
  obtain ⟨i', m', z', h1, hi'⟩ := e.rw_ _ _ _ _ _ h0 hi
  exact ⟨a, i', m', z', ns, h1, hi', e.scr hs⟩
theorem Ext.of_same (e : ∀ b o, H b = some o → H1 b = some o) : Ext H H1 := ⟨fun b o h _ => e b o h, fun b a i m z h hi => ⟨i, m, z, e _ _ h, hi⟩, fun b o h => ⟨o, e b o h⟩⟩
theorem Ext.new (h : H p = none) : Ext H (upd H p o) := .of_same fun b u e => by
  rw [upd_ne (ne_of_none e h)]
  exact e
/-- an object that was not there at H may change -/
theorem Ext.mut (e : Ext H H1) (h : H p = none) : Ext H (upd H1 p o) := by
  refine ⟨fun b u hb n => ?_, fun b a i m z hb hi => ?_, fun b u hb => ?_⟩
  · rw [upd_ne (ne_of_none hb h)]
    exact e.st b u hb n
  · rw [upd_ne (ne_of_none hb h)]
    exact e.rw_ b a i m z hb hi
  · rw [upd_ne (ne_of_none hb h)]
    exact e.th b u hb
/-- the row is written -/
theorem Ext.wr {i m z i' m' z' : Int} (h : H r = some (row a i m z)) (hi : 0 ≤ i') : Ext H (upd H r (row a i' m' z')) := by
  refine ⟨fun b u hb n => ?_, fun b a2 i2 m2 z2 hb hi2 => ?_, fun b u hb => ?_⟩
  · by_cases e : b = r
    · subst e
      rw [h] at hb
      cases hb
      exact absurd ⟨a, i, m, z, rfl⟩ n
    · rw [upd_ne e]
      exact hb
  · by_cases e : b = r
    · subst e
      rw [h] at hb
      cases hb
      exact ⟨i', m', z', upd_same, hi⟩
    · rw [upd_ne e]
      exact ⟨i2, m2, z2, hb, hi2⟩
  · by_cases e : b = r
    · subst e
      exact ⟨_, upd_same⟩
    · rw [upd_ne e]
      exact ⟨u, hb⟩
/-- what was not there behind was not there before -/
theorem Ext.free (e : Ext H H1) (h : H1 p = none) : H p = none := by
  cases q : H p with
  | none => rfl
  | some o =>
    obtain ⟨o', h1⟩ := e.th _ _ q
    rw [h] at h1
    cases h1
theorem Ext.lst (e : Ext H H1) (h : H p = some (.lst xs)) (n : ¬ RowSh (.lst xs)) : H1 p = some (.lst xs) := e.st _ _ h n
end
/-- a new tuple, a new list -/
def AlT (xs : List V) (H : Hp) (Q : VK) : Prop := xs.length ≤ sizeLine ∧ ∀ p, H p = none → Q (.ref p) (upd H p (.tup xs))
def AlL (xs : List V) (H : Hp) (Q : VK) : Prop := xs.length ≤ sizeLine ∧ ∀ p, H p = none → Q (.ref p) (upd H p (.lst xs))
/-! ### builtins by name -/
section
variable {X : Cx}
def rAddS : R2 := fun x y H Q => ∃ i j, x = .str i ∧ y = .str j ∧ i.length + j.length ≤ sizeLine ∧ Q (.str (i ++ j)) H
theorem o_addS : OpR X (binaryOp .Add) rAddS := op_add_str
def rSg : R2 := fun x y H Q => ∃ (c : Nat) (z : Str), x = .str ⟨#[c]⟩ ∧ y = .str z ∧ Q (.bl (decide (c ∈ z.cps.toList))) H
def rNotSg : R2 := fun x y H Q => ∃ (c : Nat) (z : Str), x = .str ⟨#[c]⟩ ∧ y = .str z ∧ Q (.bl (!decide (c ∈ z.cps.toList))) H
theorem o_notSg : OpR X (compareOp .NotIn) rNotSg := op_notIn_sign
def rStarts : V → List V → Hp → VK → Prop := fun x xs H Q => ∃ a b, x = .str a ∧ xs = [.str b] ∧ Q (.bl (Txt.startswith a b)) H
theorem m_starts : MtR X "str.startswith" rStarts := mt_startswith
/-- an own class of errors over ValueError, without an __init__ of its own -/
structure ExcC (K : PySem.W.Frag) (mg : Str → Option Value) (x : Str) (C : Addr) : Prop where
  q : PySem.W.excIn K C [.type "ValueError", .type "Exception", .type "BaseException", .type "object"] "ValueError.__new__" = true
  gC : mg x = some (.ref C)
  kC : PySem.W.keepIn K (.ref C) = true
  b : PySem.W.subIn K (.ref C) (.type "BaseException") = some true
  t : PySem.W.typeIn K (.ref C) = some (.type "type")
theorem pmkC {x m : Str} {C : Addr} {j : Nat} {p p2 pos : Pos} (e : ExcC X.K X.mg x C) (hg : Gl X x := by rfl) (hdb : (x == ("__debug__" : Str)) = false := by decide) : PMk X (.Call (.Name x p) [.Constant (.str m) j p2] [] pos) (fun _ H Q => Q (.ref C) none H) :=
  pmk_own PySem.F.excBase_ValueError e.q e.gC e.kC (raises_own e.b e.t) hg hdb
def rLenS (K : PySem.W.Frag) : List V → Hp → VK → Prop := fun xs H Q => ∃ p ys, xs = [.ref p] ∧ (SqL K H p ys ∨ SqT K H p ys) ∧ Q (.int ys.length) H
theorem c_len : CallR X (.builtin "len") (rLenS X.K) := call_len_seq
def rLenT : List V → Hp → VK → Prop := fun xs H Q => ∃ z, xs = [.str z] ∧ z.length ≤ sizeLine ∧ Q (.int z.length) H
theorem c_lenT : CallR X (.builtin "len") rLenT := call_len_str
def rMax2 : List V → Hp → VK → Prop := fun xs H Q => ∃ i j, xs = [.int i, .int j] ∧ Q (.int (if j > i then j else i)) H
theorem c_max2 (hc : X.calm = true) : CallR X (.builtin "max") rMax2 := call_max2 hc
def rMin2 : List V → Hp → VK → Prop := fun xs H Q => ∃ i j, xs = [.int i, .int j] ∧ Q (.int (if j < i then j else i)) H
theorem c_min2 (hc : X.calm = true) : CallR X (.builtin "min") rMin2 := call_min2 hc
def rIntV : List V → Hp → VK → Prop := fun xs H Q => (∃ i, xs = [.int i] ∧ Q (.int i) H) ∨ ∃ k, xs = [.bl k] ∧ Q (.int (if k then 1 else 0)) H
theorem c_intV : CallR X (.type "int") rIntV := call_int1
def rIntS : List V → Hp → VK → Prop := fun xs H Q => ∃ a n, xs = [.str a] ∧ PySem.intText? a = some n ∧ a.length ≤ 640 ∧ Q (.int n) H
theorem c_intS : CallR X (.type "int") rIntS := call_int_str
def rStrI : List V → Hp → VK → Prop := fun xs H Q => ∃ i : Int, xs = [.int i] ∧ i.natAbs.log2 < 1920 ∧ Q (.str (toString i)) H
def rListS (K : PySem.W.Frag) : List V → Hp → VK → Prop := fun xs H Q => ∃ p ys, xs = [.ref p] ∧ (SqL K H p ys ∨ SqT K H p ys) ∧ ∀ l, H l = none → Q (.ref l) (upd H l (.lst ys))
theorem c_listS : CallR X (.type "list") (rListS X.K) := call_list_of
end
/-! ### rules with the written part told -/
section
variable {X : Cx} {K : PySem.W.Frag}
theorem ixL (h : X.K = K) : IxR X (rIxL K) := h ▸ ix_list
theorem ixT (h : X.K = K) : IxR X (rIxT K) := h ▸ ix_tup
theorem ixA (h : X.K = K) : IxR X (rIx K) := h ▸ ix_seq
theorem cLen (h : X.K = K) : CallR X (.builtin "len") (rLenS K) := h ▸ c_len
theorem cIsi (h : X.K = K) : CallR X (.builtin "isinstance") (rIsi K) := h ▸ call_isi
theorem cIsiT (h : X.K = K) : CallR X (.builtin "isinstance") (rIsiT K) := h ▸ call_isiT
theorem oEqD (h : X.K = K) (hu : X.A.units + 64 < cLine) : OpR X (compareOp .Eq) (rEqD K) := h ▸ op_eqD hu
theorem oNeD (h : X.K = K) (hu : X.A.units + 64 < cLine) : OpR X (compareOp .NotEq) (rNeD K) := h ▸ op_neD hu
theorem oIn (h : X.K = K) : OpR X (compareOp .In) (rIn K false) := h ▸ op_in_seq
theorem oNotIn (h : X.K = K) : OpR X (compareOp .NotIn) (rIn K true) := h ▸ op_notIn_seq
theorem cList (h : X.K = K) : CallR X (.type "list") (rListS K) := h ▸ c_listS
theorem slL (h : X.K = K) : SlR X (rSlL K) := h ▸ sl_list
theorem oCatT (h : X.K = K) : OpR X (binaryOp .Add) (rCatA K) := h ▸ op_catA
theorem cSortS (h : X.K = K) : CallR X (.builtin "sorted") (rSortedS K) := h ▸ cr_sortedS
theorem cMax (h : X.K = K) (hc : X.calm = true) : CallR X (.builtin "max") (rMax K) := h ▸ cr_max hc
theorem piL {tg l : Expr} {tl : TE} (h : X.K = K) (hl : PE X l tl) : PI X tg l (iList K tl) := h ▸ pi_list hl
theorem piT {tg l : Expr} {tl : TE} (h : X.K = K) (hl : PE X l tl) : PI X tg l (iTup K tl) := h ▸ pi_tup hl
theorem pFld {e : Expr} {te : TE} {f : Str} {pos : Pos} (h : X.K = K) (he : PE X e te) (hb : attributeBase e f X.env (eval e X.env) = eval e X.env) : PE X (.Attribute e f pos) (tFld K te f) := h ▸ pe_fld he hb
theorem sFldK {e v : Expr} {te tv : TE} {f : Str} {p1 pos : Pos} (h : X.K = K) (he : PE X e te) (hv : PE X v tv) (hs : swapsWith v (some (.Attribute e f p1)) pos.line X.env = pure false) : PS X (.Assign [.Attribute e f p1] v pos) (sFld K te tv f) := h ▸ ps_fld he hv hs
/-- few arguments, none starred -/
def FewA (X : Cx) (e : Expr) (es : List Expr) (cp : Pos) : Prop :=
  ((backTo cp (starEach (e :: es) X.env)).all (fun x => !x.1) &&
    (backToKw cp (keywordEach [] X.env)).all (fun x => x.1.isSome) && decide ((e :: es).length + 0 + 0 < 30)) = true
section
variable {o e : Expr} {es : List Expr} {to : TE} {t : TA} {name : Str} {ap cp : Pos} {T id : String} {r : V → List V → Hp → VK → Prop}
theorem pBm (h : X.K = K) (pa : PlainAttrs T) (slot : Slot T name id) (hty : typeOf (.builtin id) = pure (.type "method_descriptor")) (hm : MtR X id r) (ho : PE X o to) (ha : PA X (e :: es) t)
    (hb : attributeBase o name X.env (eval o X.env) = eval o X.env := by rfl) (hf : FewA X e es cp := by rfl) (hl : (ap.endLine == cp.line) = true := by rfl)
    (hs : starEach (e :: es) X.env = (false, eval e X.env) :: starEach es X.env := by rfl) (hp : (backTo cp (starEach es X.env)).any (·.1) = false := by rfl) :
    PE X (.Call (.Attribute o name ap) (e :: es) [] cp) (tBM K T r to t) := h ▸ pe_bm pa slot hty hm ho ha hb hf hl hs hp
def rJoin (K : PySem.W.Frag) : V → List V → Hp → VK → Prop := fun x xs H Q => ∃ (a : Str) (p : Addr) (ys : List Str), x = .str a ∧ xs = [.ref p] ∧ (SqL K H p (ys.map V.str) ∨ SqT K H p (ys.map V.str)) ∧
  (ys.map (·.length)).sum + ys.length * a.length ≤ 16777216 ∧ Q (.str (Txt.join a ys)) H
theorem mJoin (h : X.K = K) : MtR X "str.join" (rJoin K) := h ▸ mt_join
end
end
/-! ### readings, step by step (what follows is handed on) -/
section
variable {K : PySem.W.Frag} {σ : St} {H : Hp} {Q : VK} {D : Ends} {v x y : V} {i : Nat} {ta tb tc te : TE} {t u : TT} {ts tu tw : TS} {tr tq : TA} {R : Bool → Hp → Prop} {RA : List V → Hp → Prop} {r : R2} {E : XK}
theorem w_var (h : σ[i]? = some (some v)) (k : Q v H) : tVar i σ H Q := ⟨v, h, k⟩
theorem w_c (k : Q v H) : tC v σ H Q := k
theorem w_op (k : ta σ H fun x H1 => tb σ H1 fun y H2 => r x y H2 Q) : tOp r ta tb σ H Q := k
theorem w_un {r : V → Hp → VK → Prop} (k : ta σ H fun x H1 => r x H1 Q) : tUn r ta σ H Q := k
theorem w_cons (k : te σ H fun x H1 => tr σ H1 fun xs H2 => RA (x :: xs) H2) : tCons te tr σ H RA := k
theorem w_nil (k : RA [] H) : tNil σ H RA := k
theorem w_test (k : te σ H fun x H1 => ∃ b, x = .bl b ∧ R b H1) : tTest te σ H R := k
theorem w_B (k : te σ H fun x H1 => ∃ b, x = .bl b ∧ R b H1) : tB te σ H R := k
theorem w_isbl {b : Bool} {R : Bool → Prop} (k : R b) : ∃ c, V.bl b = .bl c ∧ R c := ⟨b, rfl, k⟩
theorem w_not (k : t σ H fun c H1 => R (!c) H1) : tNot t σ H R := k
theorem w_and (k : t σ H fun c H1 => if c = true then u σ H1 R else R false H1) : tAnd t u σ H R := k
theorem w_or (k : t σ H fun c H1 => if c = true then R true H1 else u σ H1 R) : tOr t u σ H R := k
theorem w_andV (k : ta σ H fun x H1 => ∃ c, x = .bl c ∧ if c = true then tb σ H1 Q else Q (.bl false) H1) : tAndV ta tb σ H Q := k
theorem w_orV (k : ta σ H fun x H1 => ∃ c, x = .bl c ∧ if c = true then Q (.bl true) H1 else tb σ H1 Q) : tOrV ta tb σ H Q := k
theorem w_notV (k : ta σ H fun x H1 => ∃ c, x = .bl c ∧ Q (.bl (!c)) H1) : tNotV ta σ H Q := k
theorem w_if (k : t σ H fun c H1 => if c = true then ta σ H1 Q else tb σ H1 Q) : tIf t ta tb σ H Q := k
theorem w_chain {r' : R2} (k : ta σ H fun x H1 => tb σ H1 fun y H2 => r x y H2 fun z H3 => ∃ k, z = .bl k ∧ (if k = true then tc σ H3 fun w' H4 => r' y w' H4 Q else Q (.bl false) H3)) : tChain r r' ta tb tc σ H Q := k
theorem w_isN (k : ta σ H fun x H1 => Q (.bl (decide (x = .non))) H1) : tIsN ta σ H Q := k
theorem w_notN (k : ta σ H fun x H1 => Q (.bl (!decide (x = .non))) H1) : tNotN ta σ H Q := k
theorem w_yes (k : R true H) : tYes σ H R := k
theorem w_call {sp : Sp} (k : tr σ H fun vs H1 => sp (vs ++ []) H1 Q E) : tCall sp [] E tr σ H Q := k
theorem w_CB {r : List V → Hp → VK → Prop} (k : tr σ H fun vs H1 => r vs H1 Q) : tCB r tr σ H Q := k
theorem w_tup (k : tr σ H fun xs H1 => AlT xs H1 Q) : tTup tr σ H Q := k
theorem w_lst (k : tr σ H fun xs H1 => AlL xs H1 Q) : tLst tr σ H Q := k
theorem w_alT {xs : List V} (hl : xs.length ≤ 100000) (k : ∀ p H', H p = none → Ext H H' → H' p = some (.tup xs) → Q (.ref p) H') : AlT xs H Q := ⟨Nat.le_trans hl (by decide), fun p hp => k p _ hp (Ext.new hp) upd_same⟩
theorem w_alL {xs : List V} (hl : xs.length ≤ 100000) (k : ∀ p H', H p = none → Ext H H' → H' p = some (.lst xs) → Q (.ref p) H') : AlL xs H Q := ⟨Nat.le_trans hl (by decide), fun p hp => k p _ hp (Ext.new hp) upd_same⟩
theorem w_sl {r : V → Option Int → Option Int → Hp → VK → Prop} {tl th : TO} (k : te σ H fun x H1 => tl σ H1 fun l H2 => th σ H2 fun u H3 => r x l u H3 Q) : tSl r te tl th σ H Q := k
theorem w_noPart {RO : Option Int → Hp → Prop} (k : RO none H) : tNoPart σ H RO := k
theorem w_part {RO : Option Int → Hp → Prop} (k : te σ H fun x H1 => ∃ i, x = .int i ∧ RO (some i) H1) : tPart te σ H RO := k
theorem w_isint {RO : Int → Prop} {j : Int} (k : RO j) : ∃ i, V.int j = .int i ∧ RO i := ⟨j, rfl, k⟩
-- statements
theorem w_seq (k : ts { D with nx := tu D } σ H) : tSeq ts tu D σ H := k
theorem w_asg {g : TG} (k : te σ H fun x H1 => g x σ H1 D.nx) : tAsg te g D σ H := k
theorem w_gname {S : St → Hp → Prop} (k : S (σ.set i (some v)) H) : gName i v σ H S := k
theorem w_ret (k : te σ H D.rt) : tRet te D σ H := k
theorem w_retN (k : D.rt .non H) : tRetN D σ H := k
theorem w_drop (k : te σ H fun _ H1 => D.nx σ H1) : tDrop te D σ H := k
theorem w_ifS (k : t σ H fun b H1 => if b = true then tu D σ H1 else tw D σ H1) : tIfS t tu tw D σ H := k
theorem w_next (k : D.nx σ H) : tNext D σ H := k
theorem w_break (k : D.bk σ H) : tBreak D σ H := k
theorem w_cont (k : D.ct σ H) : tCont D σ H := k
-- ints
theorem w_I0 {g : Int → Int → V} {a b : Int} (k : Q (g a b) H) : rI0 g (.int a) (.int b) H Q := ⟨a, b, rfl, rfl, k⟩
theorem w_I {Cc : Int → Int → Prop} {g : Int → Int → V} {a b : Int} (hc : Cc a b) (k : Q (g a b) H) : rI Cc g (.int a) (.int b) H Q := ⟨a, b, rfl, rfl, hc, k⟩
theorem w_eqI {a b : Int} (k : Q (.bl (decide (a = b))) H) : rEq (.int a) (.int b) H Q := ⟨rfl, by
  have e : decide (V.int a = V.int b) = decide (a = b) := by simp
  rw [e]; exact k⟩
theorem w_neI {a b : Int} (k : Q (.bl (!decide (a = b))) H) : rNe (.int a) (.int b) H Q := ⟨rfl, by
  have e : decide (V.int a = V.int b) = decide (a = b) := by simp
  rw [e]; exact k⟩
theorem w_eqS {a b : Str} (k : Q (.bl (decide (a = b))) H) : rEq (.str a) (.str b) H Q := ⟨rfl, by
  have e : decide (V.str a = V.str b) = decide (a = b) := by simp
  rw [e]; exact k⟩
theorem w_neS {a b : Str} (k : Q (.bl (!decide (a = b))) H) : rNe (.str a) (.str b) H Q := ⟨rfl, by
  have e : decide (V.str a = V.str b) = decide (a = b) := by simp
  rw [e]; exact k⟩
theorem w_eqB {a b : Bool} (k : Q (.bl (decide (a = b))) H) : rEq (.bl a) (.bl b) H Q := ⟨rfl, by
  have e : decide (V.bl a = V.bl b) = decide (a = b) := by simp
  rw [e]; exact k⟩
theorem w_neB {a b : Bool} (k : Q (.bl (!decide (a = b))) H) : rNe (.bl a) (.bl b) H Q := ⟨rfl, by
  have e : decide (V.bl a = V.bl b) = decide (a = b) := by simp
  rw [e]; exact k⟩
theorem w_ixAL {p : Addr} {xs : List V} {j : Int} (h : SqL K H p xs) (ha : atI xs j = some v) (k : Q v H) : rIx K (.ref p) (.int j) H Q := .inl ⟨p, xs, j, v, rfl, rfl, h, ha, k⟩
theorem w_ixAT {p : Addr} {xs : List V} {j : Int} (h : SqT K H p xs) (ha : atI xs j = some v) (k : Q v H) : rIx K (.ref p) (.int j) H Q := .inr (.inl ⟨p, xs, j, v, rfl, rfl, h, ha, k⟩)
-- items
theorem w_ixL {p : Addr} {xs : List V} {j : Int} (h : SqL K H p xs) (ha : atI xs j = some v) (k : Q v H) : rIxL K (.ref p) (.int j) H Q := ⟨p, xs, j, v, rfl, rfl, h, ha, k⟩
theorem w_ixT {p : Addr} {xs : List V} {j : Int} (h : SqT K H p xs) (ha : atI xs j = some v) (k : Q v H) : rIxT K (.ref p) (.int j) H Q := ⟨p, xs, j, v, rfl, rfl, h, ha, k⟩
theorem w_ixS {z : Str} {j : Int} {c : Nat} (h : z.length ≤ 100000) (ha : atI z.cps.toList j = some c) (k : Q (.str ⟨#[c]⟩) H) : rIxS (.str z) (.int j) H Q := ⟨z, j, c, rfl, rfl, Nat.le_trans h (by decide), ha, k⟩
theorem w_gSub {ti to : TE} {S : St → Hp → Prop} (k : to σ H fun o H1 => ti σ H1 fun i H2 => rSetL o i v H2 (fun H3 => S σ H3)) : gSub to ti rSetL v σ H S := k
section
variable {r a : Addr} {i m z j : Int} {S : Hp → Prop}
theorem w_row1 (h : H r = some (row a i m z)) (hj : 0 ≤ j) (k : ∀ H', H' r = some (row a j m z) → Ext H H' → S H') : rSetL (.ref r) (.int 1) (.int j) H S :=
  ⟨r, _, 1, 1, rfl, rfl, h, rfl, k (upd H r (row a j m z)) upd_same (Ext.wr h hj)⟩
theorem w_row2 (h : H r = some (row a i m z)) (hi : 0 ≤ i) (k : ∀ H', H' r = some (row a i j z) → Ext H H' → S H') : rSetL (.ref r) (.int 2) (.int j) H S :=
  ⟨r, _, 2, 2, rfl, rfl, h, rfl, k (upd H r (row a i j z)) upd_same (Ext.wr h hi)⟩
theorem w_row3 (h : H r = some (row a i m z)) (hi : 0 ≤ i) (k : ∀ H', H' r = some (row a i m j) → Ext H H' → S H') : rSetL (.ref r) (.int 3) (.int j) H S :=
  ⟨r, _, 3, 3, rfl, rfl, h, rfl, k (upd H r (row a i m j)) upd_same (Ext.wr h hi)⟩
end
/-- len of a sequence -/
theorem w_lenL {p : Addr} {xs : List V} (h : SqL K H p xs) (k : Q (.int (xs.length : Int)) H) : rLenS K [.ref p] H Q := ⟨p, xs, rfl, .inl h, k⟩
theorem w_lenT {p : Addr} {xs : List V} (h : SqT K H p xs) (k : Q (.int (xs.length : Int)) H) : rLenS K [.ref p] H Q := ⟨p, xs, rfl, .inr h, k⟩
theorem w_lenS {z : Str} (h : z.length ≤ 100000) (k : Q (.int (z.length : Int)) H) : rLenT [.str z] H Q := ⟨z, rfl, Nat.le_trans h (by decide), k⟩
theorem w_max2 {a b : Int} (k : Q (.int (if b > a then b else a)) H) : rMax2 [.int a, .int b] H Q := ⟨a, b, rfl, k⟩
theorem w_min2 {a b : Int} (k : Q (.int (if b < a then b else a)) H) : rMin2 [.int a, .int b] H Q := ⟨a, b, rfl, k⟩
theorem w_intB {b : Bool} (k : Q (.int (if b then 1 else 0)) H) : rIntV [.bl b] H Q := .inr ⟨b, rfl, k⟩
theorem w_intI {a : Int} (k : Q (.int a) H) : rIntV [.int a] H Q := .inl ⟨a, rfl, k⟩
theorem w_intS {a : Str} {n : Int} (h : PySem.intText? a = some n) (hl : a.length ≤ 640) (k : Q (.int n) H) : rIntS [.str a] H Q := ⟨a, n, rfl, h, hl, k⟩
theorem w_listL {p : Addr} {xs : List V} (h : SqL K H p xs) (k : ∀ l H', H l = none → Ext H H' → H' l = some (.lst xs) → Q (.ref l) H') : rListS K [.ref p] H Q := ⟨p, xs, rfl, .inl h, fun l hl => k l _ hl (Ext.new hl) upd_same⟩
theorem w_addS {a b : Str} (h : a.length + b.length ≤ 100000) (k : Q (.str (a ++ b)) H) : rAddS (.str a) (.str b) H Q := ⟨a, b, rfl, rfl, Nat.le_trans h (by decide), k⟩
theorem w_slS {z : Str} {lo hi : Option Int} (h : z.length ≤ 100000) (k : Q (.str (cutS z lo hi)) H) : rSlS (.str z) lo hi H Q := ⟨z, rfl, Nat.le_trans h (by decide), k⟩
theorem w_slL {p : Addr} {xs : List V} {lo hi : Option Int} (h : SqL K H p xs) (k : ∀ l H', H l = none → Ext H H' → H' l = some (.lst (cutV xs lo hi)) → Q (.ref l) H') : rSlL K (.ref p) lo hi H Q := ⟨p, xs, rfl, h, fun l hl => k l _ hl (Ext.new hl) upd_same⟩
theorem w_cat {p q : Addr} {xs ys : List V} (h : H p = some (.lst xs)) (h2 : H q = some (.lst ys)) (hl : xs.length + ys.length ≤ 100000) (k : ∀ l H', H l = none → Ext H H' → H' l = some (.lst (xs ++ ys)) → Q (.ref l) H') : rCat (.ref p) (.ref q) H Q :=
  ⟨p, q, xs, ys, rfl, rfl, h, h2, Nat.le_trans hl (by decide), fun l hl => k l _ hl (Ext.new hl) upd_same⟩
theorem w_in {neg : Bool} {p : Addr} {xs : List V} (h : SqL K H p xs) (hx : flatV x = true) (hs : xs.all flatV = true) (k : Q (.bl (if neg then !inV x xs else inV x xs)) H) : rIn K neg x (.ref p) H Q := ⟨p, xs, rfl, .inl h, hx, hs, k⟩
theorem w_inT {neg : Bool} {p : Addr} {xs : List V} (h : SqT K H p xs) (hx : flatV x = true) (hs : xs.all flatV = true) (k : Q (.bl (if neg then !inV x xs else inV x xs)) H) : rIn K neg x (.ref p) H Q := ⟨p, xs, rfl, .inr h, hx, hs, k⟩
/-- xs.append(e) as a statement's expression: at the list's object -/
theorem w_bm {T : String} {r : V → List V → Hp → VK → Prop} (k : ta σ H fun x H1 => tyV K T x H1 ∧ tr σ H1 fun xs H2 => r x xs H2 Q) : tBM K T r ta tr σ H Q := k
theorem w_bm0 {T : String} {r : V → List V → Hp → VK → Prop} (k : ta σ H fun x H1 => tyV K T x H1 ∧ r x [] H1 Q) : tBM0 K T r ta σ H Q := k
theorem w_tyL {p : Addr} {xs : List V} {A : Prop} (h : SqL K H p xs) (k : A) : tyV K "list" (.ref p) H ∧ A := ⟨.inl ⟨rfl, xs, h⟩, k⟩
theorem w_append {l : Addr} {xs : List V} (h : H l = some (.lst xs)) (hl : xs.length < 100000) (k : Q .non (upd H l (.lst (xs ++ [v])))) : rAppend (.ref l) [v] H Q := ⟨l, xs, v, rfl, rfl, h, Nat.lt_of_lt_of_le hl (by decide), k⟩
theorem w_m1 {r : V → List V → Hp → VK → Prop} (k : ta σ H fun x H1 => (∃ a, x = .str a) ∧ te σ H1 fun y H2 => r x [y] H2 Q) : tM1 r ta te σ H Q := k
theorem w_m0 {r : V → List V → Hp → VK → Prop} (k : ta σ H fun x H1 => (∃ a, x = .str a) ∧ r x [] H1 Q) : tM0 r ta σ H Q := k
theorem w_sg {c : Nat} {z : Str} (k : Q (.bl (decide (c ∈ z.cps.toList))) H) : rSg (.str ⟨#[c]⟩) (.str z) H Q := ⟨c, z, rfl, rfl, k⟩
theorem w_notSg {c : Nat} {z : Str} (k : Q (.bl (!decide (c ∈ z.cps.toList))) H) : rNotSg (.str ⟨#[c]⟩) (.str z) H Q := ⟨c, z, rfl, rfl, k⟩
theorem w_starts {a b : Str} (k : Q (.bl (Txt.startswith a b)) H) : rStarts (.str a) [.str b] H Q := ⟨a, b, rfl, rfl, k⟩
theorem w_isstr {z : Str} {A : Prop} (k : A) : (∃ a, V.str z = .str a) ∧ A := ⟨⟨z, rfl⟩, k⟩
/-- a test whose answer is known -/
theorem w_iteT {A B : Prop} {b : Bool} (hb : b = true) (h : A) : if b = true then A else B := by rw [if_pos hb]; exact h
theorem w_iteF {A B : Prop} {b : Bool} (hb : b = false) (h : B) : if b = true then A else B := by rw [hb, if_neg Bool.false_ne_true]; exact h
theorem w_iteD {A B : Prop} {c : Prop} [Decidable c] (h1 : c → A) (h2 : ¬ c → B) : if decide c = true then A else B := by
  by_cases h : c
  · rw [decide_eq_true h, if_pos rfl]; exact h1 h
  · rw [decide_eq_false h, if_neg Bool.false_ne_true]; exact h2 h
theorem w_iteN {A B : Prop} {c : Prop} [Decidable c] (h1 : ¬ c → A) (h2 : c → B) : if (!decide c) = true then A else B := by
  by_cases h : c
  · rw [decide_eq_true h]; exact h2 h
  · rw [decide_eq_false h]; exact h1 h
theorem w_iteB {A B : Prop} {b : Bool} (h1 : b = true → A) (h2 : b = false → B) : if b = true then A else B := by
  cases b with
  | true => rw [if_pos rfl]; exact h1 rfl
  | false => rw [if_neg Bool.false_ne_true]; exact h2 rfl
end
/-! ### loops -/
def ForB (J : It) (g : TG) (tb : TS) (D : Ends) (σ : St) (H1 : Hp) : Prop := ∃ W : Nat → Nat → St → Hp → Prop, (∃ m, W 0 m σ H1) ∧ ∀ i m σ H, W i m σ H →
  (J.stop i H ∧ D.nx σ H) ∨ (J.go i H ∧ ∃ N : St → Hp → Prop, (∀ σ' H', N σ' H' → ∃ m', m' < m ∧ W (i + 1) m' σ' H') ∧ ∀ x H', J.yld i H x H' → g x σ H' fun σ2 H2 => tb { D with nx := N, ct := N, bk := D.nx } σ2 H2)
def LcB (J : It) (g : TG) (tt : TT) (te : TE) (vs : List Nat) (σ : St) (H1 : Hp) (Q : VK) : Prop := ∀ D, H1 D = none → ∃ W : Nat → Nat → Hp → Prop, (∃ m, W 0 m (upd H1 D (.lst []))) ∧ ∀ i m H, W i m H →
  (J.stop i H ∧ Q (.ref D) H) ∨ (J.go i H ∧ ∃ Nx : Hp → Prop, (∀ H', Nx H' → ∃ m', m' < m ∧ W (i + 1) m' H') ∧ ∀ x H', J.yld i H x H' → g x (wipe σ vs) H' fun σ2 H2 => wipe σ2 vs = wipe σ vs ∧ tt σ2 H2 fun b H3 =>
    if b = true then te σ2 H3 fun y H4 => ∃ acc, H4 D = some (.lst acc) ∧ acc.length < sizeLine ∧ Nx (upd H4 D (.lst (acc ++ [y]))) else Nx H3)
def RngOk (vs : List V) (H : Hp) (R : It → Hp → Prop) : Prop := ∃ j : Int, vs = [.int j] ∧ -(2 ^ 62) ≤ j ∧ j < 2 ^ 62 ∧ R (Itr 0 j.toNat) H
def RngOk2 (vs : List V) (H : Hp) (R : It → Hp → Prop) : Prop := ∃ i j : Int, vs = [.int i, .int j] ∧ (-(2 ^ 62) ≤ i ∧ i < 2 ^ 62 ∧ -(2 ^ 62) ≤ j ∧ j < 2 ^ 62) ∧ R (Itr i (j - i).toNat) H
def LstOk (K : PySem.W.Frag) (x : V) (H : Hp) (R : It → Hp → Prop) : Prop := ∃ a, x = .ref a ∧ (∃ xs, SqL K H a xs) ∧ R (Itl K a) H
def TupOk (K : PySem.W.Frag) (x : V) (H : Hp) (R : It → Hp → Prop) : Prop := ∃ a, x = .ref a ∧ (∃ xs, SqT K H a xs) ∧ R (Itt K a) H
def StrOk (v : V) (H : Hp) (R : It → Hp → Prop) : Prop := ∃ x, v = .str x ∧ R (Its x) H
section
variable {K : PySem.W.Frag} {σ : St} {H : Hp} {Q : VK} {D : Ends} {te : TE} {ta : TA} {wi : TI} {g : TG} {tb : TS} {tt : TT} {vs : List Nat} {R : It → Hp → Prop} {j : Nat}
theorem w_for (k : wi σ H fun J H1 => ForB J g tb D σ H1) : tFor wi g tb D σ H := k
theorem w_lc (k : wi σ H fun J H1 => LcB J g tt te vs σ H1 Q) : tLc wi g tt te vs σ H Q := k
theorem w_rng (k : ta σ H fun vs H1 => RngOk vs H1 R) : iRng1 ta σ H R := k
theorem w_rng2 (k : ta σ H fun vs H1 => RngOk2 vs H1 R) : iRng2 ta σ H R := k
theorem w_ilist (k : te σ H fun x H1 => LstOk K x H1 R) : iList K te σ H R := k
theorem w_itup (k : te σ H fun x H1 => TupOk K x H1 R) : iTup K te σ H R := k
theorem w_istr (k : te σ H fun x H1 => StrOk x H1 R) : iStr te σ H R := k
theorem w_rngOk {n : Int} (h : -100000 ≤ n) (h2 : n ≤ 100000) (k : R (Itr 0 n.toNat) H) : RngOk [.int n] H R := ⟨n, rfl, by omega, by omega, k⟩
theorem w_rngOk2 {lo n : Int} (h : -100000 ≤ lo ∧ lo ≤ 100000) (h2 : -100000 ≤ n ∧ n ≤ 100000) (k : R (Itr lo (n - lo).toNat) H) : RngOk2 [.int lo, .int n] H R := ⟨lo, n, rfl, by omega, k⟩
theorem w_lstOk {a : Addr} {xs : List V} (h : SqL K H a xs) (k : R (Itl K a) H) : LstOk K (.ref a) H R := ⟨a, rfl, ⟨xs, h⟩, k⟩
theorem w_tupOk {a : Addr} {xs : List V} (h : SqT K H a xs) (k : R (Itt K a) H) : TupOk K (.ref a) H R := ⟨a, rfl, ⟨xs, h⟩, k⟩
theorem w_strOk {x : Str} (k : R (Its x) H) : StrOk (.str x) H R := ⟨x, rfl, k⟩
/-- for: what a turn asks -/
theorem forG {J : It} {n : Nat} {Y : Nat → V → Prop} (Pv : Nat → St → Hp → Prop) (src : ∀ i σ H, i ≤ n → Pv i σ H → (i < n → J.go i H ∧ ∀ x H', J.yld i H x H' → H' = H ∧ Y i x) ∧ (i = n → J.stop i H)) (h0 : Pv 0 σ H)
    (hs : ∀ i x σ' H' (N : St → Hp → Prop), i < n → Y i x → Pv i σ' H' → (∀ σ2 H2, Pv (i + 1) σ2 H2 → N σ2 H2) → g x σ' H' fun σ2 H2 => tb { D with nx := N, ct := N, bk := D.nx } σ2 H2) (hd : ∀ σ' H', Pv n σ' H' → D.nx σ' H') : ForB J g tb D σ H := by
  refine ⟨fun i m σ' H' => m = n - i ∧ i ≤ n ∧ Pv i σ' H', ⟨n, by simp, Nat.zero_le _, h0⟩, ?_⟩
  rintro i m σ' H' ⟨rfl, hi, p⟩
  obtain ⟨s1, s2⟩ := src i σ' H' hi p
  by_cases hlt : i < n
  · obtain ⟨go, hy⟩ := s1 hlt
    refine .inr ⟨go, Pv (i + 1), fun σ2 H2 p2 => ⟨n - (i + 1), by omega, rfl, hlt, p2⟩, fun x H2 y => ?_⟩
    obtain ⟨e, y2⟩ := hy x H2 y
    subst e
    exact hs i x σ' _ _ hlt y2 p fun _ _ h => h
  · have e : i = n := by omega
    exact .inl ⟨s2 e, hd σ' H' (e ▸ p)⟩
theorem forR {lo : Int} {n : Nat} (Pv : Nat → St → Hp → Prop) (h0 : Pv 0 σ H)
    (hs : ∀ i σ' H' (N : St → Hp → Prop), i < n → Pv i σ' H' → (∀ σ2 H2, Pv (i + 1) σ2 H2 → N σ2 H2) → tb { D with nx := N, ct := N, bk := D.nx } (σ'.set j (some (.int (lo + (i : Int))))) H') (hd : ∀ σ' H', Pv n σ' H' → D.nx σ' H') :
    ForB (Itr lo n) (gName j) tb D σ H :=
  forG (n := n) (Y := fun i x => x = .int (lo + (i : Int))) Pv (fun i σ H hi p => ⟨fun h => ⟨h, fun x H' y => y⟩, fun e => by rw [e]; exact Nat.le_refl n⟩) h0 (fun i x σ' H' N hi y p k => by subst y; exact hs i σ' H' N hi p k) hd
theorem forLg {a : Addr} {xs : List V} (Pv : Nat → St → Hp → Prop) (hl : ∀ i σ H, Pv i σ H → SqL K H a xs) (h0 : Pv 0 σ H)
    (hs : ∀ i x σ' H' (N : St → Hp → Prop), xs[i]? = some x → Pv i σ' H' → (∀ σ2 H2, Pv (i + 1) σ2 H2 → N σ2 H2) → g x σ' H' fun σ2 H2 => tb { D with nx := N, ct := N, bk := D.nx } σ2 H2) (hd : ∀ σ' H', Pv xs.length σ' H' → D.nx σ' H') :
    ForB (Itl K a) g tb D σ H :=
  forG (n := xs.length) (Y := fun i x => xs[i]? = some x) Pv (fun i σ H hi p => ⟨fun h => ⟨⟨xs, xs[i], hl i σ H p, by simp [h]⟩, fun x H' ⟨e, y⟩ => ⟨e, y xs (hl i σ H p)⟩⟩, fun e => ⟨xs, hl i σ H p, by omega⟩⟩) h0 (fun i x σ' H' N hi y p k => hs i x σ' H' N y p k) hd
theorem forL {a : Addr} {xs : List V} (Pv : Nat → St → Hp → Prop) (hl : ∀ i σ H, Pv i σ H → SqL K H a xs) (h0 : Pv 0 σ H)
    (hs : ∀ i x σ' H' (N : St → Hp → Prop), xs[i]? = some x → Pv i σ' H' → (∀ σ2 H2, Pv (i + 1) σ2 H2 → N σ2 H2) → tb { D with nx := N, ct := N, bk := D.nx } (σ'.set j (some x)) H') (hd : ∀ σ' H', Pv xs.length σ' H' → D.nx σ' H') :
    ForB (Itl K a) (gName j) tb D σ H := forLg Pv hl h0 hs hd
theorem forTg {a : Addr} {xs : List V} (Pv : Nat → St → Hp → Prop) (hl : ∀ i σ H, Pv i σ H → SqT K H a xs) (h0 : Pv 0 σ H)
    (hs : ∀ i x σ' H' (N : St → Hp → Prop), xs[i]? = some x → Pv i σ' H' → (∀ σ2 H2, Pv (i + 1) σ2 H2 → N σ2 H2) → g x σ' H' fun σ2 H2 => tb { D with nx := N, ct := N, bk := D.nx } σ2 H2) (hd : ∀ σ' H', Pv xs.length σ' H' → D.nx σ' H') :
    ForB (Itt K a) g tb D σ H :=
  forG (n := xs.length) (Y := fun i x => xs[i]? = some x) Pv (fun i σ H hi p => ⟨fun h => ⟨⟨xs, xs[i], hl i σ H p, by simp [h]⟩, fun x H' ⟨e, y⟩ => ⟨e, y xs (hl i σ H p)⟩⟩, fun e => ⟨xs, hl i σ H p, by omega⟩⟩) h0 (fun i x σ' H' N hi y p k => hs i x σ' H' N y p k) hd
/-- what a comprehension walks, as long as all but rows stands -/
def Src (J : It) (n : Nat) (Y : Nat → V → Prop) (H : Hp) : Prop := ∀ H', Ext H H' → (∀ i, i < n → J.go i H' ∧ ∀ x H2, J.yld i H' x H2 → H2 = H' ∧ Y i x) ∧ J.stop n H'
theorem src_rng {lo : Int} {n : Nat} : Src (Itr lo n) n (fun i x => x = .int (lo + (i : Int))) H := fun H' _ => ⟨fun i h => ⟨h, fun x H2 y => y⟩, Nat.le_refl n⟩
theorem src_lst {a : Addr} {xs : List V} (h : SqL K H a xs) (n : ¬ RowSh (.lst xs)) : Src (Itl K a) xs.length (fun i x => xs[i]? = some x) H := fun H' e =>
  ⟨fun i h1 => ⟨⟨xs, xs[i], e.seq n h, by simp [h1]⟩, fun x H2 ⟨e2, y⟩ => ⟨e2, y xs (e.seq n h)⟩⟩, ⟨xs, e.seq n h, Nat.le_refl _⟩⟩
theorem src_tup {a : Addr} {xs : List V} (h : SqT K H a xs) : Src (Itt K a) xs.length (fun i x => xs[i]? = some x) H := fun H' e =>
  ⟨fun i h1 => ⟨⟨xs, xs[i], e.tup h, by simp [h1]⟩, fun x H2 ⟨e2, y⟩ => ⟨e2, y xs (e.tup h)⟩⟩, ⟨xs, e.tup h, Nat.le_refl _⟩⟩
theorem src_str {z : Str} : Src (Its z) z.length (fun i x => ∃ c, z.cps.toList[i]? = some c ∧ x = .str ⟨#[c]⟩) H := fun H' e =>
  ⟨fun i h1 => ⟨h1, fun x H2 ⟨e2, c, y, ex⟩ => ⟨e2, c, by simpa using y, ex⟩⟩, Nat.le_refl _⟩
/-- a comprehension with a test; r: what holds of the place and what is made so far -/
theorem lcG {J : It} {n : Nat} {Y : Nat → V → Prop} (src : Src J n Y H) (r : Nat → List V → Prop) (h0 : r 0 []) (hn : ∀ i acc, r i acc → ¬ RowSh (.lst acc)) (hz : n ≤ 100000)
    (hs : ∀ i x acc H' (NT : Bool → Hp → Prop) (NE : VK), i < n → Y i x → r i acc → Ext H H' → (∀ H2, Ext H' H2 → r (i + 1) acc → NT false H2) →
      (∀ y H2, Ext H' H2 → r (i + 1) (acc ++ [y]) → NE y H2) → g x (wipe σ vs) H' fun σ2 H2 => wipe σ2 vs = wipe σ vs ∧ tt σ2 H2 fun b H3 => if b = true then te σ2 H3 NE else NT false H3)
    (hd : ∀ p acc H', r n acc → H p = none → Ext H H' → H' p = some (.lst acc) → acc.length ≤ n → Q (.ref p) H') : LcB J g tt te vs σ H Q := by
  intro D hD
  refine ⟨fun i m H' => m = n - i ∧ i ≤ n ∧ ∃ acc, r i acc ∧ acc.length ≤ i ∧ Ext H H' ∧ H' D = some (.lst acc), ⟨n, by simp, Nat.zero_le _, [], h0, Nat.le_refl _, Ext.new hD, upd_same⟩, ?_⟩
  rintro i m H' ⟨rfl, hi, acc, ha, hl, e, hDa⟩
  obtain ⟨s1, s2⟩ := src H' e
  by_cases hlt : i < n
  · obtain ⟨go, hy⟩ := s1 i hlt
    refine .inr ⟨go, fun H2 => i + 1 ≤ n ∧ ∃ acc, r (i + 1) acc ∧ acc.length ≤ i + 1 ∧ Ext H H2 ∧ H2 D = some (.lst acc), fun H2 ⟨a, b⟩ => ⟨n - (i + 1), by omega, rfl, a, b⟩, fun x H2 y => ?_⟩
    obtain ⟨e2, y2⟩ := hy x H2 y
    subst e2
    refine hs i x acc _ (fun b H3 => i + 1 ≤ n ∧ ∃ acc, r (i + 1) acc ∧ acc.length ≤ i + 1 ∧ Ext H H3 ∧ H3 D = some (.lst acc)) _ hlt y2 ha e (fun H3 e3 h3 => ⟨hlt, acc, h3, by omega, e.trans e3, e3.st _ _ hDa (hn _ _ ha)⟩) fun v H3 e3 h3 =>
      ⟨acc, e3.st _ _ hDa (hn _ _ ha), Nat.lt_of_lt_of_le (Nat.lt_of_le_of_lt (Nat.le_trans hl (Nat.le_trans hi hz)) (by decide : 100000 < 16777216)) (by decide), hlt, _, h3, by simp; omega, (e.trans e3).mut hD, upd_same⟩
  · have e1 : i = n := by omega
    subst e1
    exact .inl ⟨s2, hd D acc H' ha hD e hDa hl⟩
/-- .. the target a name, no test -/
theorem lcN {J : It} {n : Nat} {Y : Nat → V → Prop} (src : Src J n Y H) (r : Nat → List V → Prop) (h0 : r 0 []) (hn : ∀ i acc, r i acc → ¬ RowSh (.lst acc)) (hz : n ≤ 100000) (hw : ∀ x, wipe ((wipe σ vs).set j (some x)) vs = wipe σ vs)
    (hs : ∀ i x acc H' (NE : VK), i < n → Y i x → r i acc → Ext H H' → (∀ y H2, Ext H' H2 → r (i + 1) (acc ++ [y]) → NE y H2) → te ((wipe σ vs).set j (some x)) H' NE)
    (hd : ∀ p acc H', r n acc → H p = none → Ext H H' → H' p = some (.lst acc) → acc.length ≤ n → Q (.ref p) H') : LcB J (gName j) tYes te vs σ H Q :=
  lcG src r h0 hn hz (fun i x acc H' NT NE hi y ha e _ kE => ⟨hw x, by
    show (if true = true then te ((wipe σ vs).set j (some x)) H' NE else NT false H')
    rw [if_pos rfl]
    exact hs i x acc H' NE hi y ha e kE⟩) hd
/-- .. the target a name, a test -/
theorem lcF {J : It} {n : Nat} {Y : Nat → V → Prop} (src : Src J n Y H) (r : Nat → List V → Prop) (h0 : r 0 []) (hn : ∀ i acc, r i acc → ¬ RowSh (.lst acc)) (hz : n ≤ 100000) (hw : ∀ x, wipe ((wipe σ vs).set j (some x)) vs = wipe σ vs)
    (hs : ∀ i x acc H' (NF : Hp → Prop) (NE : VK), i < n → Y i x → r i acc → Ext H H' → (∀ H2, Ext H' H2 → r (i + 1) acc → NF H2) → (∀ y H2, Ext H' H2 → r (i + 1) (acc ++ [y]) → NE y H2) →
      tt ((wipe σ vs).set j (some x)) H' fun b H3 => if b = true then te ((wipe σ vs).set j (some x)) H3 NE else NF H3)
    (hd : ∀ p acc H', r n acc → H p = none → Ext H H' → H' p = some (.lst acc) → acc.length ≤ n → Q (.ref p) H') : LcB J (gName j) tt te vs σ H Q :=
  lcG src r h0 hn hz (fun i x acc H' NT NE hi y ha e kF kE => ⟨hw x, hs i x acc H' (NT false) NE hi y ha e kF kE⟩) hd
end
end Lw
end

section
/-! texts of the signs 0 and 1 -/
namespace Lw
open PySem L2
def bc (b : Bool) : Nat := if b then 49 else 48
def B (l : List Bool) : Str := ⟨(l.map bc).toArray⟩
theorem bc_inj {a b : Bool} (h : bc a = bc b) : a = b := by cases a <;> cases b <;> first | rfl | (exact absurd h (by decide))
theorem B_list (l : List Bool) : (B l).cps.toList = l.map bc := by simp [B]
theorem B_len (l : List Bool) : (B l).length = l.length := by simp [B, Str.length]
theorem str_ext {a b : Str} (h : a.cps.toList = b.cps.toList) : a = b := by
  cases a; cases b
  simpa using h
theorem map_bc_inj : ∀ {a b : List Bool}, a.map bc = b.map bc → a = b
  | [], [], _ => rfl
  | [], _ :: _, h => by simp at h
  | _ :: _, [], h => by simp at h
  | x :: a, y :: b, h => by
    simp only [List.map_cons, List.cons.injEq] at h
    rw [bc_inj h.1, map_bc_inj h.2]
theorem B_inj {a b : List Bool} (h : B a = B b) : a = b := by
  have e := congrArg (fun s : Str => s.cps.toList) h
  simp only [B_list] at e
  exact map_bc_inj e
theorem B_eq {a b : List Bool} : (B a = B b) ↔ a = b := ⟨B_inj, fun h => by rw [h]⟩
theorem B_app (a b : List Bool) : B a ++ B b = B (a ++ b) := by
  apply str_ext
  show ((B a).cps ++ (B b).cps).toList = _
  rw [Array.toList_append, B_list, B_list, B_list, List.map_append]
theorem B_nil : (Str.ofString "" : Str) = B [] := by decide +kernel
theorem B_0 : (Str.ofString "0" : Str) = B [false] := by decide +kernel
theorem B_1 : (Str.ofString "1" : Str) = B [true] := by decide +kernel
theorem B_01 : (Str.ofString "01" : Str) = B [false, true] := by decide +kernel
theorem B_10 : (Str.ofString "10" : Str) = B [true, false] := by decide +kernel
theorem B_one (b : Bool) : (⟨#[bc b]⟩ : Str) = B [b] := rfl
theorem B_at {l : List Bool} {i : Int} {b : Bool} (h : atI l i = some b) : atI (B l).cps.toList i = some (bc b) := by
  unfold atI at h ⊢
  rw [B_list, List.length_map]
  cases e : ixN l.length i with
  | none => rw [e] at h; cases h
  | some j =>
    rw [e] at h
    show (l.map bc)[j]? = some (bc b)
    have h' : l[j]? = some b := h
    rw [List.getElem?_map, h']
    rfl
theorem atI_k {α : Type} {l : List α} {j : Nat} {b : α} (h : l[j]? = some b) : atI l (j : Int) = some b := by
  have hj := (List.getElem?_eq_some_iff.mp h).1
  unfold atI ixN
  rw [if_pos (by omega), if_pos (by omega)]
  simpa using h
theorem atI_int {α : Type} {l : List α} {i : Int} {b : α} (h0 : 0 ≤ i) (h : l[i.toNat]? = some b) : atI l i = some b := by
  have e : i = (i.toNat : Int) := by omega
  rw [e]
  exact atI_k h
/-- a place within bounds -/
theorem atI_in {α : Type} (l : List α) {i : Int} (h0 : 0 ≤ i) (h1 : i < l.length) : ∃ b, atI l i = some b ∧ l[i.toNat]? = some b := by
  have hj : i.toNat < l.length := by omega
  exact ⟨l[i.toNat], atI_int h0 (List.getElem?_eq_getElem hj), List.getElem?_eq_getElem hj⟩
theorem cutS_B (l : List Bool) (lo hi : Option Int) : cutS (B l) lo hi = B ((l.drop (HT.sIx l.length 0 lo)).take (HT.sIx l.length l.length hi - HT.sIx l.length 0 lo)) := by
  apply str_ext
  unfold cutS
  rw [B_len, B_list, B_list]
  simp [List.map_take, List.map_drop]
/-- s[:k] -/
theorem cutS_to (l : List Bool) (k : Nat) : cutS (B l) none (some (k : Int)) = B (l.take k) := by
  rw [cutS_B, HT.sIx_none, HT.sIx_nat, List.drop_zero, Nat.sub_zero]
  congr 1
  by_cases h : k ≤ l.length
  · rw [Nat.min_eq_left h]
  · rw [Nat.min_eq_right (by omega), List.take_of_length_le (Nat.le_refl _), List.take_of_length_le (by omega)]
/-- s[k:] -/
theorem cutS_from (l : List Bool) (k : Nat) : cutS (B l) (some (k : Int)) none = B (l.drop k) := by
  rw [cutS_B, HT.sIx_none, HT.sIx_nat]
  congr 1
  by_cases h : k ≤ l.length
  · rw [Nat.min_eq_left h, List.take_of_length_le (by rw [List.length_drop]; exact Nat.le_refl _)]
  · rw [Nat.min_eq_right (by omega), Nat.sub_self, List.take_zero, List.drop_of_length_le (by omega)]
theorem starts_B (l p : List Bool) : Txt.startswith (B l) (B p) = decide (p <+: l) := by
  unfold Txt.startswith Builtin.Str.subAt
  rw [B_len, B_len]
  have e : (B l).cps.extract 0 (0 + p.length) = ((l.take p.length).map bc).toArray := by
    simp [B, List.map_take]
  rw [e]
  have e2 : (((l.take p.length).map bc).toArray == (B p).cps) = decide (l.take p.length = p) := by
    show (((l.take p.length).map bc).toArray == (p.map bc).toArray) = _
    by_cases h : l.take p.length = p
    · rw [h, decide_eq_true rfl]
      exact beq_self_eq_true _
    · rw [decide_eq_false h]
      apply beq_eq_false_iff_ne.mpr
      intro q
      apply h
      apply map_bc_inj
      simpa using q
  rw [e2]
  by_cases h : p <+: l
  · rw [decide_eq_true h, decide_eq_true (List.prefix_iff_eq_take.mp h).symm]
    have := h.length_le
    simp
    omega
  · rw [decide_eq_false h]
    by_cases h2 : l.take p.length = p
    · exact absurd (by rw [← h2]; exact List.take_prefix _ _) h
    · rw [decide_eq_false h2, Bool.and_false]
/-- the list of texts -/
def bv (l : List Bool) : V := .str (B l)
def bvs (ls : List (List Bool)) : List V := ls.map bv
theorem bvs_strs (ls : List (List Bool)) : bvs ls = (ls.map B).map V.str := by simp [bvs, bv]
theorem bvs_len (ls : List (List Bool)) : (bvs ls).length = ls.length := by simp [bvs]
theorem bvs_get {ls : List (List Bool)} {i : Nat} {v : V} (h : (bvs ls)[i]? = some v) : ∃ l, ls[i]? = some l ∧ v = .str (B l) := by
  unfold bvs at h
  rw [List.getElem?_map] at h
  cases e : ls[i]? with
  | none => rw [e] at h; cases h
  | some l => rw [e] at h; exact ⟨l, rfl, (Option.some.inj h).symm⟩
theorem bvs_at {ls : List (List Bool)} {i : Nat} {l : List Bool} (h : ls[i]? = some l) : (bvs ls)[i]? = some (.str (B l)) := by
  unfold bvs
  rw [List.getElem?_map, h]
  rfl
theorem bvs_flat (ls : List (List Bool)) : (bvs ls).all flatV = true := by
  simp [bvs, bv, flatV]
theorem inV_bvs (l : List Bool) (ls : List (List Bool)) : inV (.str (B l)) (bvs ls) = decide (l ∈ ls) := by
  unfold inV bvs
  rw [List.any_map]
  by_cases h : l ∈ ls
  · rw [decide_eq_true h]
    apply List.any_eq_true.mpr
    exact ⟨l, h, by simp [bv, eqV]⟩
  · rw [decide_eq_false h]
    apply List.any_eq_false.mpr
    intro x hx
    simp only [Function.comp, bv, eqV]
    intro q
    have := B_inj (by simpa using q)
    exact h (this ▸ hx)
theorem toList_foldl_app (ps : List Str) (a : Array Nat) : (ps.foldl (fun acc p => acc ++ (B []).cps ++ p.cps) a).toList = a.toList ++ (ps.map fun p => p.cps.toList).flatten := by
  induction ps generalizing a with
  | nil => simp
  | cons p ps ih =>
    rw [List.foldl_cons, ih]
    simp [B]
theorem join_B (ls : List (List Bool)) : Txt.join (B []) (ls.map B) = B ls.flatten := by
  apply str_ext
  cases ls with
  | nil => simp [Txt.join, Builtin.Str.glued, B, Str.empty]
  | cons l ls =>
    show ((ls.map B).foldl (fun acc p => acc ++ (B []).cps ++ p.cps) (B l).cps).toList = _
    rw [toList_foldl_app, B_list, B_list]
    simp [B, Function.comp_def, List.map_flatten]
theorem join_signs (bs : List Bool) : Txt.join (B []) ((bs.map fun b => [b]).map B) = B bs := by
  rw [join_B]
  congr 1
  induction bs with
  | nil => rfl
  | cons b bs ih => simp [ih]
/-- joined signs -/
theorem digit_int (b : Bool) : PySem.intText? (B [b]) = some (if b then 1 else 0) := by
  cases b <;> decide +kernel
/-! ### one sign many times -/
def rRepS : R2 := fun x y H Q => ∃ (c : Nat) (n : Int), x = .str ⟨#[c]⟩ ∧ y = .int n ∧ 0 ≤ n ∧ n ≤ 1000 ∧ Q (.str ⟨(List.replicate n.toNat c).toArray⟩) H
theorem rep_fold (c : Nat) : ∀ (n : Nat) (a : Array Nat), ((List.replicate n #[c]).foldl (· ++ ·) a).toList = a.toList ++ List.replicate n c
  | 0, a => by simp
  | n + 1, a => by
    rw [List.replicate_succ, List.foldl_cons, rep_fold c n, List.replicate_succ]
    simp
theorem op_repS {X : Cx} : OpR X (binaryOp .Mult) rRepS := by
  intro pins s σ H x y v u Q I rx ry h
  obtain ⟨c, n, rfl, rfl, h0, h1, q⟩ := h
  obtain ⟨t, rfl⟩ := rx
  obtain ⟨t', rfl⟩ := ry
  have hl1 : (⟨#[c]⟩ : Str).length = 1 := rfl
  refine P.mul_str (by
      have a1 : ¬ n < -(2 ^ 63 : Int) := by omega
      have a2 : ¬ n ≥ 2 ^ 63 := by omega
      rw [decide_eq_false a1, decide_eq_false a2]; rfl) (fun h2 _ => ?_) (fun h2 _ => ?_) ?_
  · rw [hl1]
    have : (1 : Int) ≤ (2 ^ 63 - 1) / n := by
      rw [Int.le_ediv_iff_mul_le (by omega)]
      omega
    omega
  · rw [hl1]
    show decide (1 * n.toNat > sizeLine) = false
    rw [decide_eq_false_iff_not, sizeLine_eq]
    omega
  · by_cases hn : n < 1
    · rw [if_pos hn]
      have e : n = 0 := by omega
      subst e
      refine ⟨by decide, .str Str.empty, H, I.tok _, ⟨_, rfl⟩, ?_⟩
      exact q
    · rw [if_neg hn]
      by_cases hn1 : n = 1
      · subst hn1
        exact ⟨.str ⟨#[c]⟩, H, I, ⟨_, rfl⟩, q⟩
      · rw [if_neg (by rw [hl1]; simp [hn1])]
        have e : (⟨(List.replicate n.toNat (⟨#[c]⟩ : Str).cps).foldl (· ++ ·) #[]⟩ : Str) = ⟨(List.replicate n.toNat c).toArray⟩ := by
          apply str_ext
          show ((List.replicate n.toNat #[c]).foldl (· ++ ·) #[]).toList = _
          rw [rep_fold]
          simp
        rw [e]
        refine ⟨?_, .str _, H, I.tok _, ⟨_, rfl⟩, q⟩
        show (List.replicate n.toNat c).toArray.size ≤ sizeLine
        rw [sizeLine_eq]
        simp
        omega
theorem B_rep (b : Bool) (n : Nat) : (⟨(List.replicate n (bc b)).toArray⟩ : Str) = B (List.replicate n b) := by simp [B]
/-! ### texts of signs 0 and 1, told -/
def bitC (c : Nat) : Bool := c == 48 || c == 49
def bitsS (x : Str) : Bool := x.cps.toList.all bitC
theorem mem_01 (c : Nat) : decide (c ∈ (Str.ofString "01" : Str).cps.toList) = bitC c := by
  rw [B_01, B_list]
  by_cases h : c = 48
  · subst h; decide
  · by_cases h1 : c = 49
    · subst h1; decide
    · simp [bc, bitC, h, h1]
theorem bits_B (l : List Bool) : bitsS (B l) = true := by
  unfold bitsS
  rw [B_list, List.all_eq_true]
  intro c hc
  obtain ⟨b, _, rfl⟩ := List.mem_map.mp hc
  cases b <;> rfl
theorem bits_is {x : Str} (h : bitsS x = true) : ∃ l, x = B l := by
  unfold bitsS at h
  rw [List.all_eq_true] at h
  refine ⟨x.cps.toList.map fun c => c == 49, ?_⟩
  apply str_ext
  rw [B_list, List.map_map]
  have : ∀ cs : List Nat, (∀ c ∈ cs, bitC c = true) → cs = cs.map (bc ∘ fun c => c == 49) := fun cs => by
    induction cs with
    | nil => intro _; rfl
    | cons c cs ih =>
      intro hc
      rw [List.map_cons, ← ih fun d hd => hc d (List.mem_cons_of_mem _ hd)]
      congr 1
      have := hc c List.mem_cons_self
      simp only [bitC, Bool.or_eq_true, beq_iff_eq] at this
      rcases this with rfl | rfl <;> rfl
  exact this _ h
theorem pre_snoc {p l : List Bool} {b : Bool} : p ++ [b] <+: l ↔ p <+: l ∧ l[p.length]? = some b := by
  constructor
  · rintro ⟨t, rfl⟩
    exact ⟨⟨[b] ++ t, by simp⟩, by simp⟩
  · rintro ⟨⟨t, rfl⟩, h⟩
    rw [List.getElem?_append_right (Nat.le_refl _), Nat.sub_self] at h
    cases t with
    | nil => simp at h
    | cons c t =>
      simp at h
      subst h
      exact ⟨t, by simp⟩
/-- what a look tells -/
def lookZ (ls : List (List Bool)) (p : List Bool) (b : Bool) : Bool := ls.any fun l => decide (p ++ [b] <+: l)
theorem lookZ_mem (ls : List (List Bool)) (p : List Bool) (b : Bool) (h : ∀ l ∈ ls, p.length < l.length) : decide ([b] ∈ (ls.filter fun l => decide (p <+: l)).map fun l => [l.getD p.length false]) = lookZ ls p b := by
  unfold lookZ
  rw [Bool.eq_iff_iff, decide_eq_true_iff, List.any_eq_true]
  simp only [List.mem_map, List.mem_filter, decide_eq_true_eq, pre_snoc]
  constructor
  · rintro ⟨l, ⟨hl, hp⟩, e⟩
    refine ⟨l, hl, hp, ?_⟩
    have hlt := h l hl
    simp only [List.cons.injEq, and_true] at e
    rw [← e, List.getD_eq_getElem?_getD, List.getElem?_eq_getElem hlt]
    rfl
  · rintro ⟨l, hl, hp, e⟩
    refine ⟨l, ⟨hl, hp⟩, ?_⟩
    rw [List.getD_eq_getElem?_getD, e]
    rfl
end Lw
end

section
/-! nested data -/
namespace Lw
open PySem L2
theorem lay_all : ∀ {xs : List PyData}, (∀ x ∈ xs, PyData.canLay0 x = true) → PyData.canLayAll0 xs = true
  | [], _ => by simp [PyData.canLayAll0]
  | x :: xs, h => by
    simp only [PyData.canLayAll0, Bool.and_eq_true]
    exact ⟨h x List.mem_cons_self, lay_all fun y hy => h y (List.mem_cons_of_mem _ hy)⟩
theorem dep_all {n : Nat} : ∀ {xs : List PyData}, (∀ x ∈ xs, PyData.depth x ≤ n) → PyData.depthAll xs ≤ n
  | [], _ => by simp [PyData.depthAll]
  | x :: xs, h => by
    simp only [PyData.depthAll]
    have h1 := h x List.mem_cons_self
    have h2 := dep_all (n := n) (xs := xs) fun y hy => h y (List.mem_cons_of_mem _ hy)
    omega
theorem dep_mem {n : Nat} : ∀ {xs : List PyData}, PyData.depthAll xs ≤ n → ∀ x ∈ xs, PyData.depth x ≤ n
  | [], _, x, hx => by cases hx
  | y :: ys, h, x, hx => by
    simp only [PyData.depthAll] at h
    rcases List.mem_cons.mp hx with rfl | hx
    · omega
    · exact dep_mem (xs := ys) (by omega) x hx
theorem lay_B (l : List Bool) : PyData.canLay0 (.str (B l)) = true := by
  simp only [PyData.canLay0, PyData.strOk]
  rw [Array.all_eq_true]
  intro i hi
  have e : (B l).cps[i] ∈ (B l).cps.toList := by simp
  rw [B_list] at e
  obtain ⟨b, _, hb⟩ := List.mem_map.mp e
  rw [← hb]
  cases b <;> decide
theorem shaped_mk {d : PyData} {n : Nat} (h : PyData.canLay0 d = true) (h2 : PyData.depth d ≤ n) (hn : n ≤ 64) : SeqAt.shaped d = true := by
  unfold SeqAt.shaped
  rw [h, decide_eq_true (Nat.le_trans h2 hn)]
  rfl
/-- values of a type as data -/
structure Nice {α : Type} [DecidableEq α] (f : α → PyData) (n : Nat) : Prop where
  lay : ∀ x, PyData.canLay0 (f x) = true
  dep : ∀ x, PyData.depth (f x) ≤ n
  eq : ∀ x y, PyData.eqv (f x) (f y) = decide (x = y)
theorem Nice.shaped {α : Type} [DecidableEq α] {f : α → PyData} {n : Nat} (h : Nice f n) (hn : n ≤ 64) (x : α) : SeqAt.shaped (f x) = true := shaped_mk (h.lay x) (h.dep x) hn
abbrev db (l : List Bool) : PyData := .str (B l)
theorem nice_bits : Nice db 0 where
  lay := lay_B
  dep := fun x => by simp [db, PyData.depth]
  eq := fun x y => by
    simp only [db, PyData.eqv]
    by_cases h : x = y
    · subst h; simp
    · rw [decide_eq_false h]
      exact beq_eq_false_iff_ne.mpr fun q => h (B_inj q)
theorem nice_bool : Nice PyData.bool 0 where
  lay := fun x => by simp [PyData.canLay0]
  dep := fun x => by simp [PyData.depth]
  eq := fun x y => by
    simp only [PyData.eqv]
    by_cases h : x = y <;> simp [h]
theorem nice_int : Nice PyData.int 0 where
  lay := fun x => by simp [PyData.canLay0]
  dep := fun x => by simp [PyData.depth]
  eq := fun x y => by
    simp only [PyData.eqv]
    by_cases h : x = y <;> simp [h]
theorem nice_all {α : Type} [DecidableEq α] {f : α → PyData} (h : ∀ x y, PyData.eqv (f x) (f y) = decide (x = y)) : ∀ xs ys : List α, PyData.eqvAll (xs.map f) (ys.map f) = decide (xs = ys)
  | [], [] => by simp [PyData.eqvAll]
  | [], _ :: _ => by simp [PyData.eqvAll]
  | _ :: _, [] => by simp [PyData.eqvAll]
  | x :: xs, y :: ys => by
    simp only [List.map_cons, PyData.eqvAll, h, nice_all h xs ys]
    by_cases e : x = y <;> by_cases e2 : xs = ys <;> simp [e, e2]
theorem nice_list {α : Type} [DecidableEq α] {f : α → PyData} {n : Nat} (h : Nice f n) : Nice (fun xs : List α => .list (xs.map f)) (n + 1) where
  lay := fun xs => by
    simp only [PyData.canLay0]
    exact lay_all fun y hy => by
      obtain ⟨x, _, rfl⟩ := List.mem_map.mp hy
      exact h.lay x
  dep := fun xs => by
    simp only [PyData.depth]
    have := dep_all (n := n) (xs := xs.map f) fun y hy => by
      obtain ⟨x, _, rfl⟩ := List.mem_map.mp hy
      exact h.dep x
    omega
  eq := fun xs ys => by
    simp only [PyData.eqv]
    exact nice_all h.eq xs ys
theorem nice_tupl {α : Type} [DecidableEq α] {f : α → PyData} {n : Nat} (h : Nice f n) : Nice (fun xs : List α => .tuple (xs.map f)) (n + 1) where
  lay := fun xs => by
    simp only [PyData.canLay0]
    exact lay_all fun y hy => by
      obtain ⟨x, _, rfl⟩ := List.mem_map.mp hy
      exact h.lay x
  dep := fun xs => by
    simp only [PyData.depth]
    have := dep_all (n := n) (xs := xs.map f) fun y hy => by
      obtain ⟨x, _, rfl⟩ := List.mem_map.mp hy
      exact h.dep x
    omega
  eq := fun xs ys => by
    simp only [PyData.eqv]
    exact nice_all h.eq xs ys
theorem nice_tup2 {α β : Type} [DecidableEq α] [DecidableEq β] {f : α → PyData} {g : β → PyData} {n m : Nat} (h : Nice f n) (h2 : Nice g m) : Nice (fun p : α × β => .tuple [f p.1, g p.2]) (max n m + 1) where
  lay := fun p => by simp [PyData.canLay0, PyData.canLayAll0, h.lay, h2.lay]
  dep := fun p => by
    simp only [PyData.depth, PyData.depthAll]
    have := h.dep p.1
    have := h2.dep p.2
    omega
  eq := fun ⟨a, b⟩ ⟨c, d⟩ => by
    simp only [PyData.eqv, PyData.eqvAll, h.eq, h2.eq]
    by_cases e : a = c <;> by_cases e2 : b = d <;> simp [e, e2]
/-- data that stands -/
theorem dpAll_map {K : PySem.W.Frag} {H : Hp} {α : Type} {f : α → PyData} {v : α → V} (h : ∀ x, Dp K H (v x) (f x)) : ∀ xs : List α, DpAll K H (xs.map v) (xs.map f)
  | [] => .nil
  | x :: xs => .cons (h x) (dpAll_map h xs)
theorem dp_bits {K : PySem.W.Frag} {H : Hp} {p : Addr} {ls : List (List Bool)} (h : SqL K H p (bvs ls)) : Dp K H (.ref p) (.list (ls.map db)) := .lst h (dpAll_map (fun x => .str _) ls)
theorem dp_nil {K : PySem.W.Frag} {H : Hp} {p : Addr} (h : SqL K H p []) : Dp K H (.ref p) (.list []) := .lst h .nil
theorem w_eqD {K : PySem.W.Frag} {H : Hp} {Q : VK} {x y : V} {d e : PyData} (h1 : Dp K H x d) (h2 : Dp K H y e) (s1 : SeqAt.shaped d = true) (s2 : SeqAt.shaped e = true) (k : Q (.bl (PyData.eqv d e)) H) : rEqD K x y H Q := ⟨d, e, h1, h2, s1, s2, k⟩
theorem w_neD {K : PySem.W.Frag} {H : Hp} {Q : VK} {x y : V} {d e : PyData} (h1 : Dp K H x d) (h2 : Dp K H y e) (s1 : SeqAt.shaped d = true) (s2 : SeqAt.shaped e = true) (k : Q (.bl (!PyData.eqv d e)) H) : rNeD K x y H Q := ⟨d, e, h1, h2, s1, s2, k⟩
/-- two lists of texts -/
theorem w_eqLs {K : PySem.W.Frag} {H : Hp} {Q : VK} {p q : Addr} {ls ms : List (List Bool)} (h1 : SqL K H p (bvs ls)) (h2 : SqL K H q (bvs ms)) (k : Q (.bl (decide (ls = ms))) H) : rEqD K (.ref p) (.ref q) H Q :=
  w_eqD (dp_bits h1) (dp_bits h2) ((nice_list nice_bits).shaped (by decide) ls) ((nice_list nice_bits).shaped (by decide) ms) (by rw [(nice_list nice_bits).eq]; exact k)
theorem w_neLs {K : PySem.W.Frag} {H : Hp} {Q : VK} {p q : Addr} {ls ms : List (List Bool)} (h1 : SqL K H p (bvs ls)) (h2 : SqL K H q (bvs ms)) (k : Q (.bl (!decide (ls = ms))) H) : rNeD K (.ref p) (.ref q) H Q :=
  w_neD (dp_bits h1) (dp_bits h2) ((nice_list nice_bits).shaped (by decide) ls) ((nice_list nice_bits).shaped (by decide) ms) (by rw [(nice_list nice_bits).eq]; exact k)
/-! ### order of texts -/
def blt : List Bool → List Bool → Bool
  | [], [] => false
  | [], _ :: _ => true
  | _ :: _, [] => false
  | a :: x, b :: y => if a = b then blt x y else !a
theorem blt_cps : ∀ a b : List Bool, PySem.Spec.ltCps (a.map bc) (b.map bc) = blt a b
  | [], [] => rfl
  | [], _ :: _ => rfl
  | _ :: _, [] => rfl
  | a :: x, b :: y => by
    have ih := blt_cps x y
    simp only [List.map_cons, PySem.Spec.ltCps, blt, ih]
    cases a <;> cases b <;> simp [bc]
theorem blt_irr : ∀ a : List Bool, blt a a = false
  | [] => rfl
  | a :: x => by simp [blt, blt_irr x]
theorem blt_trans : ∀ {a b c : List Bool}, blt a b = true → blt b c = true → blt a c = true
  | [], _, [], _, h => by cases ‹List Bool› <;> simp [blt] at h
  | [], _, _ :: _, _, _ => rfl
  | _ :: _, [], _, h, _ => by simp [blt] at h
  | _ :: _, _ :: _, [], _, h => by simp [blt] at h
  | a :: x, b :: y, c :: z, h1, h2 => by
    simp only [blt] at h1 h2 ⊢
    have ih := @blt_trans x y z
    cases a <;> cases b <;> cases c <;> simp_all
theorem blt_asymm {a b : List Bool} (h : blt a b = true) : blt b a = false := by
  cases e : blt b a with
  | false => rfl
  | true =>
    have := blt_trans h e
    rw [blt_irr] at this
    cases this
theorem blt_tri : ∀ a b : List Bool, blt a b = true ∨ a = b ∨ blt b a = true
  | [], [] => .inr (.inl rfl)
  | [], _ :: _ => .inl rfl
  | _ :: _, [] => .inr (.inr rfl)
  | a :: x, b :: y => by
    have ih := blt_tri x y
    simp only [blt]
    cases a <;> cases b <;> simp_all
theorem blt_of_not {a b : List Bool} (h : blt b a = false) (n : a ≠ b) : blt a b = true := by
  rcases blt_tri a b with e | e | e
  · exact e
  · exact absurd e n
  · rw [h] at e; cases e
/-- a list that rises -/
abbrev Rise (ls : List (List Bool)) : Prop := ls.Pairwise fun a b => blt a b = true
theorem rise_nodup {ls : List (List Bool)} (h : Rise ls) : ls.Nodup := h.imp fun {a b} h e => by
  rw [e, blt_irr] at h
  cases h
theorem risingS_pw : ∀ (ls : List (List Bool)) (p : List Bool), PyProof.Rows.risingS (B p) (ls.map B) = true → (p :: ls).Pairwise fun a b => blt b a = false
  | [], p, _ => by simp
  | x :: r, p, h => by
    simp only [List.map_cons, PyProof.Rows.risingS, Bool.and_eq_true, Bool.not_eq_true', B_list, blt_cps] at h
    have ih := risingS_pw r x h.2
    refine List.pairwise_cons.mpr ⟨fun y hy => ?_, ih⟩
    rcases List.mem_cons.mp hy with rfl | hy
    · exact h.1
    · have h2 := (List.pairwise_cons.mp ih).1 y hy
      cases e : blt y p with
      | false => rfl
      | true =>
        rcases blt_tri p x with q | q | q
        · have := blt_trans e q
          rw [h2] at this
          cases this
        · rw [q, h2] at e
          cases e
        · rw [h.1] at q
          cases q
theorem rise_of {ls : List (List Bool)} (h : PyProof.Rows.sortedS (ls.map B) = true) (n : ls.Nodup) : Rise ls := by
  have pw : ls.Pairwise fun a b => blt b a = false := by
    cases ls with
    | nil => exact List.Pairwise.nil
    | cons x r => exact risingS_pw r x h
  exact (pw.and n).imp fun {a b} h => blt_of_not h.1 h.2
theorem rise_ext : ∀ {a b : List (List Bool)}, Rise a → Rise b → (∀ x, x ∈ a ↔ x ∈ b) → a = b
  | [], [], _, _, _ => rfl
  | [], y :: _, _, _, h => absurd ((h y).mpr List.mem_cons_self) (by simp)
  | x :: _, [], _, _, h => absurd ((h x).mp List.mem_cons_self) (by simp)
  | x :: a, y :: b, ha, hb, h => by
    obtain ⟨hx, ha'⟩ := List.pairwise_cons.mp ha
    obtain ⟨hy, hb'⟩ := List.pairwise_cons.mp hb
    have e : x = y := by
      rcases List.mem_cons.mp ((h x).mp List.mem_cons_self) with e | e
      · exact e
      · rcases List.mem_cons.mp ((h y).mpr List.mem_cons_self) with e2 | e2
        · exact e2.symm
        · have := blt_asymm (hx y e2)
          rw [hy x e] at this
          cases this
    subst e
    congr 1
    refine rise_ext ha' hb' fun z => ⟨fun hz => ?_, fun hz => ?_⟩
    · rcases List.mem_cons.mp ((h z).mp (List.mem_cons_of_mem _ hz)) with e | e
      · subst e
        have := hx z hz
        rw [blt_irr] at this
        cases this
      · exact e
    · rcases List.mem_cons.mp ((h z).mpr (List.mem_cons_of_mem _ hz)) with e | e
      · subst e
        have := hy z hz
        rw [blt_irr] at this
        cases this
      · exact e
/-- a permutation of texts of signs is one of signs -/
theorem perm_B {ys : List Str} {ls : List (List Bool)} (h : ys.Perm (ls.map B)) : ∃ ms : List (List Bool), ys = ms.map B ∧ ms.Perm ls := by
  have hm : ∀ y ∈ ys, ∃ m, B m = y := fun y hy => by
    obtain ⟨m, _, e⟩ := List.mem_map.mp (h.mem_iff.mp hy)
    exact ⟨m, e⟩
  obtain ⟨ms, e⟩ : ∃ ms : List (List Bool), ys = ms.map B := by
    clear h
    induction ys with
    | nil => exact ⟨[], rfl⟩
    | cons y ys ih =>
      obtain ⟨m, e⟩ := hm y List.mem_cons_self
      obtain ⟨ms, e2⟩ := ih fun z hz => hm z (List.mem_cons_of_mem _ hz)
      exact ⟨m :: ms, by rw [List.map_cons, e, ← e2]⟩
  subst e
  refine ⟨ms, rfl, ?_⟩
  rw [List.perm_iff_count]
  intro a
  have q := h.count_eq (B a)
  have c : ∀ l : List (List Bool), (l.map B).count (B a) = l.count a := fun l => by
    induction l with
    | nil => rfl
    | cons x l ih =>
      rw [List.map_cons, List.count_cons, List.count_cons, ih]
      by_cases e : x = a
      · subst e; simp
      · have : ¬ B x = B a := fun q => e (B_inj q)
        simp [e, this]
  rw [c, c] at q
  exact q
theorem cutV_to (xs : List V) (k : Nat) : cutV xs none (some (k : Int)) = xs.take k := by
  unfold cutV
  rw [HT.sIx_none, HT.sIx_nat, List.drop_zero, Nat.sub_zero]
  by_cases h : k ≤ xs.length
  · rw [Nat.min_eq_left h]
  · rw [Nat.min_eq_right (by omega), List.take_of_length_le (Nat.le_refl _), List.take_of_length_le (by omega)]
theorem nsh_bvs (ls : List (List Bool)) : ¬ RowSh (.lst (bvs ls)) := by
  rw [bvs_strs]
  exact nsh_strs _
theorem w_sortS {K : PySem.W.Frag} {H : Hp} {Q : VK} {p : Addr} {ls : List (List Bool)} (h : SqL K H p (bvs ls)) (hn : ls.length < 64) (nd : ls.Nodup) (k : ∀ ms l H', ms.Perm ls → Rise ms → H l = none → Ext H H' → H' l = some (.lst (bvs ms)) → Q (.ref l) H') : rSortedS K [.ref p] H Q := by
  refine ⟨p, ls.map B, rfl, by rw [← bvs_strs]; exact h, by rw [List.length_map]; exact hn, fun ys l hp hs hl => ?_⟩
  obtain ⟨ms, rfl, hm⟩ := perm_B hp
  refine k ms l _ hm (rise_of hs (hm.nodup_iff.mpr nd)) hl (Ext.new hl) ?_
  rw [upd_same, bvs_strs]
theorem bvs_append (a b : List (List Bool)) : bvs a ++ bvs b = bvs (a ++ b) := by simp [bvs]
theorem bvs_take (a : List (List Bool)) (k : Nat) : (bvs a).take k = bvs (a.take k) := by simp [bvs, List.map_take]
theorem bvs_snoc (a : List (List Bool)) (l : List Bool) : bvs a ++ [.str (B l)] = bvs (a ++ [l]) := by simp [bvs, bv]
theorem bvs_atI {ls : List (List Bool)} {i : Int} {l : List Bool} (h : atI ls i = some l) : atI (bvs ls) i = some (.str (B l)) := by
  unfold atI at h ⊢
  rw [bvs_len]
  cases e : ixN ls.length i with
  | none => rw [e] at h; cases h
  | some j =>
    rw [e] at h
    exact bvs_at h
/-- numbers that part from one at each sign -/
def Parts (base : List Bool) (ms : List (List Bool)) : Prop := ∀ (k : Nat) (m : List Bool), ms[k]? = some m → m.length = base.length ∧ m.take k = base.take k ∧ ∃ b, base[k]? = some b ∧ m[k]? = some (!b)
theorem Parts.snoc {base : List Bool} {ms : List (List Bool)} {t : List Bool} {b : Bool} (h : Parts base ms) (hb : base[ms.length]? = some b) (ht : ms.length + 1 + t.length = base.length) : Parts base (ms ++ [base.take ms.length ++ [!b] ++ t]) := by
  intro k m hk
  have hl := (List.getElem?_eq_some_iff.mp hb).1
  have tl : (base.take ms.length).length = ms.length := by simp; omega
  by_cases hlt : k < ms.length
  · rw [List.getElem?_append_left hlt] at hk
    exact h k m hk
  · rw [List.getElem?_append_right (by omega)] at hk
    have e : k = ms.length := by
      have := (List.getElem?_eq_some_iff.mp hk).1
      simp at this
      omega
    subst e
    simp at hk
    subst hk
    refine ⟨by simp; omega, ?_, b, hb, ?_⟩
    · rw [List.take_append_of_le_length (by rw [tl]; exact Nat.le_refl _), List.take_of_length_le (by rw [tl]; exact Nat.le_refl _)]
    · rw [List.getElem?_append_right (by rw [tl]; exact Nat.le_refl _), tl, Nat.sub_self]
      rfl
theorem Parts.nodup {base : List Bool} {ms : List (List Bool)} (h : Parts base ms) (k : Nat) : (ms.take k ++ [base]).Nodup := by
  have key : ∀ i j a b, ms[i]? = some a → ms[j]? = some b → i < j → a ≠ b := fun i j a b ha hb hij e => by
    subst e
    obtain ⟨_, _, c, hc, hc2⟩ := h i a ha
    obtain ⟨_, t2, _⟩ := h j a hb
    have : (a.take j)[i]? = (base.take j)[i]? := by rw [t2]
    rw [List.getElem?_take_of_lt hij, List.getElem?_take_of_lt hij, hc, hc2] at this
    cases c <;> simp at this
  have key2 : ∀ a ∈ ms, a ≠ base := fun a ha e => by
    obtain ⟨i, hi⟩ := List.mem_iff_getElem?.mp ha
    obtain ⟨_, _, c, hc, hc2⟩ := h i a hi
    rw [e, hc] at hc2
    cases c <;> simp at hc2
  refine List.nodup_append.mpr ⟨?_, by simp, fun a ha b hb e => ?_⟩
  · refine List.Pairwise.sublist (List.take_sublist k ms) ?_
    rw [List.pairwise_iff_getElem]
    intro i j hi hj hij
    exact key i j _ _ (List.getElem?_eq_getElem hi) (List.getElem?_eq_getElem hj) hij
  · simp at hb
    subst hb
    exact key2 a (List.mem_of_mem_take ha) e
end Lw
end

section
/-! data that stands whatever is drawn -/
namespace Lw
open PySem L2
mutual
inductive Dq (K : PySem.W.Frag) (H : Hp) : V → PyData → Prop
  | non : Dq K H .non .none
  | bl (b : Bool) : Dq K H (.bl b) (.bool b)
  | int (i : Int) : Dq K H (.int i) (.int i)
  | str (x : Str) : Dq K H (.str x) (.str x)
  | lst {a : Addr} {xs : List V} {ds : List PyData} (h : SqL K H a xs) (n : ¬ RowSh (.lst xs)) (hz : xs.length ≤ 100000) (hs : DqAll K H xs ds) : Dq K H (.ref a) (.list ds)
  | tup {a : Addr} {xs : List V} {ds : List PyData} (h : SqT K H a xs) (hz : xs.length ≤ 100000) (hs : DqAll K H xs ds) : Dq K H (.ref a) (.tuple ds)
inductive DqAll (K : PySem.W.Frag) (H : Hp) : List V → List PyData → Prop
  | nil : DqAll K H [] []
  | cons {v : V} {vs : List V} {d : PyData} {ds : List PyData} (h : Dq K H v d) (hs : DqAll K H vs ds) : DqAll K H (v :: vs) (d :: ds)
end
section
variable {K : PySem.W.Frag} {H H1 : Hp}
mutual
theorem Dq.dp : ∀ (d : PyData) {v : V}, Dq K H v d → Dp K H v d
  | .none, _, .non => .non
  | .bool _, _, .bl b => .bl b
  | .int _, _, .int i => .int i
  | .str _, _, .str x => .str x
  | .list ds, _, .lst h n _ hs => .lst h (DqAll.dp ds hs)
  | .tuple ds, _, .tup h _ hs => .tup h (DqAll.dp ds hs)
theorem DqAll.dp : ∀ (ds : List PyData) {vs : List V}, DqAll K H vs ds → DpAll K H vs ds
  | [], _, .nil => .nil
  | d :: ds, _, .cons h hs => .cons (Dq.dp d h) (DqAll.dp ds hs)
end
mutual
theorem Dq.ext (e : Ext H H1) : ∀ (d : PyData) {v : V}, Dq K H v d → Dq K H1 v d
  | .none, _, .non => .non
  | .bool _, _, .bl b => .bl b
  | .int _, _, .int i => .int i
  | .str _, _, .str x => .str x
  | .list ds, _, .lst h n hz hs => .lst (e.seq n h) n hz (DqAll.ext e ds hs)
  | .tuple ds, _, .tup h hz hs => .tup (e.tup h) hz (DqAll.ext e ds hs)
theorem DqAll.ext (e : Ext H H1) : ∀ (ds : List PyData) {vs : List V}, DqAll K H vs ds → DqAll K H1 vs ds
  | [], _, .nil => .nil
  | d :: ds, _, .cons h hs => .cons (Dq.ext e d h) (DqAll.ext e ds hs)
end
theorem DqAll.len {vs : List V} {ds : List PyData} (h : DqAll K H vs ds) : vs.length = ds.length := by
  induction ds generalizing vs with
  | nil => cases h; rfl
  | cons d ds ih =>
    cases h with
    | cons h hs => simp [ih hs]
theorem DqAll.get {vs : List V} {ds : List PyData} {i : Nat} {d : PyData} (h : DqAll K H vs ds) (e : ds[i]? = some d) : ∃ v, vs[i]? = some v ∧ Dq K H v d := by
  induction ds generalizing vs i with
  | nil => simp at e
  | cons d' ds ih =>
    cases h with
    | cons h hs =>
      cases i with
      | zero =>
        simp at e
        subst e
        exact ⟨_, rfl, h⟩
      | succ i =>
        obtain ⟨v, h1, h2⟩ := ih hs (i := i) (by simpa using e)
        exact ⟨v, by simpa using h1, h2⟩
theorem dqAll_map {α : Type} {f : α → PyData} {v : α → V} (xs : List α) (h : ∀ x ∈ xs, Dq K H (v x) (f x)) : DqAll K H (xs.map v) (xs.map f) := by
  induction xs with
  | nil => exact .nil
  | cons x xs ih => exact .cons (h x List.mem_cons_self) (ih fun y hy => h y (List.mem_cons_of_mem _ hy))
/-! ### isinstance of data -/
def tyNm : PyData → String
  | .none => "NoneType"
  | .bool _ => "bool"
  | .int _ => "int"
  | .str _ => "str"
  | .list _ => "list"
  | .tuple _ => "tuple"
  | .dict _ => "dict"
theorem tyx_sql {a : Addr} {xs : List V} (h : SqL K H a xs) : TyX K H (.ref a) (.type "list") := by
  rcases h with (h | ⟨o, h⟩) | ⟨o, its, n, h, hc, _⟩
  · exact .base (.lst h)
  · exact .base (.frz h)
  · exact .kList h hc
theorem tyx_sqt {a : Addr} {xs : List V} (h : SqT K H a xs) : TyX K H (.ref a) (.type "tuple") := by
  rcases h with (h | ⟨o, h⟩) | ⟨o, its, n, h, hc, _⟩
  · exact .base (.tup h)
  · exact .fTuple h
  · exact .kTuple h hc
theorem Dq.ty {v : V} {d : PyData} (h : Dq K H v d) : TyX K H v (.type (tyNm d)) := by
  cases h with
  | non => exact .base .non
  | bl b => exact .base (.bl b)
  | int i => exact .base (.int i)
  | str x => exact .base (.str x)
  | lst h n hz hs => exact tyx_sql h
  | tup h hz hs => exact tyx_sqt h
/-- an answer of isinstance for a class of these -/
def isiN (c t : String) : Bool := t == c || (t == "bool" && c == "int")
abbrev isiB (c : String) (d : PyData) : Bool := isiN c (tyNm d)
theorem isi_names {c t : String} (hc : c ∈ ["tuple", "list", "bool", "int", "str"]) (ht : t ∈ ["NoneType", "bool", "int", "str", "list", "tuple", "dict"]) : PySem.W.kitOne K (.type t) (.type c) = some (isiN c t) := by
  simp only [List.mem_cons, List.mem_nil_iff, or_false] at hc ht
  rcases hc with rfl | rfl | rfl | rfl | rfl <;> rcases ht with rfl | rfl | rfl | rfl | rfl | rfl | rfl <;> exact kit_ty (by decide +kernel)
theorem tyNm_mem (d : PyData) : tyNm d ∈ ["NoneType", "bool", "int", "str", "list", "tuple", "dict"] := by
  cases d <;> simp [tyNm]
theorem isi_kit {c : String} (hc : c ∈ ["tuple", "list", "bool", "int", "str"]) (d : PyData) : PySem.W.kitOne K (.type (tyNm d)) (.type c) = some (isiB c d) := isi_names hc (tyNm_mem d)
theorem w_isi {Q : VK} {v : V} {d : PyData} {c : String} (h : Dq K H v d) (k : Q (.bl (isiB c d)) H) (hc : c ∈ ["tuple", "list", "bool", "int", "str"] := by decide) : rIsi K [v, .ty c] H Q :=
  ⟨v, .ty c, _, _, _, rfl, .ty c, h.ty, isi_kit hc d, k⟩
theorem w_isi2 {Q : VK} {v : V} {d : PyData} {c1 c2 : String} {p : Addr} (h : Dq K H v d) (hp : H p = some (.tup [.ty c1, .ty c2])) (k : Q (.bl (isiB c1 d || isiB c2 d)) H) (hc : c1 ∈ ["tuple", "list", "bool", "int", "str"] := by decide) (hc2 : c2 ∈ ["tuple", "list", "bool", "int", "str"] := by decide) :
    rIsiT K [v, .ref p] H Q := by
  have ka : PySem.W.kitAny K (.type (tyNm d)) [.type c1, .type c2] = some (isiB c1 d || isiB c2 d) := by
    refine kitAny_cons (isi_kit hc d) (fun h => ?_) fun h => by rw [h]; rfl
    rw [h, Bool.false_or]
    exact kitAny_cons (isi_kit hc2 d) (fun h2 => by rw [h2]; exact kitAny_nil) fun h2 => h2
  exact ⟨v, p, _, _, _, _, rfl, hp, .cons (.ty c1) (.cons (.ty c2) .nil), h.ty, ka, k⟩
end
end Lw
end

section
/-! things that stand apart: each with the places it owns -/
namespace Lw
open PySem L2
/-- what may be owned: no row, nothing known -/
def Ownd (o : HO) : Prop := ¬ RowSh o ∧ (∀ ob u, o ≠ .frz ob u) ∧ (∀ ps, o ≠ .tbl ps) ∧ ∀ x, o ≠ .ext x
/-- from H to H': the places F (then F', of which some are new) may have changed -/
structure Step (F F' : List Addr) (H H' : Hp) : Prop where
  st : ∀ b o, H b = some o → b ∉ F → ¬ RowSh o → H' b = some o
  rw_ : ∀ b a i m z, H b = some (row a i m z) → b ∉ F → 0 ≤ i → ∃ i' m' z', H' b = some (row a i' m' z') ∧ 0 ≤ i'
  th : ∀ b o, H b = some o → ∃ o', H' b = some o'
  nw : ∀ b, b ∈ F' → b ∈ F ∨ H b = none
section
variable {F F1 F2 F' : List Addr} {H H1 H2 H' : Hp} {K : PySem.W.Frag} {r : Addr}
theorem Step.of (e : Ext H H') : Step F F H H' := ⟨fun b o h _ n => e.st b o h n, fun b a i m z h _ hi => e.rw_ b a i m z h hi, e.th, fun b h => .inl h⟩
theorem Step.not (s : Step F F' H H') {b : Addr} {o : HO} (h : H b = some o) (n : b ∉ F) : b ∉ F' := fun q => by
  rcases s.nw b q with z | z
  · exact n z
  · rw [h] at z
    cases z
theorem Step.free (s : Step F F' H H') {b : Addr} (h : H' b = none) : H b = none := by
  cases q : H b with
  | none => rfl
  | some o =>
    obtain ⟨o', z⟩ := s.th _ _ q
    rw [h] at z
    cases z
theorem Step.trans (s : Step F F1 H H1) (t : Step F1 F2 H1 H2) : Step F F2 H H2 where
  st := fun b o h n ns => t.st b o (s.st b o h n ns) (s.not h n) ns
  rw_ := fun b a i m z h n hi => by
    obtain ⟨i', m', z', h1, hi'⟩ := s.rw_ b a i m z h n hi
    exact t.rw_ b a i' m' z' h1 (s.not h n) hi'
  th := fun b o h => by
    obtain ⟨o', h1⟩ := s.th b o h
    exact t.th b o' h1
  nw := fun b h => by
    rcases t.nw b h with z | z
    · exact s.nw b z
    · exact .inr (s.free z)
/-- a place of F is written -/
theorem Step.wr {p : Addr} {o u : HO} (hp : H p = some u) (h : p ∈ F) : Step F F H (upd H p o) where
  st := fun b v hb n _ => by
    rw [upd_ne (fun e => n (by rw [e]; exact h))]
    exact hb
  rw_ := fun b a i m z hb n hi => by
    rw [upd_ne (fun e => n (by rw [e]; exact h))]
    exact ⟨i, m, z, hb, hi⟩
  th := fun b v hb => by
    by_cases e : b = p
    · rw [e]
      exact ⟨_, upd_same⟩
    · rw [upd_ne e]
      exact ⟨_, hb⟩
  nw := fun b h => .inl h
/-- other places are told -/
theorem Step.to (s : Step F F1 H H') (h : ∀ b, b ∈ F' → b ∈ F1 ∨ H b = none) : Step F F' H H' := ⟨s.st, s.rw_, s.th, fun b hb => (h b hb).elim (s.nw b) .inr⟩
/-- the row stands -/
theorem RowOk.step (s : Step F F' H H') (ho : ∀ b ∈ F, ∃ o, H b = some o ∧ Ownd o) (h : RowOk K H r) : RowOk K H' r := by
  obtain ⟨a, i, m, z, ns, h0, hi, hs⟩ := h
  have nr : r ∉ F := fun q => by
    obtain ⟨o, e, n, _⟩ := ho r q
    rw [h0] at e
    cases e
    exact n ⟨_, _, _, _, rfl⟩
  obtain ⟨i', m', z', h1, hi'⟩ := s.rw_ r a i m z h0 nr hi
  refine ⟨a, i', m', z', ns, h1, hi', ?_⟩
  rcases hs with ⟨o, hs⟩ | hs
  · have na : a ∉ F := fun q => by
      obtain ⟨u, e, _, n, _⟩ := ho a q
      rw [hs] at e
      cases e
      exact n _ _ rfl
    exact .inl ⟨o, s.st a _ hs na nsh_frz⟩
  · exact .inr hs
end
/-- a thing and its places -/
structure Own where
  S : Hp → Prop
  F : List Addr
  loc : ∀ {H H' : Hp}, (∀ b ∈ F, ∀ o, H b = some o → H' b = some o) → S H → S H'
  al : ∀ {H : Hp}, S H → ∀ b ∈ F, ∃ o, H b = some o ∧ Ownd o
/-- these things stand, apart from one another -/
def Sts (H : Hp) (l : List Own) : Prop := (∀ o ∈ l, o.S H) ∧ l.Pairwise fun a b => ∀ x ∈ a.F, x ∉ b.F
section
variable {H H' : Hp} {l l1 l2 : List Own} {W W' : Own} {K : PySem.W.Frag} {r : Addr}
theorem Own.ext (W : Own) (e : Ext H H') (h : W.S H) : W.S H' := W.loc (fun b hb o ho => by
  obtain ⟨o', e1, n, _⟩ := W.al h b hb
  rw [ho] at e1
  cases e1
  exact e.st b o ho n) h
theorem Sts.ext (s : Sts H l) (e : Ext H H') : Sts H' l := ⟨fun o ho => o.ext e (s.1 o ho), s.2⟩
theorem Sts.nil : Sts H [] := ⟨fun o ho => absurd ho (by simp), List.Pairwise.nil⟩
theorem Sts.get (s : Sts H (l1 ++ W :: l2)) : W.S H := s.1 W (List.mem_append_right _ List.mem_cons_self)
theorem Sts.step (s : Sts H (l1 ++ W :: l2)) (w : W'.S H') (t : Step W.F W'.F H H') : Sts H' (l1 ++ W' :: l2) := by
  obtain ⟨h1, h2⟩ := s
  obtain ⟨p1, p2, p3⟩ := List.pairwise_append.mp h2
  obtain ⟨q1, q2⟩ := List.pairwise_cons.mp p2
  have ap : ∀ V : Own, V ∈ l1 ∨ V ∈ l2 → (∀ x ∈ V.F, x ∉ W.F) ∧ V.S H := fun V hV => by
    rcases hV with hV | hV
    · exact ⟨fun x hx hw => p3 V hV W List.mem_cons_self x hx hw, h1 V (List.mem_append_left _ hV)⟩
    · exact ⟨fun x hx hw => q1 V hV x hw hx, h1 V (List.mem_append_right _ (List.mem_cons_of_mem _ hV))⟩
  have st : ∀ V : Own, V ∈ l1 ∨ V ∈ l2 → V.S H' ∧ ∀ x ∈ V.F, x ∉ W'.F := fun V hV => by
    obtain ⟨na, hS⟩ := ap V hV
    refine ⟨V.loc (fun b hb o ho => ?_) hS, fun x hx hw => ?_⟩
    · obtain ⟨o', e1, n, _⟩ := V.al hS b hb
      rw [ho] at e1
      cases e1
      exact t.st b o ho (na b hb) n
    · obtain ⟨o, e1, _⟩ := V.al hS x hx
      exact t.not e1 (na x hx) hw
  refine ⟨fun V hV => ?_, List.pairwise_append.mpr ⟨p1, List.pairwise_cons.mpr ⟨fun V hV x hx hy => (st V (.inr hV)).2 x hy hx, q2⟩, fun V hV U hU x hx hy => ?_⟩⟩
  · rcases List.mem_append.mp hV with hV | hV
    · exact (st V (.inl hV)).1
    · rcases List.mem_cons.mp hV with rfl | hV
      · exact w
      · exact (st V (.inr hV)).1
  · rcases List.mem_cons.mp hU with rfl | hU
    · exact (st V (.inl hV)).2 x hx hy
    · exact p3 V hV U (List.mem_cons_of_mem _ hU) x hx hy
theorem Sts.new (s : Sts H l) (e : Ext H H') (hn : ∀ b ∈ W.F, H b = none) (w : W.S H') : Sts H' (W :: l) := by
  refine ⟨fun V hV => ?_, List.pairwise_cons.mpr ⟨fun V hV x hx hy => ?_, s.2⟩⟩
  · rcases List.mem_cons.mp hV with rfl | hV
    · exact w
    · exact V.ext e (s.1 V hV)
  · obtain ⟨o, h, _⟩ := V.al (s.1 V hV) x hy
    rw [hn x hx] at h
    cases h
theorem Sts.drop (s : Sts H (l1 ++ W :: l2)) : Sts H (l1 ++ l2) :=
  ⟨fun V hV => s.1 V (by
    rcases List.mem_append.mp hV with h | h
    · exact List.mem_append_left _ h
    · exact List.mem_append_right _ (List.mem_cons_of_mem _ h)), s.2.sublist (List.Sublist.append (List.Sublist.refl _) (List.sublist_cons_self W l2))⟩
theorem Sts.row (s : Sts H (l1 ++ W :: l2)) (t : Step W.F W'.F H H') (h : RowOk K H r) : RowOk K H' r := RowOk.step t (W.al s.get) h
end
/-- a list of texts as a thing of its own -/
def oList (p : Addr) (ls : List (List Bool)) : Own where
  S := fun H => H p = some (.lst (bvs ls))
  F := [p]
  loc := fun h hS => h p List.mem_cons_self _ hS
  al := fun hS b hb => by
    rw [List.mem_singleton.mp hb]
    exact ⟨_, hS, nsh_bvs _, fun _ _ q => (by cases q), fun _ q => (by cases q), fun _ q => (by cases q)⟩
end Lw
end

section
/-! dicts whose keys are texts of signs 0 and 1; fields of instances; for over a dict -/
namespace Lw
open PySem L2
abbrev Bits := List Bool
def tK {α : Type} (f : α → V) (ts : List (Bits × α)) : List (Key × V) := ts.map fun p => (Sum.inr (B p.1), f p.2)
def alook {α : Type} (ts : List (Bits × α)) (l : Bits) : Option α := (ts.find? fun p => decide (p.1 = l)).map (·.2)
def aput {α : Type} (ts : List (Bits × α)) (l : Bits) (v : α) : List (Bits × α) := if l ∈ ts.map (·.1) then ts.map (fun p => if p.1 = l then (p.1, v) else p) else ts ++ [(l, v)]
def adrop {α : Type} (ts : List (Bits × α)) (l : Bits) : List (Bits × α) := ts.filter fun p => decide (p.1 ≠ l)
section
variable {α : Type} {f : α → V} {ts : List (Bits × α)} {l : Bits} {v : α}
theorem tK_len : (tK f ts).length = ts.length := by simp [tK]
theorem key_dec (a b : Bits) : decide ((Sum.inr (B a) : Key) = Sum.inr (B b)) = decide (a = b) := by
  by_cases h : a = b
  · subst h; simp
  · have : ¬ (Sum.inr (B a) : Key) = Sum.inr (B b) := fun e => h (B_inj (Sum.inr.inj e))
    simp [h, this]
theorem val_tK : valV (tK f ts) (Sum.inr (B l)) = (alook ts l).map f := by
  unfold valV alook tK
  induction ts with
  | nil => rfl
  | cons p r ih =>
    rw [List.map_cons, List.find?_cons, List.find?_cons]
    simp only [key_dec]
    by_cases h : p.1 = l
    · rw [decide_eq_true h]
      rfl
    · rw [decide_eq_false h]
      exact ih
theorem alook_mem : (alook ts l).isSome = decide (l ∈ ts.map (·.1)) := by
  unfold alook
  induction ts with
  | nil => rfl
  | cons p r ih =>
    rw [List.find?_cons]
    by_cases h : p.1 = l
    · rw [decide_eq_true h]
      simp [h]
    · rw [decide_eq_false h, ih]
      have : ¬ l = p.1 := fun e => h e.symm
      simp [this]
theorem put_tK : putK (tK f ts) (Sum.inr (B l)) (f v) = tK f (aput ts l v) := by
  have ha : ((tK f ts).any fun kv => decide (kv.1 = Sum.inr (B l))) = decide (l ∈ ts.map (·.1)) := by
    rw [valV_any, val_tK, Option.isSome_map, alook_mem]
  unfold putK
  rw [ha]
  unfold aput
  by_cases h : l ∈ ts.map (·.1)
  · rw [decide_eq_true h, if_pos rfl, if_pos h]
    unfold tK
    rw [List.map_map, List.map_map]
    apply List.map_congr_left
    intro p _
    show (if (Sum.inr (B p.1) : Key) = Sum.inr (B l) then _ else _) = _
    by_cases e : p.1 = l
    · rw [if_pos (by rw [e])]
      show _ = ((Sum.inr (B (if p.1 = l then (p.1, v) else p).1) : Key), f (if p.1 = l then (p.1, v) else p).2)
      rw [if_pos e]
    · rw [if_neg (fun q => e (B_inj (Sum.inr.inj q)))]
      show _ = ((Sum.inr (B (if p.1 = l then (p.1, v) else p).1) : Key), f (if p.1 = l then (p.1, v) else p).2)
      rw [if_neg e]
  · rw [decide_eq_false h, if_neg Bool.false_ne_true, if_neg h]
    simp [tK]
theorem tK_keys : (tK f ts).map (·.1) = ((ts.map (·.1)).map B).map Sum.inr := by simp [tK]
end
/-! ### readings of dicts -/
def DinOk (y x : V) (H : Hp) (Q : VK) : Prop := ∃ a o, x = .ref a ∧ DGet H a y o ∧ Q (.bl o.isSome) H
def DnotOk (y x : V) (H : Hp) (Q : VK) : Prop := ∃ a o, x = .ref a ∧ DGet H a y o ∧ Q (.bl (!o.isSome)) H
def DgetOk (x y : V) (H : Hp) (Q : VK) : Prop := ∃ a v, x = .ref a ∧ DGet H a y (some v) ∧ Q v H
def DputOk (v x y : V) (H : Hp) (S : Hp → Prop) : Prop := ∃ a H4, x = .ref a ∧ DPut H a y v H4 ∧ S H4
def FldOk (K : PySem.W.Frag) (f : Str) (x : V) (H : Hp) (Q : VK) : Prop := ∃ a C dx fs v, x = .ref a ∧ H a = some (.ins C dx fs) ∧ Cls K C ∧ NoAttr K C f ∧ fs.lookup f = some v ∧ Q v H
def StoOk (K : PySem.W.Frag) (f : Str) (y x : V) (H : Hp) (S : Hp → Prop) : Prop := ∃ a C dx fs, x = .ref a ∧ H a = some (.ins C dx fs) ∧ Cls K C ∧ NoAttr K C f ∧ fs.length < 1000 ∧ S (upd H a (.ins C dx (putF f y fs)))
def MeOk (C : Addr) (m : Str) (sp : Sp) (E : XK) (t : TA) (σ : St) (x : V) (H : Hp) (Q : VK) : Prop := ∃ a dx fs, x = .ref a ∧ H a = some (.ins C dx fs) ∧ fs.lookup m = none ∧ t σ H fun vs H2 => sp (x :: (vs ++ [])) H2 Q E
section
variable {K : PySem.W.Frag} {σ : St} {H : Hp} {Q : VK} {D : Ends} {v x y : V} {te td ty tv tx : TE} {t : TA} {E : XK} {sp : Sp} {C : Addr} {m f : Str}
theorem w_din (k : ty σ H fun y H1 => td σ H1 fun x H2 => DinOk y x H2 Q) : tDIn ty td σ H Q := k
theorem w_dnot (k : ty σ H fun y H1 => td σ H1 fun x H2 => DnotOk y x H2 Q) : tDNotIn ty td σ H Q := k
theorem w_dget (k : td σ H fun x H1 => ty σ H1 fun y H2 => DgetOk x y H2 Q) : tDGet td ty σ H Q := k
theorem w_dput (k : tv σ H fun v H1 => td σ H1 fun x H2 => ty σ H2 fun y H3 => DputOk v x y H3 (D.nx σ)) : sDPut td ty tv D σ H := k
theorem w_fld (k : te σ H fun x H1 => FldOk K f x H1 Q) : tFld K te f σ H Q := k
theorem w_sto (k : tv σ H fun y H1 => te σ H1 fun x H2 => StoOk K f y x H2 (D.nx σ)) : sFld K te tv f D σ H := k
theorem w_meth (k : te σ H fun x H1 => MeOk C m sp E t σ x H1 Q) : tMeth C m sp [] E te t σ H Q := k
theorem w_meOk {a dx : Addr} {fs : List (Str × V)} (h : H a = some (.ins C dx fs)) (hn : fs.lookup m = none) (k : t σ H fun vs H2 => sp (.ref a :: (vs ++ [])) H2 Q E) : MeOk C m sp E t σ (.ref a) H Q := ⟨a, dx, fs, rfl, h, hn, k⟩
section
variable {α : Type} {g : α → V} {ts : List (Bits × α)} {l : Bits} {w : α} {d : Addr}
theorem w_dgetB (h : Rd H d (.dK (tK g ts))) (hl : alook ts l = some w) (k : Q (g w) H) : DgetOk (.ref d) (.str (B l)) H Q :=
  ⟨d, g w, rfl, .inl ⟨_, Sum.inr (B l), h, rfl, by rw [val_tK, hl]; rfl⟩, k⟩
theorem w_dputB {S : Hp → Prop} (h : H d = some (.dK (tK g ts))) (hz : ts.length < 100000) (k : S (upd H d (.dK (tK g (aput ts l w))))) : DputOk (g w) (.ref d) (.str (B l)) H S :=
  ⟨d, _, rfl, .inl ⟨_, Sum.inr (B l), h, rfl, by rw [tK_len]; exact Nat.lt_of_lt_of_le hz (by decide), rfl⟩, by rw [put_tK]; exact k⟩
end
/-- d.pop(k), d.pop(k, x) -/
def PopK (a : Addr) (y : V) (H : Hp) (Q : VK) : Prop := ∃ kvs k v, H a = some (.dK kvs) ∧ y = kV k ∧ valV kvs k = some v ∧ Q v (upd H a (.dK (dropK kvs k)))
def PopK2 (a : Addr) (y z : V) (H : Hp) (Q : VK) : Prop := ∃ kvs k, H a = some (.dK kvs) ∧ y = kV k ∧ (∀ v, valV kvs k = some v → Q v (upd H a (.dK (dropK kvs k)))) ∧ (valV kvs k = none → Q z H)
def PopD (ty : TE) (σ : St) (x : V) (H : Hp) (Q : VK) : Prop := ∃ a, x = .ref a ∧ IsD H a ∧ ty σ H fun y H2 => PopK a y H2 Q
def PopD2 (ty tx : TE) (σ : St) (x : V) (H : Hp) (Q : VK) : Prop := ∃ a, x = .ref a ∧ IsD H a ∧ ty σ H fun y H2 => tx σ H2 fun z H3 => PopK2 a y z H3 Q
theorem w_pop1 (k : td σ H fun x H1 => PopD ty σ x H1 Q) : tDPop1 td ty σ H Q := k
theorem w_pop2 (k : td σ H fun x H1 => PopD2 ty tx σ x H1 Q) : tDPop2 td ty tx σ H Q := k
section
variable {α : Type} {g : α → V} {ts : List (Bits × α)} {l : Bits} {w : α} {d : Addr}
theorem aput_new {v : α} (h : l ∉ ts.map (·.1)) : aput ts l v = ts ++ [(l, v)] := by
  unfold aput
  rw [if_neg h]
theorem aput_keys {v : α} (h : l ∈ ts.map (·.1)) : (aput ts l v).map (·.1) = ts.map (·.1) := by
  unfold aput
  rw [if_pos h, List.map_map]
  apply List.map_congr_left
  intro p _
  simp only [Function.comp]
  split <;> rfl
theorem alook_of (nd : (ts.map (·.1)).Nodup) (h : (l, w) ∈ ts) : alook ts l = some w := by
  unfold alook
  induction ts with
  | nil => cases h
  | cons p r ih =>
    rw [List.map_cons, List.nodup_cons] at nd
    rw [List.find?_cons]
    rcases List.mem_cons.mp h with e | h
    · subst e
      simp
    · have : ¬ p.1 = l := fun e => nd.1 (by rw [e]; exact List.mem_map.mpr ⟨_, h, rfl⟩)
      rw [decide_eq_false this]
      exact ih nd.2 h
end
/-! ### for over a dict -/
def KeysOk (x : V) (H : Hp) (R : It → Hp → Prop) : Prop := ∃ d o, x = .ref d ∧ ((∃ kvs, H d = some (.frz o (.dK kvs)) ∧ R (Itk d o kvs) H) ∨ ∃ kvs, H d = some (.frz o (.dT kvs)) ∧ R (Itkt d o kvs) H)
theorem w_ikeys {R : It → Hp → Prop} (k : td σ H fun x H1 => KeysOk x H1 R) : iKeys td σ H R := k
theorem w_keysOk {R : It → Hp → Prop} {d : Addr} {o : Obj} {kvs : List (Key × V)} (h : H d = some (.frz o (.dK kvs))) (k : R (Itk d o kvs) H) : KeysOk (.ref d) H R := ⟨d, o, rfl, .inl ⟨kvs, h, k⟩⟩
theorem forK {j : Nat} {tb : TS} {d : Addr} {o : Obj} {α : Type} {g : α → V} {ts : List (Bits × α)} (Pv : Nat → St → Hp → Prop) (hl : ∀ i σ H, Pv i σ H → H d = some (.frz o (.dK (tK g ts)))) (h0 : Pv 0 σ H)
    (hs : ∀ i l w σ' H' (N : St → Hp → Prop), ts[i]? = some (l, w) → Pv i σ' H' → (∀ σ2 H2, Pv (i + 1) σ2 H2 → N σ2 H2) → tb { D with nx := N, ct := N, bk := D.nx } (σ'.set j (some (.str (B l)))) H') (hd : ∀ σ' H', Pv ts.length σ' H' → D.nx σ' H') :
    ForB (Itk d o (tK g ts)) (gName j) tb D σ H :=
  forG (n := ts.length) (Y := fun i x => ∃ l w, ts[i]? = some (l, w) ∧ x = .str (B l)) Pv (fun i σ H hi p => ⟨fun h => ⟨⟨hl i σ H p, by rw [tK_len]; exact h⟩, fun x H' ⟨e, k, v, y, ex⟩ => ⟨e, by
      unfold tK at y
      rw [List.getElem?_map] at y
      cases q : ts[i]? with
      | none => rw [q] at y; cases y
      | some pr =>
        rw [q] at y
        obtain ⟨l, w⟩ := pr
        have y' := Option.some.inj y
        simp only [Prod.mk.injEq] at y'
        exact ⟨l, w, rfl, by rw [ex, ← y'.1]; rfl⟩⟩⟩, fun e => ⟨hl i σ H p, by rw [tK_len]; omega⟩⟩) h0 (fun i x σ' H' N hi ⟨l, w, y, ex⟩ p k => by subst ex; exact hs i l w σ' H' N y p k) hd
def rSortD : List V → Hp → VK → Prop := fun xs H Q => ∃ (a : Addr) (kvs : List (Key × V)) (ks : List Str), xs = [.ref a] ∧ Rd H a (.dK kvs) ∧ kvs.map (·.1) = ks.map Sum.inr ∧ ks.length < 64 ∧
  ∀ ys p, ys.Perm ks → PyProof.Rows.sortedS ys = true → H p = none → Q (.ref p) (upd H p (.lst (ys.map V.str)))
end
end Lw
end

section
/-! the wire: its model and its places -/
namespace Lw
open PySem L2
structure WM where
  width : Nat
  things : List (Bits × Bool)
  lis : List Bits
  told : Option Bits
  many : Nat
structure WOk (M : WM) : Prop where
  w1 : 1 ≤ M.width
  w2 : M.width ≤ 12
  nd : (M.things.map (·.1)).Nodup
  len : ∀ l, l ∈ M.things.map (·.1) → l.length = M.width
  sz : M.things.length ≤ 60
  lnd : M.lis.Nodup
  llen : ∀ l ∈ M.lis, l.length = M.width
  lsz : M.lis.length ≤ 60
  tl : ∀ b, M.told = some b → b.length ≤ M.width ∧ ∀ l ∈ M.lis, b <+: l
  tn : M.told = none → M.lis = []
def tvo : Option Bits → V
  | none => .non
  | some b => .str (B b)
def wf (w : Nat) (t l : Addr) (told : Option Bits) (many : Nat) : List (Str × V) := [("width", .int (w : Int)), ("things", .ref t), ("listening", .ref l), ("told", tvo told), ("many", .int (many : Int))]
def liK (ls : List Bits) : List (Bits × Bool) := ls.map fun l => (l, true)
theorem liK_keys (ls : List Bits) : (liK ls).map (·.1) = ls := by simp [liK, Function.comp_def]
/-- the wire at a -/
structure WAt (CW a dx t l : Addr) (M : WM) (H : Hp) : Prop where
  ob : H a = some (.ins CW dx (wf M.width t l M.told M.many))
  th : H t = some (.dK (tK V.bl M.things))
  li : H l = some (.dK (tK V.bl (liK M.lis)))
  tl : t ≠ l
theorem own_dK {kvs} : Ownd (.dK kvs) := ⟨nsh_dK, fun _ _ q => (by cases q), fun _ q => (by cases q), fun _ q => (by cases q)⟩
theorem own_ins {C dx fs} : Ownd (.ins C dx fs) := ⟨nsh_ins, fun _ _ q => (by cases q), fun _ q => (by cases q), fun _ q => (by cases q)⟩
theorem own_bvs (ls : List Bits) : Ownd (.lst (bvs ls)) := ⟨nsh_bvs _, fun _ _ q => (by cases q), fun _ q => (by cases q), fun _ q => (by cases q)⟩
theorem own_refs (ls : List Addr) : Ownd (.lst (ls.map V.ref)) := ⟨nsh_refs _, fun _ _ q => (by cases q), fun _ q => (by cases q), fun _ q => (by cases q)⟩
theorem own_tup {xs} : Ownd (.tup xs) := ⟨nsh_tup, fun _ _ q => (by cases q), fun _ q => (by cases q), fun _ q => (by cases q)⟩
def oWire (CW a dx t l : Addr) (M : WM) : Own where
  S := WAt CW a dx t l M
  F := [a, t, l]
  loc := fun h s => ⟨h _ (by simp) _ s.ob, h _ (by simp) _ s.th, h _ (by simp) _ s.li, s.tl⟩
  al := fun s b hb => by
    simp only [List.mem_cons, List.not_mem_nil, or_false] at hb
    rcases hb with rfl | rfl | rfl
    · exact ⟨_, s.ob, own_ins⟩
    · exact ⟨_, s.th, own_dK⟩
    · exact ⟨_, s.li, own_dK⟩
section
variable {CW a dx t l : Addr} {M : WM} {H : Hp}
theorem WAt.at_ (s : WAt CW a dx t l M H) : a ≠ t := ne_of s.ob s.th (fun q => by cases q)
theorem WAt.al (s : WAt CW a dx t l M H) : a ≠ l := ne_of s.ob s.li (fun q => by cases q)
end
/-- the class, as the top has made it -/
structure ClW (K : PySem.W.Frag) (CW : Addr) : Prop where
  cl : Cls K CW
  n_width : NoAttr K CW "width"
  n_things : NoAttr K CW "things"
  n_listening : NoAttr K CW "listening"
  n_told : NoAttr K CW "told"
  n_many : NoAttr K CW "many"
section
variable {K : PySem.W.Frag} {CW a dx t l : Addr} {w many : Nat} {told : Option Bits} {H : Hp} {Q : VK} {S : Hp → Prop}
theorem f_width (T : ClW K CW) (h : H a = some (.ins CW dx (wf w t l told many))) (k : Q (.int (w : Int)) H) : FldOk K "width" (.ref a) H Q := ⟨a, CW, dx, _, _, rfl, h, T.cl, T.n_width, by kernel_rfl, k⟩
theorem f_things (T : ClW K CW) (h : H a = some (.ins CW dx (wf w t l told many))) (k : Q (.ref t) H) : FldOk K "things" (.ref a) H Q := ⟨a, CW, dx, _, _, rfl, h, T.cl, T.n_things, by kernel_rfl, k⟩
theorem f_listening (T : ClW K CW) (h : H a = some (.ins CW dx (wf w t l told many))) (k : Q (.ref l) H) : FldOk K "listening" (.ref a) H Q := ⟨a, CW, dx, _, _, rfl, h, T.cl, T.n_listening, by kernel_rfl, k⟩
theorem f_told (T : ClW K CW) (h : H a = some (.ins CW dx (wf w t l told many))) (k : Q (tvo told) H) : FldOk K "told" (.ref a) H Q := ⟨a, CW, dx, _, _, rfl, h, T.cl, T.n_told, by kernel_rfl, k⟩
theorem f_tolds {b : Bits} (T : ClW K CW) (h : H a = some (.ins CW dx (wf w t l (some b) many))) (k : Q (.str (B b)) H) : FldOk K "told" (.ref a) H Q := f_told T h k
theorem f_many (T : ClW K CW) (h : H a = some (.ins CW dx (wf w t l told many))) (k : Q (.int (many : Int)) H) : FldOk K "many" (.ref a) H Q := ⟨a, CW, dx, _, _, rfl, h, T.cl, T.n_many, by kernel_rfl, k⟩
end
/-! ### what becomes of a wire -/
def WM.keys (M : WM) : List Bits := M.things.map (·.1)
def WM.hang (M : WM) (l : Bits) : WM := { M with things := M.things ++ [(l, false)] }
def WM.off (M : WM) (l : Bits) : WM := { M with things := adrop M.things l, lis := M.lis.filter fun x => decide (x ≠ l) }
def WM.set (M : WM) (l : Bits) (b : Bool) : WM := { M with things := aput M.things l b }
def WM.begin (M : WM) (all : Bool) : WM := { M with told := some [], lis := (M.things.filter fun p => all || p.2).map (·.1) }
def WM.look (M : WM) : WM := { M with many := M.many + 1 }
def WM.say (M : WM) (b : Bits) (c : Bool) : WM := { M with told := some (b ++ [c]), lis := M.lis.filter fun l => decide (b ++ [c] <+: l) }
section
variable {M : WM} {l b : Bits} {c : Bool}
theorem adrop_keys {α : Type} (ts : List (Bits × α)) (l : Bits) : (adrop ts l).map (·.1) = (ts.map (·.1)).filter fun x => decide (x ≠ l) := by
  unfold adrop
  rw [List.filter_map]
  rfl
theorem WOk.hang (h : WOk M) (hl : l ∉ M.keys) (hw : l.length = M.width) (hz : M.things.length < 60) : WOk (M.hang l) where
  w1 := h.w1
  w2 := h.w2
  nd := by
    show (List.map _ (M.things ++ [(l, false)])).Nodup
    rw [List.map_append]
    exact List.nodup_append.mpr ⟨h.nd, by simp, fun x hx y hy e => by
      simp at hy
      subst hy
      subst e
      exact hl hx⟩
  len := fun x hx => by
    change x ∈ List.map _ (M.things ++ [(l, false)]) at hx
    rw [List.map_append, List.mem_append] at hx
    rcases hx with hx | hx
    · exact h.len x hx
    · simp at hx
      rw [hx]
      exact hw
  sz := by
    show (M.things ++ [(l, false)]).length ≤ 60
    rw [List.length_append]
    simp
    omega
  lnd := h.lnd
  llen := h.llen
  lsz := h.lsz
  tl := h.tl
  tn := h.tn
theorem WOk.off (h : WOk M) : WOk (M.off l) where
  w1 := h.w1
  w2 := h.w2
  nd := by
    show ((adrop M.things l).map (·.1)).Nodup
    rw [adrop_keys]
    exact h.nd.filter _
  len := fun x hx => by
    change x ∈ (adrop M.things l).map (·.1) at hx
    rw [adrop_keys] at hx
    exact h.len x (List.mem_filter.mp hx).1
  sz := Nat.le_trans (List.length_filter_le _ _) h.sz
  lnd := h.lnd.filter _
  llen := fun x hx => h.llen x (List.mem_filter.mp hx).1
  lsz := Nat.le_trans (List.length_filter_le _ _) h.lsz
  tl := fun b hb => ⟨(h.tl b hb).1, fun x hx => (h.tl b hb).2 x (List.mem_filter.mp hx).1⟩
  tn := fun hn => by
    show M.lis.filter _ = []
    rw [h.tn hn]
    rfl
theorem WOk.set (h : WOk M) (hl : l ∈ M.keys) : WOk (M.set l c) where
  w1 := h.w1
  w2 := h.w2
  nd := by
    show ((aput M.things l c).map (·.1)).Nodup
    rw [aput_keys hl]
    exact h.nd
  len := fun x hx => by
    change x ∈ (aput M.things l c).map (·.1) at hx
    rw [aput_keys hl] at hx
    exact h.len x hx
  sz := by
    have : (aput M.things l c).length = M.things.length := by
      rw [← List.length_map (f := (·.1)), aput_keys hl, List.length_map]
    show (aput M.things l c).length ≤ 60
    rw [this]
    exact h.sz
  lnd := h.lnd
  llen := h.llen
  lsz := h.lsz
  tl := h.tl
  tn := h.tn
theorem begin_sub (M : WM) (c : Bool) : ((M.things.filter fun p => c || p.2).map (·.1)).Sublist (M.things.map (·.1)) := (List.filter_sublist).map _
theorem WOk.begin (h : WOk M) : WOk (M.begin c) where
  w1 := h.w1
  w2 := h.w2
  nd := h.nd
  len := h.len
  sz := h.sz
  lnd := h.nd.sublist (begin_sub M c)
  llen := fun x hx => h.len x ((begin_sub M c).subset hx)
  lsz := Nat.le_trans (begin_sub M c).length_le (by rw [List.length_map]; exact h.sz)
  tl := fun b hb => by
    cases hb
    exact ⟨Nat.zero_le _, fun x _ => List.nil_prefix⟩
  tn := fun hn => by cases hn
theorem WOk.look (h : WOk M) : WOk M.look := ⟨h.w1, h.w2, h.nd, h.len, h.sz, h.lnd, h.llen, h.lsz, h.tl, h.tn⟩
theorem WOk.say (h : WOk M) (hb : b.length < M.width) : WOk (M.say b c) where
  w1 := h.w1
  w2 := h.w2
  nd := h.nd
  len := h.len
  sz := h.sz
  lnd := h.lnd.filter _
  llen := fun x hx => h.llen x (List.mem_filter.mp hx).1
  lsz := Nat.le_trans (List.length_filter_le _ _) h.lsz
  tl := fun d hd => by
    cases hd
    exact ⟨by simp; exact hb, fun x hx => of_decide_eq_true (List.mem_filter.mp hx).2⟩
  tn := fun hn => by cases hn
end
end Lw
end

section
/-! walks: the model of a step, in plain Lean -/
namespace Lw
open PySem L2
inductive Res where
  | none | found (x : Bits) | lost
  deriving DecidableEq
structure KM where
  kind : Bool
  rest : List Bits
  said : Option Bits
  names : List Bits
  seen : List (Bits × Bool × Bool)
def KM.pend (N : KM) : List Bits := N.rest ++ N.said.toList
def KM.Sz (N : KM) : Prop := N.rest.length ≤ 9000 ∧ N.names.length ≤ 9000 ∧ N.seen.length ≤ 9000
/-- behind a bit: all bits are said, or not -/
def KM.ended (N : KM) (w : Nat) (b : Bits) : KM × Res := if b.length < w then ({ N with said := some b }, .none) else ({ N with said := Option.none, names := N.names ++ [b] }, .found b)
/-- a round begun, and the bits of a beginning said -/
def WM.tell (M : WM) (all : Bool) (g : Bits) : WM := { M with told := some g, lis := ((M.things.filter fun p => all || p.2).map (·.1)).filter fun l => decide (g <+: l) }
def stepB (M : WM) (N : KM) (g : Bits) : WM × KM × Res := (M.tell N.kind g, KM.ended { N with rest := N.rest.dropLast } M.width g)
def stepL (M : WM) (N : KM) (b : Bits) : WM × KM × Res :=
  let z := lookZ M.lis b false
  let o := lookZ M.lis b true
  let N1 : KM := { N with seen := N.seen ++ [(b, z, o)] }
  if (!z && !o) = true then (M.look, { N1 with said := Option.none }, .lost)
  else (M.look.say b (!z), KM.ended (if (z && o) = true then { N1 with rest := N1.rest ++ [b ++ [true]] } else N1) M.width (b ++ [!z]))
def kstep (M : WM) (N : KM) : WM × KM × Res := match N.said with
  | some b => stepL M N b
  | Option.none => stepB M N (N.rest.getLastD [])
def KM.over (N : KM) : Bool := decide (N.said = Option.none) && decide (N.rest = [])
/-- the walk speaks of the wire's round -/
def Link (M : WM) (N : KM) : Prop := ∀ b, N.said = some b → M.told = some b
/-- a is left of b: where they part, a has a 0 and b a 1 -/
def Lft (a b : Bits) : Prop := ∃ p s t, a = p ++ false :: s ∧ b = p ++ true :: t
theorem Lft.app {a b : Bits} (h : Lft a b) (x y : Bits) : Lft (a ++ x) (b ++ y) := by
  obtain ⟨p, s, t, rfl, rfl⟩ := h
  exact ⟨p, s ++ x, t ++ y, by simp, by simp⟩
theorem Lft.appr {a b : Bits} (h : Lft a b) (y : Bits) : Lft a (b ++ y) := by
  have := h.app [] y
  rwa [List.append_nil] at this
theorem Lft.appl {a b : Bits} (h : Lft a b) (x : Bits) : Lft (a ++ x) b := by
  have := h.app x []
  rwa [List.append_nil] at this
theorem Lft.pre {a b c : Bits} (h : Lft a b) (q : b <+: c) : Lft a c := by
  obtain ⟨t, rfl⟩ := q
  exact h.appr t
theorem Lft.two (b : Bits) : Lft (b ++ [false]) (b ++ [true]) := ⟨b, [], [], rfl, rfl⟩
theorem pre_part {p s t : Bits} : ¬ (p ++ false :: s <+: p ++ true :: t) := by
  rw [List.prefix_append_right_inj]
  rintro ⟨u, h⟩
  simp at h
theorem pre_part2 {p s t : Bits} : ¬ (p ++ true :: t <+: p ++ false :: s) := by
  rw [List.prefix_append_right_inj]
  rintro ⟨u, h⟩
  simp at h
theorem Lft.np {a b : Bits} (h : Lft a b) : ¬ a <+: b := by
  obtain ⟨p, s, t, rfl, rfl⟩ := h
  exact pre_part
theorem Lft.np2 {a b : Bits} (h : Lft a b) : ¬ b <+: a := by
  obtain ⟨p, s, t, rfl, rfl⟩ := h
  exact pre_part2
theorem Lft.ne {a b : Bits} (h : Lft a b) : a ≠ b := fun e => h.np (by rw [e]; exact List.prefix_refl _)
theorem blt_pre (p s t : Bits) : blt (p ++ s) (p ++ t) = blt s t := by
  induction p with
  | nil => rfl
  | cons x p ih => simp [blt, ih]
theorem Lft.blt {a b : Bits} (h : Lft a b) : blt a b = true := by
  obtain ⟨p, s, t, rfl, rfl⟩ := h
  rw [blt_pre]
  rfl
theorem snoc_pre {g b : Bits} {c : Bool} (h : b ++ [c] <+: g) : b <+: g := (List.prefix_append b [c]).trans h
/-- what stays true of a walk, whatever becomes of its wire; U: the beginnings that it may come to -/
structure KI (w : Nat) (U : Bits → Prop) (N : KM) : Prop where
  pr : ∀ g ∈ N.rest, g.length ≤ w ∧ U g
  ps : ∀ b, N.said = some b → b.length < w ∧ U b
  pe : ∀ e ∈ N.seen, e.1.length < w ∧ U e.1
  pn : ∀ x ∈ N.names, x.length = w ∧ U x
  ord : N.pend.Pairwise fun a b => Lft b a
  sn : ∀ e ∈ N.seen, ∀ g ∈ N.pend, ¬ g <+: e.1
  sd : (N.seen.map (·.1)).Nodup
  nn : ∀ x ∈ N.names, ∀ g ∈ N.pend, Lft x g
  nr : Rise N.names
  rs : N.rest.length ≤ N.seen.length + 1
theorem pend_said {N : KM} {b : Bits} (h : N.said = some b) : N.pend = N.rest ++ [b] := by simp [KM.pend, h]
theorem pend_none {N : KM} (h : N.said = none) : N.pend = N.rest := by simp [KM.pend, h]
/-- one pending beginning is taken further: b to b ++ t -/
theorem KI.ended {w : Nat} {U : Bits → Prop} {N : KM} {b : Bits} (pr : ∀ g ∈ N.rest, g.length ≤ w ∧ U g) (pe : ∀ e ∈ N.seen, e.1.length < w ∧ U e.1) (pn : ∀ x ∈ N.names, x.length = w ∧ U x)
    (ord : (N.rest ++ [b]).Pairwise fun a b => Lft b a) (sn : ∀ e ∈ N.seen, ∀ g ∈ N.rest ++ [b], ¬ g <+: e.1) (sd : (N.seen.map (·.1)).Nodup) (nn : ∀ x ∈ N.names, ∀ g ∈ N.rest ++ [b], Lft x g) (nr : Rise N.names)
    (rs : N.rest.length ≤ N.seen.length + 1) (hb : b.length ≤ w) (hU : U b) : KI w U (N.ended w b).1 := by
  unfold KM.ended
  by_cases h : b.length < w
  · rw [if_pos h]
    exact ⟨pr, fun c hc => by cases hc; exact ⟨h, hU⟩, pe, pn, by rw [pend_said rfl]; exact ord, by rw [pend_said rfl]; exact sn, sd, by rw [pend_said rfl]; exact nn, nr, rs⟩
  · rw [if_neg h]
    obtain ⟨o1, _, o3⟩ := List.pairwise_append.mp ord
    refine ⟨pr, fun c hc => (by cases hc), pe, fun x hx => ?_, by rw [pend_none rfl]; exact o1, ?_, sd, ?_, ?_, rs⟩
    · rcases List.mem_append.mp hx with hx | hx
      · exact pn x hx
      · rw [List.mem_singleton.mp hx]
        exact ⟨by omega, hU⟩
    · rw [pend_none rfl]
      exact fun e he g hg => sn e he g (List.mem_append_left _ hg)
    · rw [pend_none rfl]
      intro x hx g hg
      rcases List.mem_append.mp hx with hx | hx
      · exact nn x hx g (List.mem_append_left _ hg)
      · rw [List.mem_singleton.mp hx]
        exact o3 g hg b (by simp)
    · refine List.pairwise_append.mpr ⟨nr, by simp, fun x hx y hy => ?_⟩
      rw [List.mem_singleton.mp hy]
      exact (nn x hx b (by simp)).blt
theorem KI.stepB {w : Nat} {U : Bits → Prop} {M : WM} {N : KM} (h : KI w U N) (hw : M.width = w) (hs : N.said = none) (hr : N.rest ≠ []) : KI w U (stepB M N (N.rest.getLastD [])).2.1 := by
  have er : N.rest = N.rest.dropLast ++ [N.rest.getLastD []] := by
    have e := (List.dropLast_concat_getLast hr).symm
    have e2 : N.rest.getLastD [] = N.rest.getLast hr := by rw [List.getLastD_eq_getLast?, List.getLast?_eq_some_getLast hr]; rfl
    rw [e2]
    exact e
  have hm : N.rest.getLastD [] ∈ N.rest := by rw [er]; simp
  have ep : N.pend = N.rest.dropLast ++ [N.rest.getLastD []] := by rw [pend_none hs]; exact er
  unfold Lw.stepB
  rw [hw]
  have ord := h.ord
  have sn := h.sn
  have nn := h.nn
  rw [ep] at ord sn nn
  exact KI.ended (N := { N with rest := N.rest.dropLast }) (fun g hg => h.pr g ((List.dropLast_sublist _).subset hg)) h.pe h.pn ord sn h.sd nn h.nr (by have := h.rs; simp; omega) (h.pr _ hm).1 (h.pr _ hm).2
theorem lookZ_ex {ls : List Bits} {b : Bits} {c : Bool} : lookZ ls b c = true ↔ ∃ l ∈ ls, b ++ [c] <+: l := by
  unfold lookZ
  rw [List.any_eq_true]
  simp
theorem KI.stepL {w : Nat} {U : Bits → Prop} {M : WM} {N : KM} {b : Bits} (h : KI w U N) (hw : M.width = w) (hs : N.said = some b) (hU : ∀ c, lookZ M.lis b c = true → U (b ++ [c])) : KI w U (stepL M N b).2.1 := by
  have ep := pend_said hs
  have ord := h.ord
  have sn := h.sn
  have nn := h.nn
  rw [ep] at ord sn nn
  obtain ⟨o1, _, o3⟩ := List.pairwise_append.mp ord
  obtain ⟨hbl, hbU⟩ := h.ps b hs
  have ob : ∀ g ∈ N.rest, Lft b g := fun g hg => o3 g hg b (by simp)
  unfold Lw.stepL
  simp only
  have hpe : ∀ e ∈ N.seen ++ [(b, lookZ M.lis b false, lookZ M.lis b true)], e.1.length < w ∧ U e.1 := fun e he => by
    rcases List.mem_append.mp he with he | he
    · exact h.pe e he
    · rw [List.mem_singleton.mp he]
      exact ⟨hbl, hbU⟩
  have hsd : ((N.seen ++ [(b, lookZ M.lis b false, lookZ M.lis b true)]).map (·.1)).Nodup := by
    rw [List.map_append]
    refine List.nodup_append.mpr ⟨h.sd, by simp, fun x hx y hy e => ?_⟩
    have hy : y = b := by simpa using hy
    obtain ⟨e1, he1, rfl⟩ := List.mem_map.mp hx
    exact sn e1 he1 b (by simp) (by rw [e, hy]; exact List.prefix_refl _)
  by_cases hzo : (!lookZ M.lis b false && !lookZ M.lis b true) = true
  · rw [if_pos hzo]
    refine ⟨h.pr, fun c hc => (by cases hc), hpe, h.pn, by rw [pend_none rfl]; exact o1, ?_, hsd, ?_, h.nr, by have := h.rs; simp; omega⟩
    · rw [pend_none rfl]
      intro e he g hg
      rcases List.mem_append.mp he with he | he
      · exact sn e he g (List.mem_append_left _ hg)
      · rw [List.mem_singleton.mp he]
        exact (ob g hg).np2
    · rw [pend_none rfl]
      exact fun x hx g hg => nn x hx g (List.mem_append_left _ hg)
  · rw [if_neg hzo]
    simp only
    rw [hw]
    have hc : lookZ M.lis b (!lookZ M.lis b false) = true := by
      cases e : lookZ M.lis b false with
      | true => exact e
      | false =>
        cases e2 : lookZ M.lis b true with
        | true => exact e2
        | false => rw [e, e2] at hzo; exact absurd rfl hzo
    have hUc := hU _ hc
    generalize hcc : (!lookZ M.lis b false) = c at hc hUc ⊢
    by_cases hb2 : (lookZ M.lis b false && lookZ M.lis b true) = true
    · rw [if_pos hb2]
      have hz : lookZ M.lis b false = true := (Bool.and_eq_true_iff.mp hb2).1
      have ho : lookZ M.lis b true = true := (Bool.and_eq_true_iff.mp hb2).2
      have ec : c = false := by rw [← hcc, hz]; rfl
      subst ec
      refine KI.ended (N := { N with seen := N.seen ++ [(b, lookZ M.lis b false, lookZ M.lis b true)], rest := N.rest ++ [b ++ [true]] }) (fun g hg => ?_) hpe h.pn ?_ (fun e he g hg => ?_) hsd (fun x hx g hg => ?_) h.nr ?_ (by simp; omega) hUc
      · rcases List.mem_append.mp hg with hg | hg
        · exact h.pr g hg
        · rw [List.mem_singleton.mp hg]
          exact ⟨by simp; omega, hU true ho⟩
      · refine List.pairwise_append.mpr ⟨List.pairwise_append.mpr ⟨o1, by simp, fun g hg y hy => ?_⟩, by simp, fun g hg y hy => ?_⟩
        · rw [List.mem_singleton.mp hy]
          exact (ob g hg).appl _
        · rw [List.mem_singleton.mp hy]
          rcases List.mem_append.mp hg with hg | hg
          · exact (ob g hg).appl _
          · rw [List.mem_singleton.mp hg]
            exact Lft.two b
      · have hg' : g ∈ N.rest ∨ ∃ c, g = b ++ [c] := by
          rcases List.mem_append.mp hg with hg | hg
          · rcases List.mem_append.mp hg with hg | hg
            · exact .inl hg
            · exact .inr ⟨true, List.mem_singleton.mp hg⟩
          · exact .inr ⟨false, List.mem_singleton.mp hg⟩
        rcases List.mem_append.mp he with he | he
        · rcases hg' with hg | ⟨c, rfl⟩
          · exact sn e he g (List.mem_append_left _ hg)
          · exact fun q => sn e he b (by simp) (snoc_pre q)
        · rw [List.mem_singleton.mp he]
          rcases hg' with hg | ⟨c, rfl⟩
          · exact (ob g hg).np2
          · intro q
            have := q.length_le
            simp at this
            exact absurd this (Nat.not_succ_le_self _)
      · rcases List.mem_append.mp hg with hg | hg
        · rcases List.mem_append.mp hg with hg | hg
          · exact nn x hx g (List.mem_append_left _ hg)
          · rw [List.mem_singleton.mp hg]
            exact (nn x hx b (by simp)).appr _
        · rw [List.mem_singleton.mp hg]
          exact (nn x hx b (by simp)).appr _
      · have := h.rs
        simp
        omega
    · rw [if_neg hb2]
      refine KI.ended (N := { N with seen := N.seen ++ [(b, lookZ M.lis b false, lookZ M.lis b true)] }) h.pr hpe h.pn ?_ (fun e he g hg => ?_) hsd (fun x hx g hg => ?_) h.nr (by have := h.rs; simp; omega) (by simp; omega) hUc
      · refine List.pairwise_append.mpr ⟨o1, by simp, fun g hg y hy => ?_⟩
        rw [List.mem_singleton.mp hy]
        exact (ob g hg).appl _
      · have hg' : g ∈ N.rest ∨ g = b ++ [c] := by
          rcases List.mem_append.mp hg with hg | hg
          · exact .inl hg
          · exact .inr (List.mem_singleton.mp hg)
        rcases List.mem_append.mp he with he | he
        · rcases hg' with hg | rfl
          · exact sn e he g (List.mem_append_left _ hg)
          · exact fun q => sn e he b (by simp) (snoc_pre q)
        · rw [List.mem_singleton.mp he]
          rcases hg' with hg | rfl
          · exact (ob g hg).np2
          · intro q
            have := q.length_le
            simp at this
            exact absurd this (Nat.not_succ_le_self _)
      · rcases List.mem_append.mp hg with hg | hg
        · exact nn x hx g (List.mem_append_left _ hg)
        · rw [List.mem_singleton.mp hg]
          exact (nn x hx b (by simp)).appr _
/-! ### runs -/
/-- what a walk and its wire must be for a step -/
structure KP (M : WM) (N : KM) : Prop where
  ls : ∀ b, N.said = some b → b.length < M.width ∧ M.told = some b
  lr : ∀ g ∈ N.rest, g.length ≤ M.width
theorem KI.kp {w : Nat} {U : Bits → Prop} {M : WM} {N : KM} (h : KI w U N) (hw : M.width = w) (l : Link M N) : KP M N := ⟨fun b hb => ⟨by rw [hw]; exact (h.ps b hb).1, l b hb⟩, fun g hg => by rw [hw]; exact (h.pr g hg).1⟩
theorem ended_said {N : KM} {w : Nat} {b : Bits} : ∀ c, (N.ended w b).1.said = some c → c = b ∧ b.length < w ∧ (N.ended w b).2 = .none := fun c hc => by
  unfold KM.ended at hc ⊢
  by_cases h : b.length < w
  · rw [if_pos h] at hc ⊢
    cases hc
    exact ⟨rfl, h, rfl⟩
  · rw [if_neg h] at hc
    cases hc
theorem ended_rest {N : KM} {w : Nat} {b : Bits} : (N.ended w b).1.rest = N.rest ∧ (N.ended w b).1.seen = N.seen ∧ (N.ended w b).1.kind = N.kind := by
  unfold KM.ended
  by_cases h : b.length < w
  · rw [if_pos h]
    exact ⟨rfl, rfl, rfl⟩
  · rw [if_neg h]
    exact ⟨rfl, rfl, rfl⟩
theorem ended_names {N : KM} {w : Nat} {b : Bits} : (N.ended w b).1.names.length ≤ N.names.length + 1 := by
  unfold KM.ended
  by_cases h : b.length < w
  · rw [if_pos h]
    exact Nat.le_succ _
  · rw [if_neg h]
    simp
theorem ended_none {N : KM} {w : Nat} {b : Bits} (h : (N.ended w b).2 = .none) : (N.ended w b).1.said = some b ∧ b.length < w := by
  unfold KM.ended at h ⊢
  by_cases hb : b.length < w
  · rw [if_pos hb]
    exact ⟨rfl, hb⟩
  · rw [if_neg hb] at h
    cases h
theorem kstep_none {M : WM} {N : KM} (h : N.said = none) : kstep M N = stepB M N (N.rest.getLastD []) := by unfold kstep; rw [h]
theorem kstep_some {M : WM} {N : KM} {b : Bits} (h : N.said = some b) : kstep M N = stepL M N b := by unfold kstep; rw [h]
theorem kstep_width (M : WM) (N : KM) : (kstep M N).1.width = M.width ∧ (kstep M N).1.things = M.things := by
  cases h : N.said with
  | none =>
    rw [kstep_none h]
    exact ⟨rfl, rfl⟩
  | some b =>
    rw [kstep_some h]
    unfold stepL
    simp only
    split
    · exact ⟨rfl, rfl⟩
    · exact ⟨rfl, rfl⟩
/-- sizes behind a step -/
theorem kstep_size (M : WM) (N : KM) : (kstep M N).2.1.rest.length ≤ N.rest.length + 1 ∧ (kstep M N).2.1.names.length ≤ N.names.length + 1 ∧ (kstep M N).2.1.seen.length ≤ N.seen.length + 1 := by
  cases h : N.said with
  | none =>
    rw [kstep_none h]
    unfold stepB
    obtain ⟨e1, e2, _⟩ := ended_rest (N := { N with rest := N.rest.dropLast }) (w := M.width) (b := N.rest.getLastD [])
    refine ⟨?_, ended_names, ?_⟩
    · show (KM.ended _ _ _).1.rest.length ≤ _
      rw [e1]
      simp
      omega
    · show (KM.ended _ _ _).1.seen.length ≤ _
      rw [e2]
      exact Nat.le_succ _
  | some b =>
    rw [kstep_some h]
    unfold stepL
    simp only
    split
    · simp
    · simp only
      obtain ⟨e1, e2, _⟩ := ended_rest (N := if (lookZ M.lis b false && lookZ M.lis b true) = true then { N with seen := N.seen ++ [(b, lookZ M.lis b false, lookZ M.lis b true)], rest := N.rest ++ [b ++ [true]] } else { N with seen := N.seen ++ [(b, lookZ M.lis b false, lookZ M.lis b true)] }) (w := M.width) (b := b ++ [!lookZ M.lis b false])
      refine ⟨?_, ?_, ?_⟩
      · rw [e1]
        split <;> simp
      · refine Nat.le_trans ended_names ?_
        split <;> simp
      · rw [e2]
        split <;> simp
theorem kstep_kind (M : WM) (N : KM) : (kstep M N).2.1.kind = N.kind := by
  cases h : N.said with
  | none =>
    rw [kstep_none h]
    unfold stepB
    exact (ended_rest (N := { N with rest := N.rest.dropLast }) (w := M.width) (b := N.rest.getLastD [])).2.2
  | some b =>
    rw [kstep_some h]
    unfold stepL
    simp only
    split
    · rfl
    · refine ended_rest.2.2.trans ?_
      split <;> rfl
theorem getLastD_mem {ls : List Bits} (h : ls ≠ []) : ls.getLastD [] ∈ ls := by
  rw [List.getLastD_eq_getLast?, List.getLast?_eq_some_getLast h]
  exact List.getLast_mem h
theorem KP.step {M : WM} {N : KM} (h : KP M N) (ho : N.over = false) : KP (kstep M N).1 (kstep M N).2.1 := by
  cases hs : N.said with
  | none =>
    have hr : N.rest ≠ [] := fun e => by simp [KM.over, hs, e] at ho
    rw [kstep_none hs]
    unfold stepB
    refine ⟨fun b hb => ?_, fun g hg => ?_⟩
    · obtain ⟨rfl, hl, _⟩ := ended_said b hb
      exact ⟨hl, rfl⟩
    · change g ∈ (KM.ended _ _ _).1.rest at hg
      rw [ended_rest.1] at hg
      exact h.lr g ((List.dropLast_sublist _).subset hg)
  | some b =>
    obtain ⟨hb, _⟩ := h.ls b hs
    rw [kstep_some hs]
    unfold stepL
    simp only
    split
    · exact ⟨fun c hc => (by cases hc), h.lr⟩
    · refine ⟨fun c hc => ?_, fun g hg => ?_⟩
      · obtain ⟨rfl, hl, _⟩ := ended_said c hc
        exact ⟨hl, rfl⟩
      · change g ∈ (KM.ended _ _ _).1.rest at hg
        rw [ended_rest.1] at hg
        split at hg
        · rcases List.mem_append.mp hg with hg | hg
          · exact h.lr g hg
          · rw [List.mem_singleton.mp hg]
            show (b ++ [true]).length ≤ M.width
            simp
            omega
        · exact h.lr g hg
/-- how far a round may go yet -/
def KM.gap (w : Nat) (N : KM) : Nat := match N.said with
  | some b => w - b.length
  | none => w + 1
theorem gap_some {w : Nat} {N : KM} {b : Bits} (e : N.said = some b) : N.gap w = w - b.length := by unfold KM.gap; rw [e]
theorem gap_none {w : Nat} {N : KM} (e : N.said = none) : N.gap w = w + 1 := by unfold KM.gap; rw [e]
theorem over_some {N : KM} {b : Bits} (e : N.said = some b) : N.over = false := by unfold KM.over; rw [e]; rfl
theorem kstep_gap {M : WM} {N : KM} (h : KP M N) (hn : (kstep M N).2.2 = .none) : (kstep M N).2.1.gap M.width < N.gap M.width ∧ (kstep M N).2.1.over = false := by
  cases hs : N.said with
  | none =>
    rw [kstep_none hs] at hn ⊢
    unfold stepB at hn ⊢
    obtain ⟨e, hl⟩ := ended_none hn
    refine ⟨?_, over_some e⟩
    rw [gap_some e, gap_none hs]
    omega
  | some b =>
    obtain ⟨hb, _⟩ := h.ls b hs
    rw [kstep_some hs] at hn ⊢
    unfold stepL at hn ⊢
    simp only at hn ⊢
    split at hn
    · cases hn
    · rename_i hz
      rw [if_neg hz]
      obtain ⟨e, hl⟩ := ended_none hn
      refine ⟨?_, over_some e⟩
      rw [gap_some e, gap_some hs]
      rw [List.length_append] at hl ⊢
      simp only [List.length_cons, List.length_nil] at hl ⊢
      omega
/-- a round -/
inductive KRound : Nat → WM → KM → WM → KM → Res → Prop
  | last {M : WM} {N : KM} (h : (kstep M N).2.2 ≠ .none) : KRound 1 M N (kstep M N).1 (kstep M N).2.1 (kstep M N).2.2
  | more {n : Nat} {M M' : WM} {N N' : KM} {r : Res} (h : (kstep M N).2.2 = .none) (t : KRound n (kstep M N).1 (kstep M N).2.1 M' N' r) : KRound (n + 1) M N M' N' r
/-- a run to its end -/
inductive KRun : Nat → WM → KM → WM → KM → Prop
  | last {M : WM} {N : KM} (h : N.over = true) : KRun 0 M N M N
  | more {n : Nat} {M M' : WM} {N N' : KM} (h : N.over = false) (t : KRun n (kstep M N).1 (kstep M N).2.1 M' N') : KRun (n + 1) M N M' N'
theorem kround_sz {j : Nat} {M M1 : WM} {N N1 : KM} {r : Res} (t : KRound j M N M1 N1 r) : N1.rest.length ≤ N.rest.length + j ∧ N1.names.length ≤ N.names.length + j ∧ N1.seen.length ≤ N.seen.length + j ∧ M1.width = M.width ∧ M1.things = M.things ∧ r ≠ .none := by
  induction t with
  | last h2 =>
    rename_i M N
    obtain ⟨a, b, c⟩ := kstep_size M N
    exact ⟨a, b, c, (kstep_width M N).1, (kstep_width M N).2, h2⟩
  | more h2 t ih =>
    rename_i n M M' N N' r
    obtain ⟨a, b, c⟩ := kstep_size M N
    obtain ⟨a2, b2, c2, d2, e2, f2⟩ := ih
    exact ⟨by omega, by omega, by omega, d2.trans (kstep_width M N).1, e2.trans (kstep_width M N).2, f2⟩
end Lw
end

section
/-! a walk in the heap -/
namespace Lw
open PySem L2
theorem begin_tell (M : WM) (c : Bool) : M.begin c = M.tell c [] := by
  unfold WM.begin WM.tell
  congr 1
  rw [eq_comm, List.filter_eq_self]
  intro a _
  simp
theorem tell_say (M : WM) (c : Bool) (g : Bits) (b : Bool) : (M.tell c g).say g b = M.tell c (g ++ [b]) := by
  unfold WM.say WM.tell
  simp only
  congr 1
  rw [List.filter_filter]
  apply List.filter_congr
  intro l _
  rw [Bool.eq_iff_iff]
  simp only [Bool.and_eq_true, decide_eq_true_eq]
  exact ⟨fun h => h.1, fun h => ⟨h, snoc_pre h⟩⟩
theorem tell_ok {M : WM} (h : WOk M) {c : Bool} (g : Bits) : g.length ≤ M.width → WOk (M.tell c g) := by
  induction hn : g.length generalizing g with
  | zero =>
    intro _
    rw [List.length_eq_zero_iff.mp hn, ← begin_tell]
    exact h.begin
  | succ n ih =>
    intro hl
    have hne : g ≠ [] := fun e => by rw [e] at hn; cases hn
    have e := (List.dropLast_concat_getLast hne).symm
    have hd : g.dropLast.length = n := by rw [List.length_dropLast]; omega
    have := (ih g.dropLast hd (by omega)).say (b := g.dropLast) (c := g.getLast hne) (by show _ < M.width; omega)
    rw [tell_say, ← e] at this
    exact this
theorem kstep_ok {M : WM} {N : KM} (h : WOk M) (p : KP M N) (ho : N.over = false) : WOk (kstep M N).1 := by
  cases hs : N.said with
  | none =>
    have hr : N.rest ≠ [] := fun e => by simp [KM.over, hs, e] at ho
    rw [kstep_none hs]
    exact tell_ok h _ (p.lr _ (getLastD_mem hr))
  | some b =>
    rw [kstep_some hs]
    unfold stepL
    simp only
    split
    · exact h.look
    · exact h.look.say (p.ls b hs).1
abbrev kindS (c : Bool) : Str := if c = true then "all" else "alarm"
def kf (a : Addr) (c : Bool) (r : Addr) (said : Option Bits) (n s : Addr) : List (Str × V) := [("wire", .ref a), ("kind", .str (kindS c)), ("rest", .ref r), ("said", tvo said), ("names", .ref n), ("seen", .ref s)]
def sTup (e : Bits × Bool × Bool) : HO := .tup [.str (B e.1), .bl e.2.1, .bl e.2.2]
/-- the walk at k -/
structure KAt (CK k dx a r n s : Addr) (ps : List Addr) (N : KM) (H : Hp) : Prop where
  ob : H k = some (.ins CK dx (kf a N.kind r N.said n s))
  rs : H r = some (.lst (bvs N.rest))
  nm : H n = some (.lst (bvs N.names))
  sn : H s = some (.lst (ps.map V.ref))
  ts : ps.map H = N.seen.map fun e => some (sTup e)
  rn : r ≠ n
  rS : r ≠ s
  nS : n ≠ s
theorem KAt.mem {CK k dx a r n s : Addr} {ps : List Addr} {N : KM} {H : Hp} (h : KAt CK k dx a r n s ps N H) {p : Addr} (hp : p ∈ ps) : ∃ e, H p = some (sTup e) := by
  have : H p ∈ ps.map H := List.mem_map_of_mem hp
  rw [h.ts] at this
  obtain ⟨e, _, he⟩ := List.mem_map.mp this
  exact ⟨e, he.symm⟩
theorem KAt.loc {CK k dx a r n s : Addr} {ps : List Addr} {N : KM} {H H' : Hp} (h : ∀ b ∈ [k, r, n, s] ++ ps, ∀ o, H b = some o → H' b = some o) (g : KAt CK k dx a r n s ps N H) : KAt CK k dx a r n s ps N H' where
  ob := h _ (by simp) _ g.ob
  rs := h _ (by simp) _ g.rs
  nm := h _ (by simp) _ g.nm
  sn := h _ (by simp) _ g.sn
  ts := by
    rw [← g.ts]
    apply List.map_congr_left
    intro p hp
    obtain ⟨e, he⟩ := g.mem hp
    rw [he]
    exact h p (by simp [hp]) _ he
  rn := g.rn
  rS := g.rS
  nS := g.nS
theorem KAt.al {CK k dx a r n s : Addr} {ps : List Addr} {N : KM} {H : Hp} (g : KAt CK k dx a r n s ps N H) : ∀ b ∈ [k, r, n, s] ++ ps, ∃ o, H b = some o ∧ Ownd o := by
  intro b hb
  rcases List.mem_append.mp hb with hb | hb
  · simp only [List.mem_cons, List.not_mem_nil, or_false] at hb
    rcases hb with rfl | rfl | rfl | rfl
    · exact ⟨_, g.ob, own_ins⟩
    · exact ⟨_, g.rs, own_bvs _⟩
    · exact ⟨_, g.nm, own_bvs _⟩
    · exact ⟨_, g.sn, own_refs _⟩
  · obtain ⟨e, he⟩ := g.mem hb
    exact ⟨_, he, own_tup⟩
def oWalk (CK k dx a r n s : Addr) (ps : List Addr) (N : KM) : Own := ⟨KAt CK k dx a r n s ps N, [k, r, n, s] ++ ps, KAt.loc, KAt.al⟩
theorem kf_wf {CK CW dx dx2 : Addr} {a c r s n w t l many} {told told2} : HO.ins CK dx (kf a c r told n s) ≠ .ins CW dx2 (wf w t l told2 many) := by
  intro e
  injection e with _ _ e
  unfold kf wf at e
  injection e with e _
  injection e with e _
  exact absurd e (by decide +kernel)
/-- the places of a walk are none of a wire's -/
theorem KAt.apart {CK k dx a r n s CW a2 dx2 t l : Addr} {ps : List Addr} {N : KM} {M : WM} {H : Hp} (g : KAt CK k dx a r n s ps N H) (W : WAt CW a2 dx2 t l M H) : ∀ b ∈ [k, r, n, s] ++ ps, b ∉ [a2, t, l] := by
  intro b hb hw
  simp only [List.mem_cons, List.not_mem_nil, or_false] at hw
  have ho : (∃ o, H b = some o ∧ ((∃ dx w t l c d, o = .ins CW dx (wf w t l c d)) ∨ ∃ d, o = .dK d)) := by
    rcases hw with rfl | rfl | rfl
    · exact ⟨_, W.ob, .inl ⟨_, _, _, _, _, _, rfl⟩⟩
    · exact ⟨_, W.th, .inr ⟨_, rfl⟩⟩
    · exact ⟨_, W.li, .inr ⟨_, rfl⟩⟩
  obtain ⟨o, h1, h2⟩ := ho
  rcases List.mem_append.mp hb with hb | hb
  · simp only [List.mem_cons, List.not_mem_nil, or_false] at hb
    rcases hb with rfl | rfl | rfl | rfl
    · rw [g.ob] at h1
      cases h1
      rcases h2 with ⟨_, _, _, _, _, _, e⟩ | ⟨_, e⟩
      · exact kf_wf e
      · cases e
    all_goals first | rw [g.rs] at h1 | rw [g.nm] at h1 | rw [g.sn] at h1
    all_goals cases h1
    all_goals rcases h2 with ⟨_, _, _, _, _, _, e⟩ | ⟨_, e⟩
    all_goals cases e
  · obtain ⟨e, he⟩ := g.mem hb
    rw [he] at h1
    cases h1
    rcases h2 with ⟨_, _, _, _, _, _, e⟩ | ⟨_, e⟩
    all_goals cases e
theorem Step.wide {F F' : List Addr} {H H' : Hp} (z : Step F F' H H') (G : List Addr) : Step (F ++ G) (F' ++ G) H H' where
  st := fun b o h n ns => z.st b o h (fun q => n (List.mem_append_left _ q)) ns
  rw_ := fun b a i m y h n hi => z.rw_ b a i m y h (fun q => n (List.mem_append_left _ q)) hi
  th := z.th
  nw := fun b h => by
    rcases List.mem_append.mp h with h | h
    · rcases z.nw b h with q | q
      · exact .inl (List.mem_append_left _ q)
      · exact .inr q
    · exact .inl (List.mem_append_right _ h)
theorem Step.wideL {F F' : List Addr} {H H' : Hp} (z : Step F F' H H') (G : List Addr) : Step (G ++ F) (G ++ F') H H' where
  st := fun b o h n ns => z.st b o h (fun q => n (List.mem_append_right _ q)) ns
  rw_ := fun b a i m y h n hi => z.rw_ b a i m y h (fun q => n (List.mem_append_right _ q)) hi
  th := z.th
  nw := fun b h => by
    rcases List.mem_append.mp h with h | h
    · exact .inl (List.mem_append_left _ h)
    · rcases z.nw b h with q | q
      · exact .inl (List.mem_append_right _ q)
      · exact .inr q
/-- the class, as the top has made it -/
structure ClK (K : PySem.W.Frag) (CK : Addr) : Prop where
  cl : Cls K CK
  n_wire : NoAttr K CK "wire"
  n_kind : NoAttr K CK "kind"
  n_rest : NoAttr K CK "rest"
  n_said : NoAttr K CK "said"
  n_names : NoAttr K CK "names"
  n_seen : NoAttr K CK "seen"
section
variable {K : PySem.W.Frag} {CK k dx a r n s : Addr} {c : Bool} {said : Option Bits} {H : Hp} {Q : VK} {S : Hp → Prop}
theorem g_wire (T : ClK K CK) (h : H k = some (.ins CK dx (kf a c r said n s))) (q : Q (.ref a) H) : FldOk K "wire" (.ref k) H Q := ⟨k, CK, dx, _, _, rfl, h, T.cl, T.n_wire, by kernel_rfl, q⟩
theorem g_kind (T : ClK K CK) (h : H k = some (.ins CK dx (kf a c r said n s))) (q : Q (.str (kindS c)) H) : FldOk K "kind" (.ref k) H Q := ⟨k, CK, dx, _, _, rfl, h, T.cl, T.n_kind, by kernel_rfl, q⟩
theorem g_rest (T : ClK K CK) (h : H k = some (.ins CK dx (kf a c r said n s))) (q : Q (.ref r) H) : FldOk K "rest" (.ref k) H Q := ⟨k, CK, dx, _, _, rfl, h, T.cl, T.n_rest, by kernel_rfl, q⟩
theorem g_said (T : ClK K CK) (h : H k = some (.ins CK dx (kf a c r said n s))) (q : Q (tvo said) H) : FldOk K "said" (.ref k) H Q := ⟨k, CK, dx, _, _, rfl, h, T.cl, T.n_said, by kernel_rfl, q⟩
theorem g_saids {b : Bits} (T : ClK K CK) (h : H k = some (.ins CK dx (kf a c r (some b) n s))) (q : Q (.str (B b)) H) : FldOk K "said" (.ref k) H Q := g_said T h q
theorem g_names (T : ClK K CK) (h : H k = some (.ins CK dx (kf a c r said n s))) (q : Q (.ref n) H) : FldOk K "names" (.ref k) H Q := ⟨k, CK, dx, _, _, rfl, h, T.cl, T.n_names, by kernel_rfl, q⟩
theorem g_seen (T : ClK K CK) (h : H k = some (.ins CK dx (kf a c r said n s))) (q : Q (.ref s) H) : FldOk K "seen" (.ref k) H Q := ⟨k, CK, dx, _, _, rfl, h, T.cl, T.n_seen, by kernel_rfl, q⟩
end
/-! ### what becomes of the places -/
section
variable {CK k dx a r n s : Addr} {ps : List Addr} {N : KM} {H : Hp}
theorem KAt.kr (g : KAt CK k dx a r n s ps N H) : k ≠ r := ne_of g.ob g.rs (fun q => by cases q)
theorem KAt.kn (g : KAt CK k dx a r n s ps N H) : k ≠ n := ne_of g.ob g.nm (fun q => by cases q)
theorem KAt.ks (g : KAt CK k dx a r n s ps N H) : k ≠ s := ne_of g.ob g.sn (fun q => by cases q)
theorem KAt.np {p : Addr} (g : KAt CK k dx a r n s ps N H) (hp : p ∈ ps) : p ≠ k ∧ p ≠ r ∧ p ≠ n ∧ p ≠ s := by
  obtain ⟨e, he⟩ := g.mem hp
  exact ⟨ne_of he g.ob (fun q => by cases q), ne_of he g.rs (fun q => by cases q), ne_of he g.nm (fun q => by cases q), ne_of he g.sn (fun q => by cases q)⟩
theorem KAt.put_ts {q : Addr} {o : HO} (g : KAt CK k dx a r n s ps N H) (hq : q = k ∨ q = r ∨ q = n ∨ q = s) : ps.map (upd H q o) = N.seen.map fun e => some (sTup e) := by
  rw [← g.ts]
  apply List.map_congr_left
  intro p hp
  obtain ⟨h1, h2, h3, h4⟩ := g.np hp
  rw [upd_ne]
  rcases hq with rfl | rfl | rfl | rfl <;> assumption
theorem KAt.said (g : KAt CK k dx a r n s ps N H) (b : Option Bits) : KAt CK k dx a r n s ps { N with said := b } (upd H k (.ins CK dx (kf a N.kind r b n s))) where
  ob := upd_same
  rs := by rw [upd_ne g.kr.symm]; exact g.rs
  nm := by rw [upd_ne g.kn.symm]; exact g.nm
  sn := by rw [upd_ne g.ks.symm]; exact g.sn
  ts := g.put_ts (.inl rfl)
  rn := g.rn
  rS := g.rS
  nS := g.nS
theorem KAt.rest (g : KAt CK k dx a r n s ps N H) (ls : List Bits) : KAt CK k dx a r n s ps { N with rest := ls } (upd H r (.lst (bvs ls))) where
  ob := by rw [upd_ne g.kr]; exact g.ob
  rs := upd_same
  nm := by rw [upd_ne g.rn.symm]; exact g.nm
  sn := by rw [upd_ne g.rS.symm]; exact g.sn
  ts := g.put_ts (.inr (.inl rfl))
  rn := g.rn
  rS := g.rS
  nS := g.nS
theorem KAt.names (g : KAt CK k dx a r n s ps N H) (ls : List Bits) : KAt CK k dx a r n s ps { N with names := ls } (upd H n (.lst (bvs ls))) where
  ob := by rw [upd_ne g.kn]; exact g.ob
  rs := by rw [upd_ne g.rn]; exact g.rs
  nm := upd_same
  sn := by rw [upd_ne g.nS.symm]; exact g.sn
  ts := g.put_ts (.inr (.inr (.inl rfl)))
  rn := g.rn
  rS := g.rS
  nS := g.nS
theorem KAt.seen {p : Addr} {e : Bits × Bool × Bool} (g : KAt CK k dx a r n s ps N H) (hp : H p = some (sTup e)) : KAt CK k dx a r n s (ps ++ [p]) { N with seen := N.seen ++ [e] } (upd H s (.lst ((ps ++ [p]).map V.ref))) where
  ob := by rw [upd_ne g.ks]; exact g.ob
  rs := by rw [upd_ne g.rS]; exact g.rs
  nm := by rw [upd_ne g.nS]; exact g.nm
  sn := upd_same
  ts := by
    rw [List.map_append, g.put_ts (.inr (.inr (.inr rfl)))]
    simp only [List.map_append, List.map_cons, List.map_nil]
    rw [upd_ne (ne_of hp g.sn (fun q => by cases q)), hp]
  rn := g.rn
  rS := g.rS
  nS := g.nS
theorem KAt.ext {H' : Hp} (g : KAt CK k dx a r n s ps N H) (e : Ext H H') : KAt CK k dx a r n s ps N H' := (oWalk CK k dx a r n s ps N).ext e g
theorem KAt.seen_len (g : KAt CK k dx a r n s ps N H) : ps.length = N.seen.length := by
  have := congrArg List.length g.ts
  simpa using this
end
theorem w_gcons {g : TG} {t : TGs} {v : V} {vs : List V} {σ : St} {H : Hp} {S : St → Hp → Prop} (k : g v σ H fun σ1 H1 => t vs σ1 H1 S) : gCons g t (v :: vs) σ H S := ⟨v, vs, rfl, k⟩
theorem w_gnil {σ : St} {H : Hp} {S : St → Hp → Prop} (k : S σ H) : gNil [] σ H S := ⟨rfl, k⟩
/-- what a step tells -/
def dres : Res → PyData
  | .none => .none
  | .found x => .tuple [.str "found", .str (B x)]
  | .lost => .tuple [.str "lost"]
def dseen (l : List (Bits × Bool × Bool)) : PyData := .list (l.map fun e => .tuple [.str (B e.1), .bool e.2.1, .bool e.2.2])
theorem KAt.dq {K : PySem.W.Frag} {CK k dx a r n s : Addr} {ps : List Addr} {N : KM} {H H' : Hp} {p : Addr} (g : KAt CK k dx a r n s ps N H) (hz : N.seen.length ≤ 100000) (hp : H p = some (.lst (ps.map V.ref))) : Dq K H (.ref p) (dseen N.seen) := by
  have hl := g.seen_len
  refine .lst (SqL.of hp) (nsh_refs _) (by rw [List.length_map, hl]; exact hz) ?_
  have key : ∀ (ps : List Addr) (l : List (Bits × Bool × Bool)), ps.map H = l.map (fun e => some (sTup e)) → DqAll K H (ps.map V.ref) (l.map fun e => .tuple [.str (B e.1), .bool e.2.1, .bool e.2.2]) := by
    intro ps
    induction ps with
    | nil =>
      intro l h
      cases l with
      | nil => exact .nil
      | cons e l => cases h
    | cons q qs ih =>
      intro l h
      cases l with
      | nil => cases h
      | cons e l =>
        injection h with h1 h2
        exact .cons (.tup (SqT.of h1) (by show 3 ≤ 100000; decide) (.cons (.str _) (.cons (.bl _) (.cons (.bl _) .nil)))) (ih l h2)
  exact key ps N.seen g.ts
end Lw
end

section
/-! the law's own rows of a wire and of a walk: dicts with fixed texts as keys -/
namespace Lw
open PySem L2
/-! ### two things as one -/
def Own.two (A B : Own) : Own where
  S := fun H => Sts H [A, B]
  F := A.F ++ B.F
  loc := fun h s => by
    refine ⟨fun o ho => ?_, s.2⟩
    simp only [List.mem_cons, List.not_mem_nil, or_false] at ho
    rcases ho with rfl | rfl
    · exact o.loc (fun b hb => h b (List.mem_append_left _ hb)) (s.1 o List.mem_cons_self)
    · exact o.loc (fun b hb => h b (List.mem_append_right _ hb)) (s.1 o (by simp))
  al := fun s b hb => by
    rcases List.mem_append.mp hb with hb | hb
    · exact A.al (s.1 A List.mem_cons_self) b hb
    · exact B.al (s.1 B (by simp)) b hb
section
variable {H H' : Hp} {l l1 l2 : List Own} {A B A' B' : Own} {K : PySem.W.Frag} {r : Addr}
theorem Sts.two (hA : A.S H) (hB : B.S H) (d : ∀ x ∈ A.F, x ∉ B.F) : Sts H [A, B] := by
  refine ⟨fun o ho => ?_, List.pairwise_cons.mpr ⟨fun V hV => ?_, List.pairwise_cons.mpr ⟨fun V hV => absurd hV (by simp), List.Pairwise.nil⟩⟩⟩
  · simp only [List.mem_cons, List.not_mem_nil, or_false] at ho
    rcases ho with rfl | rfl
    · exact hA
    · exact hB
  · rw [List.mem_singleton.mp hV]
    exact d
theorem Sts.fst (s : Sts H [A, B]) : A.S H := s.1 A List.mem_cons_self
theorem Sts.snd (s : Sts H [A, B]) : B.S H := s.1 B (by simp)
theorem Sts.dis (s : Sts H [A, B]) : ∀ x ∈ A.F, x ∉ B.F := (List.pairwise_cons.mp s.2).1 B (by simp)
theorem Sts.join (s : Sts H (l1 ++ A :: B :: l2)) : Sts H (l1 ++ A.two B :: l2) := by
  obtain ⟨h1, h2⟩ := s
  obtain ⟨p1, p2, p3⟩ := List.pairwise_append.mp h2
  obtain ⟨q1, q2⟩ := List.pairwise_cons.mp p2
  obtain ⟨q3, q4⟩ := List.pairwise_cons.mp q2
  refine ⟨fun V hV => ?_, List.pairwise_append.mpr ⟨p1, List.pairwise_cons.mpr ⟨fun V hV x hx hy => ?_, q4⟩, fun V hV U hU x hx hy => ?_⟩⟩
  · rcases List.mem_append.mp hV with hV | hV
    · exact h1 V (List.mem_append_left _ hV)
    · rcases List.mem_cons.mp hV with rfl | hV
      · exact Sts.two (h1 A (by simp)) (h1 B (by simp)) (q1 B (by simp))
      · exact h1 V (by simp [hV])
  · rcases List.mem_append.mp hx with hx | hx
    · exact q1 V (by simp [hV]) x hx hy
    · exact q3 V hV x hx hy
  · rcases List.mem_cons.mp hU with rfl | hU
    · rcases List.mem_append.mp hy with hy | hy
      · exact p3 V hV A (by simp) x hx hy
      · exact p3 V hV B (by simp) x hx hy
    · exact p3 V hV U (by simp [hU]) x hx hy
theorem Sts.split (s : Sts H (l1 ++ A.two B :: l2)) : Sts H (l1 ++ A :: B :: l2) := by
  obtain ⟨h1, h2⟩ := s
  obtain ⟨p1, p2, p3⟩ := List.pairwise_append.mp h2
  obtain ⟨q1, q2⟩ := List.pairwise_cons.mp p2
  have ab : Sts H [A, B] := h1 (A.two B) (by simp)
  refine ⟨fun V hV => ?_, List.pairwise_append.mpr ⟨p1, List.pairwise_cons.mpr ⟨fun V hV x hx hy => ?_, List.pairwise_cons.mpr ⟨fun V hV x hx hy => q1 V hV x (List.mem_append_right _ hx) hy, q2⟩⟩, fun V hV U hU x hx hy => ?_⟩⟩
  · rcases List.mem_append.mp hV with hV | hV
    · exact h1 V (List.mem_append_left _ hV)
    · rcases List.mem_cons.mp hV with rfl | hV
      · exact ab.fst
      · rcases List.mem_cons.mp hV with rfl | hV
        · exact ab.snd
        · exact h1 V (by simp [hV])
  · rcases List.mem_cons.mp hV with rfl | hV
    · exact ab.dis x hx hy
    · exact q1 V hV x (List.mem_append_left _ hx) hy
  · rcases List.mem_cons.mp hU with rfl | hU
    · exact p3 V hV (U.two B) (by simp) x hx (List.mem_append_left _ hy)
    · rcases List.mem_cons.mp hU with rfl | hU
      · exact p3 V hV (A.two U) (by simp) x hx (List.mem_append_right _ hy)
      · exact p3 V hV U (by simp [hU]) x hx hy
/-- the first of two is written -/
theorem Sts.one (s : Sts H [A, B]) (w : A'.S H') (t : Step A.F A'.F H H') : Sts H' [A', B] := Sts.step (l1 := []) s w t
theorem Sts.other (s : Sts H [A, B]) (w : B'.S H') (t : Step B.F B'.F H H') : Sts H' [A, B'] := Sts.step (l1 := [A]) (l2 := []) s w t
end
/-! ### locks around a making -/
/-! ### the rows of a wire -/
def mf (w : Nat) (t l : Addr) (told : Option Bits) (many : Nat) : List (Key × V) := [(.inr "width", .int (w : Int)), (.inr "things", .ref t), (.inr "listening", .ref l), (.inr "said", tvo told), (.inr "looks", .int (many : Int))]
structure MAt (d t l : Addr) (M : WM) (H : Hp) : Prop where
  ob : H d = some (.dK (mf M.width t l M.told M.many))
  th : H t = some (.dK (tK V.bl M.things))
  li : H l = some (.lst (bvs M.lis))
  dt : d ≠ t
def oM (d t l : Addr) (M : WM) : Own where
  S := MAt d t l M
  F := [d, t, l]
  loc := fun h s => ⟨h _ (by simp) _ s.ob, h _ (by simp) _ s.th, h _ (by simp) _ s.li, s.dt⟩
  al := fun s b hb => by
    simp only [List.mem_cons, List.not_mem_nil, or_false] at hb
    rcases hb with rfl | rfl | rfl
    · exact ⟨_, s.ob, own_dK⟩
    · exact ⟨_, s.th, own_dK⟩
    · exact ⟨_, s.li, own_bvs _⟩
section
variable {d t l : Addr} {M : WM} {H : Hp}
theorem MAt.tl (s : MAt d t l M H) : t ≠ l := ne_of s.th s.li (fun q => by cases q)
end
/-! ### the rows of a walk -/
def jf (c : Bool) (r : Addr) (said : Option Bits) (n s : Addr) : List (Key × V) := [(.inr "kind", .str (kindS c)), (.inr "rest", .ref r), (.inr "said", tvo said), (.inr "found", .ref n), (.inr "paper", .ref s)]
structure JAt (d r n s : Addr) (ps : List Addr) (N : KM) (H : Hp) : Prop where
  ob : H d = some (.dK (jf N.kind r N.said n s))
  rs : H r = some (.lst (bvs N.rest))
  nm : H n = some (.lst (bvs N.names))
  sn : H s = some (.lst (ps.map V.ref))
  ts : ps.map H = N.seen.map fun e => some (sTup e)
  rn : r ≠ n
  rS : r ≠ s
  nS : n ≠ s
section
variable {d r n s : Addr} {ps : List Addr} {N : KM} {H H' : Hp}
theorem JAt.mem (h : JAt d r n s ps N H) {p : Addr} (hp : p ∈ ps) : ∃ e, H p = some (sTup e) := by
  have : H p ∈ ps.map H := List.mem_map_of_mem hp
  rw [h.ts] at this
  obtain ⟨e, _, he⟩ := List.mem_map.mp this
  exact ⟨e, he.symm⟩
theorem JAt.loc (h : ∀ b ∈ [d, r, n, s] ++ ps, ∀ o, H b = some o → H' b = some o) (g : JAt d r n s ps N H) : JAt d r n s ps N H' where
  ob := h _ (by simp) _ g.ob
  rs := h _ (by simp) _ g.rs
  nm := h _ (by simp) _ g.nm
  sn := h _ (by simp) _ g.sn
  ts := by
    rw [← g.ts]
    apply List.map_congr_left
    intro p hp
    obtain ⟨e, he⟩ := g.mem hp
    rw [he]
    exact h p (by simp [hp]) _ he
  rn := g.rn
  rS := g.rS
  nS := g.nS
theorem JAt.al (g : JAt d r n s ps N H) : ∀ b ∈ [d, r, n, s] ++ ps, ∃ o, H b = some o ∧ Ownd o := by
  intro b hb
  rcases List.mem_append.mp hb with hb | hb
  · simp only [List.mem_cons, List.not_mem_nil, or_false] at hb
    rcases hb with rfl | rfl | rfl | rfl
    · exact ⟨_, g.ob, own_dK⟩
    · exact ⟨_, g.rs, own_bvs _⟩
    · exact ⟨_, g.nm, own_bvs _⟩
    · exact ⟨_, g.sn, own_refs _⟩
  · obtain ⟨e, he⟩ := g.mem hb
    exact ⟨_, he, own_tup⟩
theorem JAt.kr (g : JAt d r n s ps N H) : d ≠ r := ne_of g.ob g.rs (fun q => by cases q)
theorem JAt.kn (g : JAt d r n s ps N H) : d ≠ n := ne_of g.ob g.nm (fun q => by cases q)
theorem JAt.ks (g : JAt d r n s ps N H) : d ≠ s := ne_of g.ob g.sn (fun q => by cases q)
theorem JAt.np {p : Addr} (g : JAt d r n s ps N H) (hp : p ∈ ps) : p ≠ d ∧ p ≠ r ∧ p ≠ n ∧ p ≠ s := by
  obtain ⟨e, he⟩ := g.mem hp
  exact ⟨ne_of he g.ob (fun q => by cases q), ne_of he g.rs (fun q => by cases q), ne_of he g.nm (fun q => by cases q), ne_of he g.sn (fun q => by cases q)⟩
theorem JAt.put_ts {q : Addr} {o : HO} (g : JAt d r n s ps N H) (hq : q = d ∨ q = r ∨ q = n ∨ q = s) : ps.map (upd H q o) = N.seen.map fun e => some (sTup e) := by
  rw [← g.ts]
  apply List.map_congr_left
  intro p hp
  obtain ⟨h1, h2, h3, h4⟩ := g.np hp
  rw [upd_ne]
  rcases hq with rfl | rfl | rfl | rfl <;> assumption
theorem JAt.said (g : JAt d r n s ps N H) (b : Option Bits) : JAt d r n s ps { N with said := b } (upd H d (.dK (jf N.kind r b n s))) where
  ob := upd_same
  rs := by rw [upd_ne g.kr.symm]; exact g.rs
  nm := by rw [upd_ne g.kn.symm]; exact g.nm
  sn := by rw [upd_ne g.ks.symm]; exact g.sn
  ts := g.put_ts (.inl rfl)
  rn := g.rn
  rS := g.rS
  nS := g.nS
theorem JAt.rest (g : JAt d r n s ps N H) (ls : List Bits) : JAt d r n s ps { N with rest := ls } (upd H r (.lst (bvs ls))) where
  ob := by rw [upd_ne g.kr]; exact g.ob
  rs := upd_same
  nm := by rw [upd_ne g.rn.symm]; exact g.nm
  sn := by rw [upd_ne g.rS.symm]; exact g.sn
  ts := g.put_ts (.inr (.inl rfl))
  rn := g.rn
  rS := g.rS
  nS := g.nS
theorem JAt.names (g : JAt d r n s ps N H) (ls : List Bits) : JAt d r n s ps { N with names := ls } (upd H n (.lst (bvs ls))) where
  ob := by rw [upd_ne g.kn]; exact g.ob
  rs := by rw [upd_ne g.rn]; exact g.rs
  nm := upd_same
  sn := by rw [upd_ne g.nS.symm]; exact g.sn
  ts := g.put_ts (.inr (.inr (.inl rfl)))
  rn := g.rn
  rS := g.rS
  nS := g.nS
theorem JAt.seen {p : Addr} {e : Bits × Bool × Bool} (g : JAt d r n s ps N H) (hp : H p = some (sTup e)) : JAt d r n s (ps ++ [p]) { N with seen := N.seen ++ [e] } (upd H s (.lst ((ps ++ [p]).map V.ref))) where
  ob := by rw [upd_ne g.ks]; exact g.ob
  rs := by rw [upd_ne g.rS]; exact g.rs
  nm := by rw [upd_ne g.nS]; exact g.nm
  sn := upd_same
  ts := by
    rw [List.map_append, g.put_ts (.inr (.inr (.inr rfl)))]
    simp only [List.map_append, List.map_cons, List.map_nil]
    rw [upd_ne (ne_of hp g.sn (fun q => by cases q)), hp]
  rn := g.rn
  rS := g.rS
  nS := g.nS
theorem JAt.seen_len (g : JAt d r n s ps N H) : ps.length = N.seen.length := by
  have := congrArg List.length g.ts
  simpa using this
end
def oJ (d r n s : Addr) (ps : List Addr) (N : KM) : Own := ⟨JAt d r n s ps N, [d, r, n, s] ++ ps, JAt.loc, JAt.al⟩
/-! ### readings -/
section
variable {d t l r n s : Addr} {w many : Nat} {told said : Option Bits} {c : Bool} {H : Hp} {Q : VK} {S : Hp → Prop}
theorem dgetR {d : Addr} {kvs : List (Key × V)} {k : Str} {v : V} (h : H d = some (.dK kvs)) (e : valV kvs (.inr k) = some v) (q : Q v H) : DgetOk (.ref d) (.str k) H Q := ⟨d, v, rfl, .inl ⟨_, Sum.inr k, .inl h, rfl, e.symm⟩, q⟩
theorem m_width (h : H d = some (.dK (mf w t l told many))) (q : Q (.int (w : Int)) H) : DgetOk (.ref d) (.str "width") H Q := dgetR h (by kernel_rfl) q
theorem m_things (h : H d = some (.dK (mf w t l told many))) (q : Q (.ref t) H) : DgetOk (.ref d) (.str "things") H Q := dgetR h (by kernel_rfl) q
theorem m_lis (h : H d = some (.dK (mf w t l told many))) (q : Q (.ref l) H) : DgetOk (.ref d) (.str "listening") H Q := dgetR h (by kernel_rfl) q
theorem m_saids {b : Bits} (h : H d = some (.dK (mf w t l (some b) many))) (q : Q (.str (B b)) H) : DgetOk (.ref d) (.str "said") H Q := dgetR h (by kernel_rfl) q
theorem m_said (h : H d = some (.dK (mf w t l told many))) (q : Q (tvo told) H) : DgetOk (.ref d) (.str "said") H Q := dgetR h (by kernel_rfl) q
theorem m_looks (h : H d = some (.dK (mf w t l told many))) (q : Q (.int (many : Int)) H) : DgetOk (.ref d) (.str "looks") H Q := dgetR h (by kernel_rfl) q
theorem j_kind (h : H d = some (.dK (jf c r said n s))) (q : Q (.str (kindS c)) H) : DgetOk (.ref d) (.str "kind") H Q := dgetR h (by kernel_rfl) q
theorem j_rest (h : H d = some (.dK (jf c r said n s))) (q : Q (.ref r) H) : DgetOk (.ref d) (.str "rest") H Q := dgetR h (by kernel_rfl) q
theorem j_saids {b : Bits} (h : H d = some (.dK (jf c r (some b) n s))) (q : Q (.str (B b)) H) : DgetOk (.ref d) (.str "said") H Q := dgetR h (by kernel_rfl) q
theorem j_said (h : H d = some (.dK (jf c r said n s))) (q : Q (tvo said) H) : DgetOk (.ref d) (.str "said") H Q := dgetR h (by kernel_rfl) q
theorem j_found (h : H d = some (.dK (jf c r said n s))) (q : Q (.ref n) H) : DgetOk (.ref d) (.str "found") H Q := dgetR h (by kernel_rfl) q
theorem j_paper (h : H d = some (.dK (jf c r said n s))) (q : Q (.ref s) H) : DgetOk (.ref d) (.str "paper") H Q := dgetR h (by kernel_rfl) q
end
/-- one sign further -/
theorem one_more {b l : Bits} {c : Bool} (h : b <+: l) (hl : b.length < l.length) : l[b.length]? = some c ↔ b ++ [c] <+: l := by
  obtain ⟨t, rfl⟩ := h
  cases t with
  | nil => simp at hl
  | cons x t =>
    rw [List.prefix_append_right_inj]
    rw [List.getElem?_append_right (Nat.le_refl _)]
    simp
    exact ⟨fun e => e ▸ rfl, fun e => e.symm⟩
def deedM (M : WM) (wd : Str) (x : Bits) : WM × Str := if wd = "hang" then (if x ∈ M.keys then (M, "there") else (M.hang x, "")) else if x ∈ M.keys then (if wd = "off" then (M.off x, "") else (M.set x (decide (wd = "alarm")), "")) else (M, "not")
theorem w_pnil {σ : St} {H : Hp} {Q : List (V × V) → Hp → Prop} (k : Q [] H) : tPairs [] σ H Q := k
theorem w_pcons {tk tv : TE} {r : List (TE × TE)} {σ : St} {H : Hp} {Q : List (V × V) → Hp → Prop} (k : tk σ H fun x H1 => tv σ H1 fun y H2 => tPairs r σ H2 fun ps H3 => Q ((x, y) :: ps) H3) : tPairs ((tk, tv) :: r) σ H Q := k
theorem w_disp {trs : List (TE × TE)} {σ : St} {H : Hp} {Q : VK} (k : ∀ p H1, H p = none → Ext H H1 → H1 p = some (.dK []) → tPairs trs σ H1 fun ps H2 => H2 p = some (.dK []) ∧ ∃ kvs : List (Key × V), ps = kvs.map (fun kv => (kV kv.1, kv.2)) ∧ kvs.length ≤ 15 ∧ Q (.ref p) (upd H2 p (.dK (mergeK [] kvs)))) : tDisp trs σ H Q := fun p hp => k p _ hp (Ext.new hp) upd_same
end Lw
end

section
/-! the word of an exception; counting in flat lists -/
namespace L2
open PySem PySem.Spec PyProof.Rows
theorem countP_vals {y : V} : ∀ {ys : List V} {us : List Value}, Vals ys us → ys.all flatV = true → us.countP (eqU y) = ys.countP fun z => eqV z y
  | _, _, .nil, _ => rfl
  | z :: zs, u :: us, .cons r t, f => by
    rw [List.all_cons, Bool.and_eq_true] at f
    rw [List.countP_cons, List.countP_cons, countP_vals t f.2, eqU_of r f.1]
section
variable {X : Cx}
def rCntF (K : PySem.W.Frag) : V → List V → Hp → VK → Prop := fun x xs H Q => ∃ (p : Addr) (ys : List V) (y : V), x = .ref p ∧ xs = [y] ∧ SqL K H p ys ∧ flatV y = true ∧ ys.all flatV = true ∧ Q (.int ((ys.countP fun z => eqV z y : Nat) : Int)) H
theorem mt_lcountF : MtR X "list.count" (rCntF X.K) := by
  intro pins s σ H x xs v us Q I rx rxs h
  obtain ⟨p, ys, y, rfl, rfl, hs, fy, fys, q⟩ := h
  cases rx
  obtain ⟨u, rfl, ru⟩ := rxs.one
  obtain ⟨its, rv, ⟨⟨cls, dd, data, sl⟩, n, ho, hc, hdn, hd⟩, hlen⟩ := I.list hs
  simp only at hc hd
  subst hc hd
  refine call_meets PySem.F.slot_list_count ⟨_, ho, rfl⟩ PySem.F.entry_list_count (PySem.F.args_list_count_2 _ _)
    (SeqAt.list_countAt p its.toArray n dd sl u (eqU y)) ⟨ho, fun u' hu' => mem_eqAt ru fy rv fys u' (by simpa using hu'), ?_⟩
  have ec : its.toArray.toList.countP (eqU y) = ys.countP fun z => eqV z y := countP_vals rv fys
  refine ⟨.int ((ys.countP fun z => eqV z y : Nat) : Int), H, I.tok _, ⟨s.toks, ?_⟩, q⟩
  rw [ec]
end
end L2
namespace Lw
open PySem L2
section
variable {X : Cx} {K : PySem.W.Frag}
theorem mtCount (h : X.K = K) : MtR X "list.count" (rCntF K) := h ▸ mt_lcountF
theorem mtIndex (h : X.K = K) : MtR X "list.index" (rIndex K) := h ▸ mt_index
theorem cIsE {a D : Addr} {oe : Obj} {pn : List (Addr × Obj)} (h : X.K = K) (C : L2.ExcC K D) (hz : Zc (.ref D) none oe) (hf : ∃ vs, oe.data = .fields vs) : CallR (X.suite a ((a, oe) :: pn)) (.builtin "isinstance") (rIsE K D a) := by
  subst h
  exact call_isE C hz hf
theorem pe_nev {e : Expr} : PE X e (fun _ _ _ => False) := ⟨fun _ _ _ _ _ _ h => h.elim⟩
theorem suite_by {b : List Stmt} {T : TS} (k : ∀ D σ H, σ.length = X.N.length → T D σ H → ∃ t, PSs X b t ∧ t D σ H) : PSs X b T := ⟨fun pins s σ H D I h => by
  obtain ⟨t, h1, h2⟩ := k D σ H I.len h
  exact h1.run pins s σ H D I h2⟩
end
theorem five {σ : St} (h : σ.length = 5) : ∃ a b c d e, σ = [a, b, c, d, e] := by
  match σ, h with
  | [a, b, c, d, e], _ => exact ⟨a, b, c, d, e, rfl⟩
theorem w_lcount {K : PySem.W.Frag} {p : Addr} {ys : List V} {y : V} {H : Hp} {Q : VK} (h : SqL K H p ys) (fy : flatV y = true) (fys : ys.all flatV = true) (k : Q (.int ((ys.countP fun z => eqV z y : Nat) : Int)) H) : rCntF K (.ref p) [y] H Q := ⟨p, ys, y, rfl, rfl, h, fy, fys, k⟩
theorem w_lindex {K : PySem.W.Frag} {p : Addr} {ys : List V} {y z : V} {j : Nat} {H : Hp} {Q : VK} (h : SqL K H p ys) (fy : flatV y = true) (fys : ys.all flatV = true) (hz : ys[j]? = some z) (hj : eqV z y = true) (hn : ∀ m z, m < j → ys[m]? = some z → eqV z y = false) (k : Q (.int (j : Int)) H) : rIndex K (.ref p) [y] H Q :=
  ⟨p, ys, y, j, z, rfl, rfl, h, fy, fys, hz, hj, hn, k⟩
end Lw
namespace Lw
open PySem L2
/-- the classes of refusals, as the top has made them -/
structure Kinds (K : PySem.W.Frag) (mg : Str → Option Value) where
  c_BusError : Addr
  c_BadWidth : Addr
  c_BadNumber : Addr
  c_BadKind : Addr
  c_BadBit : Addr
  c_There : Addr
  c_NotThere : Addr
  c_NoRound : Addr
  c_Over : Addr
  c_Busy : Addr
  c_BadLooks : Addr
  c_BadRoster : Addr
  c_TooMany : Addr
  c_BadPlan : Addr
  c_BadStep : Addr
  c_BadText : Addr
  m_BusError : mg "BusError" = some (.ref c_BusError)
  m_BadWidth : mg "BadWidth" = some (.ref c_BadWidth)
  m_BadNumber : mg "BadNumber" = some (.ref c_BadNumber)
  m_BadKind : mg "BadKind" = some (.ref c_BadKind)
  m_BadBit : mg "BadBit" = some (.ref c_BadBit)
  m_There : mg "There" = some (.ref c_There)
  m_NotThere : mg "NotThere" = some (.ref c_NotThere)
  m_NoRound : mg "NoRound" = some (.ref c_NoRound)
  m_Over : mg "Over" = some (.ref c_Over)
  m_Busy : mg "Busy" = some (.ref c_Busy)
  m_BadLooks : mg "BadLooks" = some (.ref c_BadLooks)
  m_BadRoster : mg "BadRoster" = some (.ref c_BadRoster)
  m_TooMany : mg "TooMany" = some (.ref c_TooMany)
  m_BadPlan : mg "BadPlan" = some (.ref c_BadPlan)
  m_BadStep : mg "BadStep" = some (.ref c_BadStep)
  m_BadText : mg "BadText" = some (.ref c_BadText)
  kk : ∀ (i j : Nat) (c d : Addr), [c_BadWidth, c_BadNumber, c_BadKind, c_BadBit, c_There, c_NotThere, c_NoRound, c_Over, c_Busy, c_BadLooks, c_BadRoster, c_TooMany, c_BadPlan, c_BadStep, c_BadText][i]? = some c → [c_BadWidth, c_BadNumber, c_BadKind, c_BadBit, c_There, c_NotThere, c_NoRound, c_Over, c_Busy, c_BadLooks, c_BadRoster, c_TooMany, c_BadPlan, c_BadStep, c_BadText][j]? = some d → PySem.W.kitOne K (.ref c) (.ref d) = some (decide (i = j))
  kv : ∀ c, c ∈ [c_BadWidth, c_BadNumber, c_BadKind, c_BadBit, c_There, c_NotThere, c_NoRound, c_Over, c_Busy, c_BadLooks, c_BadRoster, c_TooMany, c_BadPlan, c_BadStep, c_BadText] → PySem.W.kitOne K (.ref c) (.type "ValueError") = some true ∧ L2.ExcC K c ∧ PySem.W.exmOne K (.ref c) (.ref c_BusError) = some true
def Kinds.cs {K : PySem.W.Frag} {mg : Str → Option Value} (g : Kinds K mg) : List Addr := [g.c_BadWidth, g.c_BadNumber, g.c_BadKind, g.c_BadBit, g.c_There, g.c_NotThere, g.c_NoRound, g.c_Over, g.c_Busy, g.c_BadLooks, g.c_BadRoster, g.c_TooMany, g.c_BadPlan, g.c_BadStep, g.c_BadText]
def wordsL : List Str := ["width", "number", "kind", "bit", "there", "not", "round", "over", "busy", "looks", "roster", "many", "plan", "step", "text"]
theorem w_isE {K : PySem.W.Frag} {D a c : Addr} {b : Bool} {H : Hp} {Q : VK} (hk : PySem.W.kitOne K (.ref D) (.ref c) = some b) (k : Q (.bl b) H) : rIsE K D a [.ref a, .ref c] H Q := ⟨.ref c, .ref c, b, rfl, fun _ r => r, hk, k⟩
theorem w_isET {K : PySem.W.Frag} {D a : Addr} {t : String} {b : Bool} {H : Hp} {Q : VK} (hk : PySem.W.kitOne K (.ref D) (.type t) = some b) (k : Q (.bl b) H) : rIsE K D a [.ref a, .ty t] H Q := ⟨.ty t, .type t, b, rfl, fun _ r => r, hk, k⟩
def kbs (i : Nat) : List V := (List.range 15).map fun j => .bl (decide (i = j))
theorem kbs_flat (i : Nat) : (kbs i).all flatV = true := by simp [kbs, flatV]
theorem kbs_count {i : Nat} (h : i < 15) : (kbs i).countP (fun z => eqV z (.bl true)) = 1 := by
  have : ∀ i, i < 15 → (kbs i).countP (fun z => eqV z (.bl true)) = 1 := by decide +kernel
  exact this i h
theorem kbs_at {i : Nat} (h : i < 15) : (kbs i)[i]? = some (.bl true) := by
  unfold kbs
  rw [List.getElem?_map, List.getElem?_range h]
  simp
theorem kbs_no {i m : Nat} {z : V} (hm : m < i) (h : (kbs i)[m]? = some z) : eqV z (.bl true) = false := by
  unfold kbs at h
  rw [List.getElem?_map] at h
  cases e : (List.range 15)[m]? with
  | none => rw [e] at h; cases h
  | some j =>
    rw [e] at h
    have hj : j = m := by
      obtain ⟨h1, h2⟩ := List.getElem?_eq_some_iff.mp e
      simpa using h2.symm
    have hz : z = .bl (decide (i = j)) := (Option.some.inj h).symm
    have : ¬ i = j := by omega
    rw [hz, decide_eq_false this]
    rfl
/-- what becomes of a refusal: its word -/
def WordOk {K : PySem.W.Frag} {mg : Str → Option Value} (g : Kinds K mg) (cls : Value) (d : Option Addr) (H : Hp) (Q : VK) : Prop :=
  ∃ (i : Nat) (c : Addr) (x : Str), g.cs[i]? = some c ∧ wordsL[i]? = some x ∧ i ≠ 9 ∧ i ≠ 13 ∧ i ≠ 14 ∧ cls = .ref c ∧ d = none ∧ ∀ H1, Ext H H1 → Q (.str x) H1
def TWord {K : PySem.W.Frag} {mg : Str → Option Value} (g : Kinds K mg) : (XK → Hp → VK → Prop) → Hp → VK → Prop := fun tl H Q => tl (fun cls d H' => WordOk g cls d H' Q) H fun _ H' => Q (.str "") H'
end Lw
end

section
/-! steps in which tables of code objects may grow -/
namespace Lw
open PySem L2
def NT (H : Hp) (b : Addr) : Prop := ∃ o, H b = some o ∧ (∀ ps, o ≠ .tbl ps) ∧ ∀ a i m z, o = row a i m z → 0 ≤ i
theorem tabs_by {T : List (Addr × Str)} {H H' : Hp} (h : LamX.Tabs T H) (st : ∀ b o, H b = some o → ((∃ ps, o = .tbl ps) ∨ ∃ x, o = .ext x) → H' b = some o) : LamX.Tabs T H' := fun p hp => by
  obtain ⟨ps, h1, h2, h3⟩ := h p hp
  refine ⟨ps, st _ _ h1 (.inl ⟨_, rfl⟩), h2, fun pos cv hc => ?_⟩
  obtain ⟨c, e1, e2⟩ := h3 pos cv hc
  exact ⟨c, e1, st _ _ e2 (.inr ⟨_, rfl⟩)⟩
theorem nsh_tbl {ps} : ¬ RowSh (.tbl ps) := nsh_of fun a i m z e => by cases e
theorem tabs_ext {T : List (Addr × Str)} {H H' : Hp} (h : LamX.Tabs T H) (e : Ext H H') : LamX.Tabs T H' := tabs_by h fun b o hb ho => e.st b o hb (by
  rcases ho with ⟨ps, rfl⟩ | ⟨x, rfl⟩
  · exact nsh_tbl
  · exact nsh_ext)
structure StepN (T : List (Addr × Str)) (F F' : List Addr) (H H' : Hp) : Prop where
  st : ∀ b o, H b = some o → b ∉ F → ¬ RowSh o → (∀ ps, o ≠ .tbl ps) → H' b = some o
  rw_ : ∀ b a i m z, H b = some (row a i m z) → b ∉ F → 0 ≤ i → ∃ i' m' z', H' b = some (row a i' m' z') ∧ 0 ≤ i'
  nw : ∀ b, b ∈ F' → b ∈ F ∨ ¬ NT H b
  tb : LamX.Tabs T H → LamX.Tabs T H'
section
variable {T : List (Addr × Str)} {F F1 F2 F' : List Addr} {H H1 H2 H' : Hp} {K : PySem.W.Frag} {r : Addr}
theorem StepN.of (s : Step F F' H H') (ho : ∀ b ∈ F, ∃ o, H b = some o ∧ Ownd o) : StepN T F F' H H' where
  st := fun b o h n ns _ => s.st b o h n ns
  rw_ := s.rw_
  nw := fun b h => (s.nw b h).imp id fun h ⟨o, e, _⟩ => by rw [h] at e; cases e
  tb := fun h => tabs_by h fun b o hb hx => s.st b o hb (fun q => by
    obtain ⟨u, e, _, _, n1, n2⟩ := ho b q
    rw [hb] at e
    cases e
    rcases hx with ⟨ps, rfl⟩ | ⟨x, rfl⟩
    · exact n1 _ rfl
    · exact n2 _ rfl) (by
    rcases hx with ⟨ps, rfl⟩ | ⟨x, rfl⟩
    · exact nsh_tbl
    · exact nsh_ext)
theorem StepN.ofExt (e : Ext H H') : StepN T F F H H' := ⟨fun b o h _ n _ => e.st b o h n, fun b a i m z h _ hi => e.rw_ b a i m z h hi, fun b h => .inl h, fun h => tabs_ext h e⟩
theorem StepN.lam (e : LamX.ExtN H H') (t : LamX.Tabs T H') : StepN T F F H H' := ⟨fun b o h _ _ n => e b o h n, fun b a i m z h _ hi => ⟨i, m, z, e b _ h (fun ps q => by cases q), hi⟩, fun b h => .inl h, fun _ => t⟩
theorem NT.own {b : Addr} {o : HO} (h : H b = some o) (n : Ownd o) : NT H b := ⟨o, h, n.2.2.1, fun a i m z e => absurd ⟨a, i, m, z, e⟩ n.1⟩
theorem StepN.nt (s : StepN T F F1 H H1) {b : Addr} (n : b ∉ F) (h : NT H b) : NT H1 b := by
  obtain ⟨o, e, n1, n2⟩ := h
  by_cases q : RowSh o
  · obtain ⟨a, i, m, z, rfl⟩ := q
    obtain ⟨i', m', z', h1, hi⟩ := s.rw_ b a i m z e n (n2 _ _ _ _ rfl)
    exact ⟨_, h1, (fun ps q => by cases q), fun a2 i2 m2 z2 e2 => by cases e2; exact hi⟩
  · exact ⟨o, s.st b o e n q n1, n1, n2⟩
theorem StepN.not (s : StepN T F F1 H H1) {b : Addr} (n : b ∉ F) (h : NT H b) : b ∉ F1 := fun q => (s.nw b q).elim n fun z => z h
theorem StepN.trans (s : StepN T F F1 H H1) (t : StepN T F1 F2 H1 H2) : StepN T F F2 H H2 where
  st := fun b o h n ns nt => t.st b o (s.st b o h n ns nt) (s.not n ⟨o, h, nt, fun a i m z e => absurd ⟨a, i, m, z, e⟩ ns⟩) ns nt
  rw_ := fun b a i m z h n hi => by
    obtain ⟨i', m', z', h1, hi'⟩ := s.rw_ b a i m z h n hi
    exact t.rw_ b a i' m' z' h1 (s.not n ⟨_, h, (fun ps q => by cases q), fun a2 i2 m2 z2 e2 => by cases e2; exact hi⟩) hi'
  nw := fun b h => by
    rcases t.nw b h with z | z
    · exact s.nw b z
    · by_cases q : b ∈ F
      · exact .inl q
      · exact .inr fun h => z (s.nt q h)
  tb := fun h => t.tb (s.tb h)
theorem RowOk.stepN (s : StepN T F F' H H') (ho : ∀ b ∈ F, ∃ o, H b = some o ∧ Ownd o) (h : RowOk K H r) : RowOk K H' r := by
  obtain ⟨a, i, m, z, ns, h0, hi, hs⟩ := h
  have nr : r ∉ F := fun q => by
    obtain ⟨o, e, n, _⟩ := ho r q
    rw [h0] at e
    cases e
    exact n ⟨_, _, _, _, rfl⟩
  obtain ⟨i', m', z', h1, hi'⟩ := s.rw_ r a i m z h0 nr hi
  refine ⟨a, i', m', z', ns, h1, hi', ?_⟩
  rcases hs with ⟨o, hs⟩ | hs
  · have na : a ∉ F := fun q => by
      obtain ⟨u, e, _, n, _⟩ := ho a q
      rw [hs] at e
      cases e
      exact n _ _ rfl
    exact .inl ⟨o, s.st a _ hs na nsh_frz (fun ps q => by cases q)⟩
  · exact .inr hs
end
section
variable {T : List (Addr × Str)} {H H' : Hp} {l l1 l2 : List Own} {W W' A B A' B' : Own} {K : PySem.W.Frag} {r : Addr}
theorem Sts.stepN (s : Sts H (l1 ++ W :: l2)) (w : W'.S H') (t : StepN T W.F W'.F H H') : Sts H' (l1 ++ W' :: l2) := by
  obtain ⟨h1, h2⟩ := s
  obtain ⟨p1, p2, p3⟩ := List.pairwise_append.mp h2
  obtain ⟨q1, q2⟩ := List.pairwise_cons.mp p2
  have ap : ∀ V : Own, V ∈ l1 ∨ V ∈ l2 → (∀ x ∈ V.F, x ∉ W.F) ∧ V.S H := fun V hV => by
    rcases hV with hV | hV
    · exact ⟨fun x hx hw => p3 V hV W List.mem_cons_self x hx hw, h1 V (List.mem_append_left _ hV)⟩
    · exact ⟨fun x hx hw => q1 V hV x hw hx, h1 V (List.mem_append_right _ (List.mem_cons_of_mem _ hV))⟩
  have st : ∀ V : Own, V ∈ l1 ∨ V ∈ l2 → V.S H' ∧ ∀ x ∈ V.F, x ∉ W'.F := fun V hV => by
    obtain ⟨na, hS⟩ := ap V hV
    refine ⟨V.loc (fun b hb o ho => ?_) hS, fun x hx hw => ?_⟩
    · obtain ⟨o', e1, n, _, n2, _⟩ := V.al hS b hb
      rw [ho] at e1
      cases e1
      exact t.st b o ho (na b hb) n n2
    · obtain ⟨o, e1, n⟩ := V.al hS x hx
      exact t.not (na x hx) (NT.own e1 n) hw
  refine ⟨fun V hV => ?_, List.pairwise_append.mpr ⟨p1, List.pairwise_cons.mpr ⟨fun V hV x hx hy => (st V (.inr hV)).2 x hy hx, q2⟩, fun V hV U hU x hx hy => ?_⟩⟩
  · rcases List.mem_append.mp hV with hV | hV
    · exact (st V (.inl hV)).1
    · rcases List.mem_cons.mp hV with rfl | hV
      · exact w
      · exact (st V (.inr hV)).1
  · rcases List.mem_cons.mp hU with rfl | hU
    · exact (st V (.inl hV)).2 x hx hy
    · exact p3 V hV U (List.mem_cons_of_mem _ hU) x hx hy
theorem Sts.al (s : Sts H (l1 ++ W :: l2)) : ∀ b ∈ W.F, ∃ o, H b = some o ∧ Ownd o := W.al s.get
theorem Sts.al2 (s : Sts H (l1 ++ A :: B :: l2)) : ∀ b ∈ A.F ++ B.F, ∃ o, H b = some o ∧ Ownd o := (A.two B).al s.join.get
theorem Sts.tabs (s : Sts H (l1 ++ W :: l2)) (t : Step W.F W'.F H H') (h : LamX.Tabs T H) : LamX.Tabs T H' := (StepN.of (T := T) t s.al).tb h
/-- as a lambda is made -/
theorem Sts.lam (s : Sts H l) (e : LamX.ExtN H H') : Sts H' l := ⟨fun V hV => V.loc (fun b hb o ho => by
  obtain ⟨o', e1, _, _, n2, _⟩ := V.al (s.1 V hV) b hb
  rw [ho] at e1
  cases e1
  exact e b o ho n2) (s.1 V hV), s.2⟩
theorem RowOk.lam (e : LamX.ExtN H H') (h : RowOk K H r) : RowOk K H' r := by
  obtain ⟨a, i, m, z, ns, h0, hi, hs⟩ := h
  refine ⟨a, i, m, z, ns, e _ _ h0 (fun ps q => by cases q), hi, ?_⟩
  rcases hs with ⟨o, hs⟩ | hs
  · exact .inl ⟨o, e _ _ hs (fun ps q => by cases q)⟩
  · exact .inr hs
end
end Lw
namespace Lw
open PySem L2 PyProof.Rows
/-- a def that makes lambdas: its code object is told -/
structure FunC (K : PySem.W.Frag) (x qual : Str) (st : Stmt) (f : Addr) (fd : FuncData) (c : Addr) : Prop where
  ex : ∃ (oc : Value) (od : Option Addr) (kV doc pm : Value) (an : Option Addr) (ct : Value) (osl : Array (Option Value)),
    fd = PySem.W.fnOf x qual (defArgs st) (defBody st) (defScope st) .none kV doc pm an (.ref c) ct ∧ K.lookup f = some ⟨oc, od, .func fd, osl⟩ ∧ PySem.W.codeIn K (.ref c) qual = true
  kp : PySem.W.keepIn K (.ref f) = true
theorem FunC.okX {P : Program} {w : World} {K : PySem.W.Frag} {mg : Str → Option Value} {base : Heap} {x qual : Str} {st : Stmt} {f c : Addr} {fd : FuncData} {N ps : List Str} {k : Nat} {sp : Sp} (F : FunC K x qual st f fd c) (S : FnScope N ps (defScope st)) (len : ∀ vs H Q E, sp vs H Q E → vs.length = ps.length)
    (hbody : ∀ (A : Around) (outer : List Env) (s : Shared) (H : Hp) (vs : List V) (Q : VK) (E : XK), Room k (A.deeper (envOfC qual (defScope st) s.heap.objs.size f (.ref c))) → sp vs H Q E →
      ∃ t, PSs (cxOf (L2.CX P w) P w K mg base N qual (defScope st) f (.ref c) A outer s H E) (defBody st) t ∧ t { nx := fun _ H' => Q .non H', rt := Q } (L2.start N vs) H) : FnOk P w K mg base (L2.CX P w) (k + 1) f fd ps sp := by
  obtain ⟨oc, od, kV, doc, pm, an, ct, osl, rfl, lk, hcd⟩ := F.ex
  exact fn_of lk hcd S len fun A outer s H vs Q E hr hsp => hbody A outer s H vs Q E hr hsp
end Lw
end

section
/-! walks of a pool: they end -/
namespace Lw
open PySem L2
theorem nodup_le {α : Type} [DecidableEq α] : ∀ (l m : List α), l.Nodup → (∀ x ∈ l, x ∈ m) → l.length ≤ m.length
  | [], _, _, _ => Nat.zero_le _
  | a :: l, m, h, hs => by
    obtain ⟨h1, h2⟩ := List.nodup_cons.mp h
    have hm : a ∈ m := hs a List.mem_cons_self
    have := nodup_le l (m.erase a) h2 fun x hx => (List.mem_erase_of_ne (fun e => h1 (by rw [← e]; exact hx))).mpr (hs x (List.mem_cons_of_mem _ hx))
    have e := List.length_erase_of_mem hm
    have hp : 0 < m.length := List.length_pos_of_mem hm
    rw [List.length_cons]
    omega
/-- the beginnings of these -/
def Beg (ls : List Bits) (b : Bits) : Prop := b = [] ∨ ∃ x ∈ ls, b <+: x
def begs (n : Nat) (ls : List Bits) : List Bits := [] :: ls.flatMap fun x => (List.range (n - 1)).map fun k => x.take (k + 1)
theorem begs_len (n : Nat) (ls : List Bits) : (begs n ls).length = 1 + ls.length * (n - 1) := by
  unfold begs
  rw [List.length_cons, List.length_flatMap]
  simp only [List.length_map, List.length_range]
  have : ∀ ls : List Bits, (ls.map fun _ => n - 1).sum = ls.length * (n - 1) := by
    intro ls
    induction ls with
    | nil => simp
    | cons x ls ih =>
      rw [List.map_cons, List.sum_cons, ih, List.length_cons, Nat.add_mul]
      omega
  rw [this]
  omega
theorem beg_mem {n : Nat} {ls : List Bits} {b : Bits} (h : Beg ls b) (hl : b.length < n) : b ∈ begs n ls := by
  unfold begs
  rcases h with rfl | ⟨x, hx, hp⟩
  · exact List.mem_cons_self
  · cases b with
    | nil => exact List.mem_cons_self
    | cons c b =>
      refine List.mem_cons_of_mem _ (List.mem_flatMap.mpr ⟨x, hx, List.mem_map.mpr ⟨b.length, List.mem_range.mpr ?_, ?_⟩⟩)
      · rw [List.length_cons] at hl
        omega
      · have := List.prefix_iff_eq_take.mp hp
        rw [List.length_cons] at this
        exact this.symm
/-- a walk on a wire of a pool -/
structure GInv (n : Nat) (ls : List Bits) (M : WM) (N : KM) : Prop where
  hw : M.width = n
  n12 : n ≤ 12
  l40 : ls.length ≤ 40
  hl : ∀ x ∈ ls, x.length = n
  ok : WOk M
  ki : KI n (Beg ls) N
  kp : KP M N
  kl : ∀ x ∈ M.keys, x ∈ ls
  ll : ∀ x ∈ M.lis, x ∈ ls
def KM.mu (N : KM) : Nat := 2 * (441 - N.seen.length) + N.rest.length
section
variable {n : Nat} {ls : List Bits} {M : WM} {N : KM}
theorem GInv.seen (h : GInv n ls M N) : N.seen.length ≤ 441 := by
  have h1 := nodup_le (N.seen.map (·.1)) (begs n ls) h.ki.sd fun b hb => by
    obtain ⟨e, he, rfl⟩ := List.mem_map.mp hb
    obtain ⟨a, b⟩ := h.ki.pe e he
    exact beg_mem b a
  rw [List.length_map, begs_len] at h1
  have h2 : ls.length * (n - 1) ≤ 40 * 11 := Nat.mul_le_mul h.l40 (by have := h.n12; omega)
  omega
theorem GInv.rest (h : GInv n ls M N) : N.rest.length ≤ 442 := by
  have := h.ki.rs
  have := h.seen
  omega
theorem GInv.things (h : GInv n ls M N) : M.things.length ≤ 40 := by
  have := nodup_le M.keys ls h.ok.nd h.kl
  unfold WM.keys at this
  rw [List.length_map] at this
  exact Nat.le_trans this h.l40
theorem GInv.names (h : GInv n ls M N) : N.names.length ≤ 41 := by
  have := nodup_le N.names ([] :: ls) (rise_nodup h.ki.nr) fun x hx => by
    obtain ⟨h1, h2⟩ := h.ki.pn x hx
    rcases h2 with rfl | ⟨y, hy, hp⟩
    · exact List.mem_cons_self
    · have e := List.IsPrefix.eq_of_length hp (by rw [h1, h.hl y hy])
      rw [e]
      exact List.mem_cons_of_mem _ hy
  rw [List.length_cons] at this
  have := h.l40
  omega
theorem GInv.sz (h : GInv n ls M N) (b : Nat) (hb : 442 ≤ b) : N.rest.length ≤ b ∧ N.names.length ≤ b ∧ N.seen.length ≤ b := ⟨Nat.le_trans h.rest hb, Nat.le_trans h.names (by omega), Nat.le_trans h.seen (by omega)⟩
theorem lis_sub {x : Bits} (h : x ∈ (kstep M N).1.lis) : x ∈ M.lis ∨ x ∈ M.keys := by
  cases hs : N.said with
  | none =>
    rw [kstep_none hs] at h
    unfold stepB WM.tell at h
    exact .inr ((begin_sub M N.kind).subset (List.mem_filter.mp h).1)
  | some b =>
    rw [kstep_some hs] at h
    unfold stepL at h
    simp only at h
    split at h
    · exact .inl h
    · exact .inl (List.mem_filter.mp h).1
theorem GInv.kstep (h : GInv n ls M N) (ho : N.over = false) : GInv n ls (kstep M N).1 (kstep M N).2.1 where
  hw := (kstep_width M N).1.trans h.hw
  n12 := h.n12
  l40 := h.l40
  hl := h.hl
  ok := kstep_ok h.ok h.kp ho
  ki := by
    cases hs : N.said with
    | none =>
      have hr : N.rest ≠ [] := fun e => by simp [KM.over, hs, e] at ho
      rw [kstep_none hs]
      exact h.ki.stepB h.hw hs hr
    | some b =>
      rw [kstep_some hs]
      refine h.ki.stepL h.hw hs fun c hc => ?_
      obtain ⟨l, hl, hp⟩ := lookZ_ex.mp hc
      exact .inr ⟨l, h.ll l hl, hp⟩
  kp := h.kp.step ho
  kl := fun x hx => h.kl x (by unfold WM.keys at hx ⊢; rw [(kstep_width M N).2] at hx; exact hx)
  ll := fun x hx => (lis_sub hx).elim (h.ll x) (h.kl x)
theorem GInv.mu (h : GInv n ls M N) (ho : N.over = false) : (Lw.kstep M N).2.1.mu < N.mu := by
  have h2 := (h.kstep ho).seen
  cases hs : N.said with
  | none =>
    have hr : N.rest ≠ [] := fun e => by simp [KM.over, hs, e] at ho
    rw [kstep_none hs] at h2 ⊢
    unfold stepB KM.mu at *
    rw [ended_rest.1, ended_rest.2.1]
    simp only
    have : 0 < N.rest.length := List.length_pos_iff.mpr hr
    rw [List.length_dropLast]
    omega
  | some b =>
    rw [kstep_some hs] at h2 ⊢
    unfold stepL at h2 ⊢
    simp only at h2 ⊢
    split at h2
    · rename_i c
      rw [if_pos c]
      unfold KM.mu
      simp only [List.length_append, List.length_cons, List.length_nil] at h2 ⊢
      omega
    · rename_i c
      rw [if_neg c]
      simp only at h2 ⊢
      unfold KM.mu
      rw [ended_rest.2.1] at h2
      rw [ended_rest.1, ended_rest.2.1]
      split
      · rename_i c2
        rw [if_pos c2] at h2
        simp only [List.length_append, List.length_cons, List.length_nil] at h2 ⊢
        omega
      · rename_i c2
        rw [if_neg c2] at h2
        simp only [List.length_append, List.length_cons, List.length_nil] at h2 ⊢
        omega
theorem GInv.run (h : GInv n ls M N) : ∃ j M1 N1, KRun j M N M1 N1 ∧ j + N1.mu ≤ N.mu ∧ GInv n ls M1 N1 := by
  obtain ⟨m, hm⟩ : ∃ m, m = N.mu := ⟨_, rfl⟩
  induction m using Nat.strongRecOn generalizing M N with
  | _ m ih =>
    cases ho : N.over with
    | true => exact ⟨0, M, N, .last ho, by omega, h⟩
    | false =>
      have h1 := h.mu ho
      obtain ⟨j, M1, N1, hr, hj, hg⟩ := ih _ (by omega) (h.kstep ho) rfl
      exact ⟨j + 1, M1, N1, .more ho hr, by omega, hg⟩
theorem GInv.round {j : Nat} {M1 : WM} {N1 : KM} {r : Res} (h : GInv n ls M N) (ho : N.over = false) (t : KRound j M N M1 N1 r) : GInv n ls M1 N1 ∧ N1.mu < N.mu := by
  induction t with
  | last h2 => exact ⟨h.kstep ho, h.mu ho⟩
  | more h2 t ih =>
    obtain ⟨a, b⟩ := ih (h.kstep ho) (kstep_gap h.kp h2).2
    exact ⟨a, by have := h.mu ho; omega⟩
end
/-- a new walk -/
theorem GInv.new {n : Nat} {ls : List Bits} {M : WM} (c : Bool) (hw : M.width = n) (n12 : n ≤ 12) (l40 : ls.length ≤ 40) (hl : ∀ x ∈ ls, x.length = n) (ok : WOk M) (kl : ∀ x ∈ M.keys, x ∈ ls) (ll : ∀ x ∈ M.lis, x ∈ ls) : GInv n ls M ⟨c, [[]], none, [], []⟩ where
  hw := hw
  n12 := n12
  l40 := l40
  hl := hl
  ok := ok
  ki := ⟨fun g hg => by rw [List.mem_singleton.mp hg]; exact ⟨Nat.zero_le _, .inl rfl⟩, fun b hb => (by cases hb), fun e he => absurd he (by simp), fun x hx => absurd hx (by simp), by simp [KM.pend], fun e he => absurd he (by simp), by simp, fun x hx => absurd hx (by simp), List.Pairwise.nil, by simp⟩
  kp := ⟨fun b hb => (by cases hb), fun g hg => by rw [List.mem_singleton.mp hg]; exact Nat.zero_le _⟩
  kl := kl
  ll := ll
/-! ### what a law carries along -/
structure LG (K : PySem.W.Frag) (TT : List (Addr × Str)) (z : Option (Addr × Obj × HO)) (r : Addr) (H : Hp) : Prop where
  row : RowOk K H r
  tab : LamX.Tabs TT H
  frz : ∀ a o u, z = some (a, o, u) → H a = some (.frz o u)
section
variable {K : PySem.W.Frag} {TT : List (Addr × Str)} {z : Option (Addr × Obj × HO)} {r : Addr} {H H' : Hp} {F F' : List Addr}
theorem LG.ext (g : LG K TT z r H) (e : Ext H H') : LG K TT z r H' := ⟨e.rowOk g.row, tabs_ext g.tab e, fun a o u h => e.st _ _ (g.frz a o u h) nsh_frz⟩
theorem LG.stepN (g : LG K TT z r H) (s : StepN TT F F' H H') (al : ∀ b ∈ F, ∃ o, H b = some o ∧ Ownd o) : LG K TT z r H' := ⟨RowOk.stepN s al g.row, s.tb g.tab, fun a o u h => s.st _ _ (g.frz a o u h) (fun q => by
  obtain ⟨v, e, _, n, _⟩ := al a q
  rw [g.frz a o u h] at e
  cases e
  exact n _ _ rfl) nsh_frz (fun ps q => by cases q)⟩
theorem LG.step (g : LG K TT z r H) (s : Step F F' H H') (al : ∀ b ∈ F, ∃ o, H b = some o ∧ Ownd o) : LG K TT z r H' := g.stepN (StepN.of s al) al
theorem LG.lam (g : LG K TT z r H) (e : LamX.ExtN H H') (t : LamX.Tabs TT H') : LG K TT z r H' := ⟨RowOk.lam e g.row, t, fun a o u h => e _ _ (g.frz a o u h) (fun ps q => by cases q)⟩
end
theorem Step.swap {A B A' B' : List Addr} {H H' : Hp} (z : Step (A ++ B) (A' ++ B') H H') : Step (B ++ A) (B' ++ A') H H' where
  st := fun b o h n ns => z.st b o h (fun q => n (by rw [List.mem_append] at q ⊢; exact q.symm)) ns
  rw_ := fun b a i m y h n hi => z.rw_ b a i m y h (fun q => n (by rw [List.mem_append] at q ⊢; exact q.symm)) hi
  th := z.th
  nw := fun b h => (z.nw b (by rw [List.mem_append] at h ⊢; exact h.symm)).imp (fun q => by rw [List.mem_append] at q ⊢; exact q.symm) id
theorem w_make {C : Addr} {sp : Sp} {E : XK} {t : TA} {σ : St} {H : Hp} {Q : VK} (k : t σ H fun vs H1 => ∀ x dx, H1 x = none → H1 dx = none → dx ≠ x → sp (.ref x :: (vs ++ [])) (upd (upd H1 dx (.own x)) x (.ins C dx [])) (fun v H2 => v = .non ∧ Q (.ref x) H2) E) : tMake C sp [] E t σ H Q := k
theorem ext_make {H : Hp} {x dx C : Addr} (h1 : H x = none) (h2 : H dx = none) (h3 : dx ≠ x) : Ext H (upd (upd H dx (.own x)) x (.ins C dx [])) := (Ext.new h2).mut h1
theorem make_none {H : Hp} {x dx C b : Addr} (h : upd (upd H dx (.own x)) x (.ins C dx []) b = none) : H b = none := by
  by_cases e : b = x
  · rw [e, upd_same] at h
    cases h
  · rw [upd_ne e] at h
    by_cases e2 : b = dx
    · rw [e2, upd_same] at h
      cases h
    · rw [upd_ne e2] at h
      exact h
theorem ext_fresh {H H1 H' : Hp} {a : Addr} {F' : List Addr} (h : H a = none) (e : Ext H H1) (s : Step [a] F' H1 H') : Ext H H' where
  st := fun b o hb n => s.st b o (e.st b o hb n) (fun q => by
    rw [List.mem_singleton.mp q, h] at hb
    cases hb) n
  rw_ := fun b x i m z hb hi => by
    obtain ⟨i', m', z', h1, h2⟩ := e.rw_ b x i m z hb hi
    exact s.rw_ b x i' m' z' h1 (fun q => by
      rw [List.mem_singleton.mp q, h] at hb
      cases hb) h2
  th := fun b o hb => by
    obtain ⟨o1, h1⟩ := e.th b o hb
    exact s.th b o1 h1
theorem Sts.perm {H : Hp} {l l' : List Own} (h : l.Perm l') (s : Sts H l) : Sts H l' := ⟨fun o ho => s.1 o (h.mem_iff.mpr ho), (h.pairwise_iff (fun {a b} r x hx hy => r x hy hx)).mp s.2⟩
theorem Sts.five {H : Hp} {J K M W L : Own} (s : Sts H [J, K, M, W, L]) : Sts H [K, W, M, J, L] := (s.perm ((List.perm_append_comm (l₁ := [J]) (l₂ := [K, M, W])).append_right [L])).perm ((List.Perm.swap W M [J, L]).cons K)
theorem w_par {i j : Nat} {ta : TA} {D : Ends} {σ : St} {H : Hp} (k : ta σ H fun vs H1 => ∃ v w, vs = [v, w] ∧ D.nx ((σ.set i (some v)).set j (some w)) H1) : tPar i j ta D σ H := k
theorem scut {ts : TS} {D : Ends} {σ : St} {H : Hp} (Mid : St → Hp → Prop) (h2 : ∀ σ1 H1, Mid σ1 H1 → D.nx σ1 H1) (h1 : (∀ σ1 H1, Mid σ1 H1 → D.nx σ1 H1) → ts D σ H) : ts D σ H := h1 h2
section
variable {K : PySem.W.Frag} {i : Nat} {dj r n s : Addr} {ps : List Addr} {N : KM} {σ : St} {H : Hp} {Q : Bool → Hp → Prop}
end
end Lw
end

section
/-! what the head hands over -/
namespace Lw
open PySem L2 PyProof.Rows
theorem mg_none {K : PySem.W.Frag} {h : Heap} {mg : Str → Option Value} {n : Str} (X : K.In h) (G : h.Ns mainGlobals mg) (e : PySem.W.nsIn K mainGlobals n = some none) : mg n = none := PySem.W.mg_none_of X G e
theorem tabs_hu {P1 : Addr} {a : Str} : ∀ p ∈ [(P1, a)], p.1 = P1 → p.2 = a := by
  intro p hp _
  rw [List.mem_singleton.mp hp]
theorem FunC.binds {K : PySem.W.Frag} {x qual : Str} {st : Stmt} {f c : Addr} {fd : FuncData} {ps : List Str} (F : FunC K x qual st f fd c)
    (h : ∀ (kV doc pm : Value) (an : Option Addr) (ct : Value) (us : List Value), us.length = ps.length → bindArgs (PySem.W.fnOf x qual (defArgs st) (defBody st) (defScope st) .none kV doc pm an (.ref c) ct) ⟨us, []⟩ = pure (ps.zip us)) : Binds K fd ps [] := by
  obtain ⟨oc, od, kV, doc, pm, an, ct, osl, rfl, lk, hcd⟩ := F.ex
  exact .all (h kV doc pm an ct)
theorem map_at {α β : Type} {l : List α} {f : α → β} {b : β} (h : l.map f = List.replicate 15 b) {c : α} (hc : c ∈ l) : f c = b := by
  have : f c ∈ l.map f := List.mem_map_of_mem hc
  rw [h] at this
  exact (List.mem_replicate.mp this).2
section
variable {K : PySem.W.Frag} {l : List Addr}
theorem kinds_kk (h : (l.map fun c => l.map fun d => PySem.W.kitOne K (.ref c) (.ref d)) = (List.range 15).map fun i => (List.range 15).map fun j => some (decide (i = j))) :
    ∀ (i j : Nat) (c d : Addr), l[i]? = some c → l[j]? = some d → PySem.W.kitOne K (.ref c) (.ref d) = some (decide (i = j)) := by
  intro i j c d hc hd
  have h1 := congrArg (fun m => m[i]?) h
  simp only [List.getElem?_map, hc, Option.map_some] at h1
  have hl : l.length = 15 := by
    have := congrArg List.length h
    simpa using this
  have hi : i < 15 := by
    have := (List.getElem?_eq_some_iff.mp hc).1
    omega
  have hj : j < 15 := by
    have := (List.getElem?_eq_some_iff.mp hd).1
    omega
  rw [List.getElem?_range hi] at h1
  simp only [Option.map_some] at h1
  have h2 := congrArg (fun m => m[j]?) (Option.some.inj h1)
  simp only [List.getElem?_map, hd, Option.map_some] at h2
  rw [List.getElem?_range hj] at h2
  simp only [Option.map_some] at h2
  exact Option.some.inj h2
theorem kinds_kv {cB : Addr} (kv : l.map (fun c => PySem.W.kitOne K (.ref c) (.type "ValueError")) = List.replicate 15 (some true))
    (kg : l.map (fun c => PySem.W.findIn K (.ref c) "__getattribute__") = List.replicate 15 (some (some (.builtin "BaseException.__getattribute__"))))
    (ka : l.map (fun c => PySem.W.findIn K (.ref c) "__getattr__") = List.replicate 15 (some none)) (ks : l.map (fun c => PySem.W.subIn K (.ref c) (.type "BaseException")) = List.replicate 15 (some true))
    (kh : l.map (fun c => PySem.W.hasDictIn K c) = List.replicate 15 true) (kl : l.map (fun c => PySem.W.findIn K (.ref c) "__class__") = List.replicate 15 (some (some (.builtin "object.__class__"))))
    (km : l.map (fun c => PySem.W.mroIn K c (.type "object")) = List.replicate 15 (some true)) (kb : l.map (fun c => PySem.W.exmOne K (.ref c) (.ref cB)) = List.replicate 15 (some true))
    (kn : PySem.W.specialIn K (.builtin "object.__class__") "__get__" = some (some (.builtin "getset_descriptor.__get__"))) (kt : PySem.W.takesIn K (.builtin "object.__class__") = some true) :
    ∀ c, c ∈ l → PySem.W.kitOne K (.ref c) (.type "ValueError") = some true ∧ L2.ExcC K c ∧ PySem.W.exmOne K (.ref c) (.ref cB) = some true := fun c hc =>
  ⟨map_at kv hc, ⟨map_at kg hc, map_at ka hc, map_at ks hc, map_at kh hc, map_at kl hc, kn, kt, map_at km hc⟩, map_at kb hc⟩
end
end Lw
end

section
open PySem L2 Lw
local macro_rules | `(tactic| tm_at "s") => `(tactic| first
  | with_reducible refine w_seq ?_ | with_reducible refine w_asg ?_ | with_reducible refine w_gname ?_ | with_reducible refine w_ret ?_ | with_reducible refine w_drop ?_ | with_reducible refine w_ifS ?_ | with_reducible refine w_next ?_ | with_reducible refine w_retN ?_
  | with_reducible refine w_c ?_ | ((with_reducible refine w_var (v := ?vv) ?hh ?kk); (case hh => exact rfl)) | with_reducible refine w_op ?_ | with_reducible refine w_un ?_ | with_reducible refine w_cons ?_ | with_reducible refine w_nil ?_ | with_reducible refine w_test ?_ | with_reducible refine w_B ?_
  | with_reducible refine w_isbl ?_ | with_reducible refine w_not ?_ | with_reducible refine w_and ?_ | with_reducible refine w_or ?_ | with_reducible refine w_andV ?_ | with_reducible refine w_orV ?_ | with_reducible refine w_notV ?_ | with_reducible refine w_if ?_ | with_reducible refine w_chain ?_
  | with_reducible refine w_isN ?_ | with_reducible refine w_notN ?_ | with_reducible refine w_yes ?_ | with_reducible refine w_call ?_ | with_reducible refine w_CB ?_ | with_reducible refine w_tup ?_ | with_reducible refine w_lst ?_ | with_reducible refine w_sl ?_ | with_reducible refine w_noPart ?_
  | with_reducible refine w_part ?_ | with_reducible refine w_isint ?_ | with_reducible refine w_gSub ?_ | with_reducible refine w_break ?_ | with_reducible refine w_cont ?_
  | with_reducible refine w_I0 ?_ | with_reducible refine w_eqI ?_ | with_reducible refine w_neI ?_ | with_reducible refine w_eqS ?_ | with_reducible refine w_neS ?_ | with_reducible refine w_eqB ?_ | with_reducible refine w_neB ?_ | ((with_reducible refine w_isi (d := ?dd) ?hh ?kk); (case hh => assumption))
  | with_reducible refine w_sg ?_ | with_reducible refine w_notSg ?_ | with_reducible refine w_starts ?_ | with_reducible refine w_max2 ?_ | with_reducible refine w_min2 ?_ | with_reducible refine w_intB ?_ | with_reducible refine w_intI ?_ | with_reducible refine w_bm ?_ | with_reducible refine w_bm0 ?_ | with_reducible refine w_m1 ?_ | with_reducible refine w_m0 ?_ | with_reducible refine w_isstr ?_
  | with_reducible refine w_for ?_ | with_reducible refine w_lc ?_ | with_reducible refine w_rng ?_ | with_reducible refine w_rng2 ?_ | with_reducible refine w_ilist ?_ | with_reducible refine w_itup ?_ | with_reducible refine w_istr ?_ | with_reducible refine w_strOk ?_
  | ((with_reducible refine w_rngOk ?hh ?h2 ?kk); (case hh => omega); (case h2 => omega)) | ((with_reducible refine w_lstOk (xs := ?xx) ?hh ?kk); (case hh => assumption))
  | ((with_reducible refine w_alL ?hh ?kk); (case hh => exact Nat.le_of_ble_eq_true rfl)) | ((with_reducible refine w_alT ?hh ?kk); (case hh => exact Nat.le_of_ble_eq_true rfl))
  | ((with_reducible refine w_lenL (xs := ?xx) ?hh ?kk); (case hh => assumption)) | ((with_reducible refine w_lenT (xs := ?xx) ?hh ?kk); (case hh => assumption))
  | ((with_reducible refine w_I ?hh ?kk); (case hh => first | (show _ ≠ (0 : Int); omega) | (show (0 : Int) < _; omega) | exact ⟨by omega, by omega⟩ | exact .inl ⟨by omega, by omega⟩ | exact .inr ⟨by omega, by omega⟩ | exact ⟨by decide, by decide, by decide⟩))
  | with_reducible refine w_din ?_ | with_reducible refine w_dnot ?_ | with_reducible refine w_dget ?_ | with_reducible refine w_dput ?_ | with_reducible refine w_fld ?_ | with_reducible refine w_sto ?_ | with_reducible refine w_meth ?_ | with_reducible refine w_pop1 ?_ | with_reducible refine w_pop2 ?_ | with_reducible refine w_ikeys ?_
  | ((with_reducible refine f_width (CW := ?v1) (dx := ?v2) (t := ?v3) (l := ?v4) (w := ?v5) (told := ?v6) (many := ?v7) ?tw ?hh ?kk); (case tw => assumption); (case hh => assumption))
  | ((with_reducible refine f_things (CW := ?v1) (dx := ?v2) (t := ?v3) (l := ?v4) (w := ?v5) (told := ?v6) (many := ?v7) ?tw ?hh ?kk); (case tw => assumption); (case hh => assumption))
  | ((with_reducible refine f_listening (CW := ?v1) (dx := ?v2) (t := ?v3) (l := ?v4) (w := ?v5) (told := ?v6) (many := ?v7) ?tw ?hh ?kk); (case tw => assumption); (case hh => assumption))
  | ((with_reducible refine f_tolds (CW := ?v1) (dx := ?v2) (t := ?v3) (l := ?v4) (w := ?v5) (b := ?v6) (many := ?v7) ?tw ?hh ?kk); (case tw => assumption); (case hh => assumption))
  | ((with_reducible refine f_told (CW := ?v1) (dx := ?v2) (t := ?v3) (l := ?v4) (w := ?v5) (told := ?v6) (many := ?v7) ?tw ?hh ?kk); (case tw => assumption); (case hh => assumption))
  | ((with_reducible refine f_many (CW := ?v1) (dx := ?v2) (t := ?v3) (l := ?v4) (w := ?v5) (told := ?v6) (many := ?v7) ?tw ?hh ?kk); (case tw => assumption); (case hh => assumption))
  | ((with_reducible refine w_ixL (v := ?vv) (xs := ?xx) ?hh ?h2 ?kk); (case hh => assumption); (case h2 => exact rfl)) | ((with_reducible refine w_ixT (v := ?vv) (xs := ?xx) ?hh ?h2 ?kk); (case hh => assumption); (case h2 => exact rfl)))
local macro_rules | `(tactic| tm_at "r") => `(tactic| repeat tm_at "s")
local macro_rules | `(tactic| tm_at "b") => `(tactic| first | refine w_iteT (by with_reducible rfl) ?_ | refine w_iteF (by with_reducible rfl) ?_ | refine w_iteT (by rfl) ?_ | refine w_iteF (by rfl) ?_)
local macro_rules | `(tactic| tm_at "e") => `(tactic| repeat (first | tm_at "s" | tm_at "b"))
namespace My
open PySem L2 Lw
def top (i : Nat) : Stmt := PySem.Challenge.pw_busfind_k12_plans_with_the_least_looks.main.body.getD i (.Pass ⟨0, 0, 0, 0⟩)
structure TxB (mg : Str → Option Value) : Prop where
  n_len : mg "len" = none
  n_range : mg "range" = none
  n_int : mg "int" = none
  n_bool : mg "bool" = none
  n_str : mg "str" = none
  n_tuple : mg "tuple" = none
  n_list : mg "list" = none
  n_set : mg "set" = none
  n_sorted : mg "sorted" = none
  n_max : mg "max" = none
  n_min : mg "min" = none
  n_sum : mg "sum" = none
  n_isinstance : mg "isinstance" = none
  n_enumerate : mg "enumerate" = none
  n_ValueError : mg "ValueError" = none
abbrev s_law_taken : Stmt := top 38
theorem sc_law_taken : FnScope ["_law_row", "_law_many", "_law_found", "_law_cell"] ["_law_row", "_law_many"] (defScope s_law_taken) := ⟨rfl, rfl, rfl, by decide +kernel, rfl, by decide +kernel, by decide +kernel⟩
/-- a draw: some int from 0 up to many; the row goes on -/
def sp_taken (K : PySem.W.Frag) : Sp := fun vs H Q _ => ∃ (r : Addr) (many : Int), vs = [.ref r, .int many] ∧ RowOk K H r ∧ 0 < many ∧ many < 1073741824 ∧ ∀ (x : Int) (H' : Hp), 0 ≤ x → x < many → Ext H H' → Q (.int x) H'
section
variable {P : Program} {w : World} {K : PySem.W.Frag} {mg : Str → Option Value} {base : Heap}
theorem ok_taken {f : Addr} {fd : FuncData} (F : Fun K "_law_taken" "_law_taken" s_law_taken f fd) (T : TxB mg) : FnOk P w K mg base (L2.CX P w) 1 f fd ["_law_row", "_law_many"] (sp_taken K) := by
  refine F.okX sc_law_taken (fun vs H Q E h => ?_) (fun cdv A outer s H vs Q E hr h => ⟨_, (pss_cons (ps_if (pt_cmpR op_gt (pe_ix (ixL (K := K) rfl) (pv 0) pe_int (fun _ _ => rfl)) pe_int (nomark _))
 (pss_cons (ps_set (i := 2) sc_law_taken.nd rfl (by first | exact Or.inl rfl | exact Or.inr rfl) (pe_op op_modN (pe_ix (ixL (K := K) rfl) (pv 0) pe_int (fun _ _ => rfl)) (pv 1)))
 (pss_cons (ps_asg (pe_op op_fdivN (pe_ix (ixL (K := K) rfl) (pv 0) pe_int (fun _ _ => rfl)) (pv 1)) (pg_sub (pv 0) pe_int set_list))
 (pss_one (ps_ret (pv 2)))))
 pss_nil)
 (pss_cons (ps_asg (pe_op op_add (pe_ix (ixL (K := K) rfl) (pv 0) pe_int (fun _ _ => rfl)) pe_int) (pg_sub (pv 0) pe_int set_list))
 (pss_cons (ps_if (pt_cmpR op_gt (pe_ix (ixL (K := K) rfl) (pv 0) pe_int (fun _ _ => rfl)) (pe_callB (cLen (K := K) rfl) (by rfl) T.n_len (by decide +kernel) (pa_cons (pe_ix (ixL (K := K) rfl) (pv 0) pe_int (fun _ _ => rfl)) pa_nil)) (nomark _))
 (pss_cons (ps_asg (pe_op op_mod (pe_op op_add (pe_op op_mul (pe_ix (ixL (K := K) rfl) (pv 0) pe_int (fun _ _ => rfl)) pe_int) pe_int) pe_int) (pg_sub (pv 0) pe_int set_list))
 (pss_one (ps_ret (pe_op op_modN (pe_op op_fdiv (pe_ix (ixL (K := K) rfl) (pv 0) pe_int (fun _ _ => rfl)) pe_int) (pv 1)))))
 pss_nil)
 (pss_cons (ps_set (i := 3) sc_law_taken.nd rfl (by first | exact Or.inl rfl | exact Or.inr rfl) (pe_ix (ixL (K := K) rfl) (pe_ix (ixL (K := K) rfl) (pv 0) pe_int (fun _ _ => rfl)) (pe_op op_sub (pe_ix (ixL (K := K) rfl) (pv 0) pe_int (fun _ _ => rfl)) pe_int) (fun _ _ => rfl)))
 (pss_cons (ps_asg (pe_op op_mod (pe_op op_add (pe_op op_add (pe_op op_mul (pe_ix (ixL (K := K) rfl) (pv 0) pe_int (fun _ _ => rfl)) pe_int) (pv 3)) pe_int) pe_int) (pg_sub (pv 0) pe_int set_list))
 (pss_cons (ps_if (pt_cmpR op_ge (pv 3) (pe_op op_pow pe_int pe_int) (nomark _))
 (pss_one (ps_asg (pe_op op_fdivN (pv 3) (pv 1)) (pg_sub (pv 0) pe_int set_list)))
 pss_nil)
 (pss_one (ps_ret (pe_op op_modN (pv 3) (pv 1)))))))))), ?_⟩)
  · obtain ⟨r, many, rfl, _⟩ := h
    rfl
  · obtain ⟨r, many, rfl, ⟨a, i, m, z, ns, h0, hi, hs⟩, hm, hm2, k⟩ := h
    have hs := hs.sq
    have hR : SqL K H r [.ref a, .int i, .int m, .int z] := SqL.of h0
    have hR : SqL K H r [.ref a, .int i, .int m, .int z] := SqL.of h0
    tm_at "r"
    refine w_iteD (fun c => ?_) fun c => ?_
    · tm_at "r"
      refine w_row3 h0 hi fun H1 h1 e1 => ?_
      tm_at "r"
      exact k _ _ (Int.fmod_nonneg_of_pos _ hm) (Int.fmod_lt_of_pos _ hm) e1
    · tm_at "r"
      refine w_row1 h0 (by omega) fun H1 h1 e1 => ?_
      have hR1 : SqL K H1 r _ := SqL.of h1
      have hs1 : SqL K H1 a (ns.map V.int) := e1.seq (nsh_ints ns) hs
      tm_at "r"
      refine w_iteD (fun c2 => ?_) fun c2 => ?_
      · tm_at "r"
        refine w_row2 h1 (by omega) fun H2 h2 e2 => ?_
        have hR2 : SqL K H2 r _ := SqL.of h2
        tm_at "r"
        exact k _ _ (Int.fmod_nonneg_of_pos _ hm) (Int.fmod_lt_of_pos _ hm) (e1.trans e2)
      · tm_at "r"
        rw [List.length_map] at c2
        obtain ⟨y, hy1, hy2⟩ := atI_in ns (i := i + 1 - 1) (by omega) (by omega)
        refine w_ixL (v := .int y) hs1 (atI_int (by omega) (by rw [List.getElem?_map, hy2]; rfl)) ?_
        tm_at "r"
        refine w_row2 h1 (by omega) fun H2 h2 e2 => ?_
        have hR2 : SqL K H2 r _ := SqL.of h2
        tm_at "r"
        refine w_iteD (fun c3 => ?_) fun c3 => ?_
        · tm_at "r"
          refine w_row3 h2 (by omega) fun H3 h3 e3 => ?_
          tm_at "r"
          exact k _ _ (Int.fmod_nonneg_of_pos _ hm) (Int.fmod_lt_of_pos _ hm) ((e1.trans e2).trans e3)
        · tm_at "r"
          exact k _ _ (Int.fmod_nonneg_of_pos _ hm) (Int.fmod_lt_of_pos _ hm) (e1.trans e2)
end
end My
namespace My
abbrev s_law_number : Stmt := top 41
theorem sc_law_number : FnScope ["_law_row", "_law_width_here", "_law_k"] ["_law_row", "_law_width_here"] (defScope s_law_number) := ⟨rfl, rfl, rfl, by decide +kernel, rfl, by decide +kernel, by decide +kernel⟩
abbrev s_law_width : Stmt := top 44
theorem sc_law_width : FnScope ["_law_row"] ["_law_row"] (defScope s_law_width) := ⟨rfl, rfl, rfl, by decide +kernel, rfl, by decide +kernel, by decide +kernel⟩
abbrev s_law_near : Stmt := top 42
theorem sc_law_near : FnScope ["_law_row", "_law_width_here", "_law_some", "_law_number_here", "_law_many"] ["_law_row", "_law_width_here", "_law_some"] (defScope s_law_near) := ⟨rfl, rfl, rfl, by decide +kernel, rfl, by decide +kernel, by decide +kernel⟩
theorem u_taken {K : PySem.W.Frag} {H : Hp} {Q : VK} {E : XK} {r : Addr} {many : Int} (h : RowOk K H r) (h1 : 0 < many) (h2 : many < 1073741824) (k : ∀ (x : Int) (H' : Hp), 0 ≤ x → x < many → Ext H H' → Q (.int x) H') :
    sp_taken K ([.ref r, .int many] ++ []) H Q E := ⟨r, many, rfl, h, h1, h2, k⟩
/-- a number: some signs -/
def sp_number (K : PySem.W.Frag) : Sp := fun vs H Q _ => ∃ (r : Addr) (n : Int), vs = [.ref r, .int n] ∧ RowOk K H r ∧ 0 ≤ n ∧ n ≤ 1000 ∧ ∀ (l : List Bool) (H' : Hp), (l.length : Int) = n → Ext H H' → Q (.str (B l)) H'
theorem u_number {K : PySem.W.Frag} {H : Hp} {Q : VK} {E : XK} {r : Addr} {n : Int} (h : RowOk K H r) (h1 : 0 ≤ n) (h2 : n ≤ 1000) (k : ∀ (l : List Bool) (H' : Hp), (l.length : Int) = n → Ext H H' → Q (.str (B l)) H') :
    sp_number K ([.ref r, .int n] ++ []) H Q E := ⟨r, n, rfl, h, h1, h2, k⟩
def sp_width (K : PySem.W.Frag) : Sp := fun vs H Q _ => ∃ (r : Addr), vs = [.ref r] ∧ RowOk K H r ∧ ∀ (w : Nat) (H' : Hp), 1 ≤ w → w ≤ 12 → Ext H H' → Q (.int (w : Int)) H'
section
variable {P : Program} {w : World} {K : PySem.W.Frag} {mg : Str → Option Value} {base : Heap}
theorem ok_number {f : Addr} {fd : FuncData} (F : Fun K "_law_number" "_law_number" s_law_number f fd) (T : TxB mg) (C_law_taken : Cal P w K mg base 1 "_law_taken" ["_law_row", "_law_many"] (sp_taken K)) : FnOk P w K mg base (L2.CX P w) 2 f fd ["_law_row", "_law_width_here"] (sp_number K) := by
  refine F.okX sc_law_number (fun vs H Q E h => ?_) (fun cdv A outer s H vs Q E hr h => ⟨_, (pss_one (ps_ret (pe_m1 PySem.F.slot_str_join PySem.F.type_str_join (mJoin (K := K) rfl) pe_str (pe_lc (own := [("_law_k", 2)]) (g := gName 2) (tt := tYes) rfl sc_law_number.nd (pi_range1 rfl T.n_range (pa_cons (pv 1) pa_nil)) (blkOk_by (own := [("_law_k", 2)]) (N := ["_law_row", "_law_width_here", "_law_k"]) (sc := defScope s_law_number) (by decide +kernel)) (fun _ _ _ _ _ => pg_name (i := 2) sc_law_number.nd rfl (Or.inl rfl)) (fun _ _ _ _ _ => pts_nil) (fun _ _ _ _ _ => (pe_ix ix_str pe_str (pe_cal (E := E0) C_law_taken (hr.mono (by first | decide | omega)) passL (pa_cons (pv 0) (pa_cons pe_int pa_nil))) (fun _ _ => rfl))))))), ?_⟩)
  · obtain ⟨r, many, rfl, _⟩ := h
    rfl
  · obtain ⟨r, n, rfl, hrow, hn, hn2, k⟩ := h
    tm_at "r"
    refine lcN src_rng (fun i acc => ∃ bs : List Bool, bs.length = i ∧ acc = bvs (bs.map fun b => [b])) ⟨[], rfl, rfl⟩ (fun i acc ⟨bs, _, e⟩ => by rw [e]; exact nsh_bvs _) (by omega) (fun _ => rfl) (fun i x acc H' NE hi hx ha e kE => ?_) fun p acc H' ha hp e hpa hl => ?_
    · subst hx
      obtain ⟨bs, hb, rfl⟩ := ha
      have hrow := e.rowOk hrow
      tm_at "r"
      refine u_taken hrow (by omega) (by omega) fun x H2 h0 h1 e2 => ?_
      obtain ⟨b, hb2⟩ : ∃ b : Bool, atI [false, true] x = some b := (atI_in [false, true] h0 h1).imp fun b h => h.1
      refine w_ixS (c := bc b) (by decide) (by rw [B_01]; exact B_at hb2) ?_
      exact kE _ _ e2 ⟨bs ++ [b], by simp [hb], by simp [bvs, bv]; rfl⟩
    · obtain ⟨bs, hb, rfl⟩ := ha
      tm_at "r"
      refine ⟨_, p, (bs.map fun b => [b]).map B, rfl, rfl, .inl (by rw [← bvs_strs]; exact SqL.of hpa), ?_, ?_⟩
      · have e1 : (((bs.map fun b => [b]).map B).map (·.length)).sum = bs.length := by
          clear hb hpa hl
          induction bs with
          | nil => rfl
          | cons b bs ih => simp only [List.map_cons, List.sum_cons, ih, B_len, List.length_cons, List.length_nil]; omega
        rw [e1, B_nil, B_len]
        simp
        omega
      · rw [B_nil, join_signs]
        exact k bs H' (by omega) e
theorem ok_width {f : Addr} {fd : FuncData} (F : Fun K "_law_width" "_law_width" s_law_width f fd) (T : TxB mg) (C_law_taken : Cal P w K mg base 1 "_law_taken" ["_law_row", "_law_many"] (sp_taken K)) : FnOk P w K mg base (L2.CX P w) 2 f fd ["_law_row"] (sp_width K) := by
  refine F.okX sc_law_width (fun vs H Q E h => ?_) (fun cdv A outer s H vs Q E hr h => ⟨_, (pss_one (ps_ret (pe_op op_add pe_int (pe_cal (E := E0) C_law_taken (hr.mono (by first | decide | omega)) passL (pa_cons (pv 0) (pa_cons (pe_ix (ixL (K := K) rfl) (pe_lst (pa_cons pe_int (pa_cons pe_int (pa_cons pe_int pa_nil)))) (pe_cal (E := E0) C_law_taken (hr.mono (by first | decide | omega)) passL (pa_cons (pv 0) (pa_cons pe_int pa_nil))) (fun _ _ => rfl)) pa_nil)))))), ?_⟩)
  · obtain ⟨r, rfl, _⟩ := h
    rfl
  · obtain ⟨r, rfl, hrow, k⟩ := h
    tm_at "r"
    intro p H1 hp e1 hp1
    have hrow := e1.rowOk hrow
    tm_at "r"
    refine u_taken hrow (by omega) (by omega) fun x H2 h0 h1 e2 => ?_
    have hrow := e2.rowOk hrow
    obtain ⟨y, hy, hy2⟩ := atI_in [(4 : Int), 7, 12] h0 h1
    have hyb : 1 ≤ y ∧ y ≤ 12 := by
      have := List.mem_of_getElem? hy2
      simp at this
      omega
    refine w_ixL (v := .int y) (xs := [(4 : Int), 7, 12].map V.int) (e2.seq (nsh_ints _) (SqL.of hp1)) (atI_int h0 (by rw [List.getElem?_map, hy2]; rfl)) ?_
    tm_at "r"
    refine u_taken hrow (by omega) (by omega) fun x3 H3 h30 h31 e3 => ?_
    tm_at "r"
    have e : (1 + x3 : Int) = ((1 + x3).toNat : Int) := by omega
    rw [e]
    exact k _ _ (by omega) (by omega) ((e1.trans e2).trans e3)
end
end My
namespace My
abbrev s_law_things : Stmt := top 43
theorem sc_law_things : FnScope ["_law_row", "_law_width_here", "_law_most", "_law_found", "_law_base", "_law_k", "_law_number_here"] ["_law_row", "_law_width_here", "_law_most"] (defScope s_law_things) := ⟨rfl, rfl, rfl, by decide +kernel, rfl, by decide +kernel, by decide +kernel⟩
/-- a number near some -/
def sp_near (K : PySem.W.Frag) : Sp := fun vs H Q _ => ∃ (r p : Addr) (w : Nat) (ls : List (List Bool)), vs = [.ref r, .int (w : Int), .ref p] ∧ RowOk K H r ∧ w ≤ 1000 ∧ SqL K H p (bvs ls) ∧ (∀ l ∈ ls, l.length = w) ∧ ls.length ≤ 1000 ∧ ∀ (l : List Bool) (H' : Hp), l.length = w → Ext H H' → Q (.str (B l)) H'
theorem u_near {K : PySem.W.Frag} {H : Hp} {Q : VK} {E : XK} {r p : Addr} {w : Nat} {ls : List (List Bool)} (h : RowOk K H r) (h1 : w ≤ 1000) (h2 : SqL K H p (bvs ls)) (h3 : ∀ l ∈ ls, l.length = w) (h4 : ls.length ≤ 1000) (k : ∀ (l : List Bool) (H' : Hp), l.length = w → Ext H H' → Q (.str (B l)) H') :
    sp_near K ([.ref r, .int (w : Int), .ref p] ++ []) H Q E := ⟨r, p, w, ls, rfl, h, h1, h2, h3, h4, k⟩
/-- some unlike numbers, rising -/
def sp_things (K : PySem.W.Frag) : Sp := fun vs H Q _ => ∃ (r : Addr) (w most : Nat), vs = [.ref r, .int (w : Int), .int (most : Int)] ∧ RowOk K H r ∧ 1 ≤ w ∧ w ≤ 12 ∧ most ≤ 40 ∧
  ∀ (p : Addr) (ls : List (List Bool)) (H' : Hp), H p = none → Ext H H' → H' p = some (.lst (bvs ls)) → Rise ls → (∀ l ∈ ls, l.length = w) → ls.length ≤ 40 → (most ≤ 11 → ls.length ≤ most) → Q (.ref p) H'
theorem u_things {K : PySem.W.Frag} {H : Hp} {Q : VK} {E : XK} {r : Addr} {w most : Nat} (h : RowOk K H r) (h1 : 1 ≤ w) (h2 : w ≤ 12) (h3 : most ≤ 40)
    (k : ∀ (p : Addr) (ls : List (List Bool)) (H' : Hp), H p = none → Ext H H' → H' p = some (.lst (bvs ls)) → Rise ls → (∀ l ∈ ls, l.length = w) → ls.length ≤ 40 → (most ≤ 11 → ls.length ≤ most) → Q (.ref p) H') :
    sp_things K ([.ref r, .int (w : Int), .int (most : Int)] ++ []) H Q E := ⟨r, w, most, rfl, h, h1, h2, h3, k⟩
section
variable {P : Program} {w : World} {K : PySem.W.Frag} {mg : Str → Option Value} {base : Heap}
theorem ok_near {f : Addr} {fd : FuncData} (F : Fun K "_law_near" "_law_near" s_law_near f fd) (T : TxB mg) (C_law_taken : Cal P w K mg base 1 "_law_taken" ["_law_row", "_law_many"] (sp_taken K)) (C_law_number : Cal P w K mg base 2 "_law_number" ["_law_row", "_law_width_here"] (sp_number K)) :
    FnOk P w K mg base (L2.CX P w) 3 f fd ["_law_row", "_law_width_here", "_law_some"] (sp_near K) := by
  refine F.okX sc_law_near (fun vs H Q E h => ?_) (fun cdv A outer s H vs Q E hr h => ⟨_, (pss_cons (ps_set (i := 3) sc_law_near.nd rfl (by first | exact Or.inl rfl | exact Or.inr rfl) (pe_cal (E := E0) C_law_number (hr.mono (by first | decide | omega)) passL (pa_cons (pv 0) (pa_cons (pv 1) pa_nil))))
 (pss_cons (ps_if (PW.pt (pw_or (pt_cmpR (oEqD (K := K) rfl hr.units) (pv 2) (pe_lst pa_nil) (nomark _)) (pw_or1 (pt_cmpR op_eq (pe_cal (E := E0) C_law_taken (hr.mono (by first | decide | omega)) passL (pa_cons (pv 0) (pa_cons pe_int pa_nil))) pe_int (nomark _)))))
 (pss_one (ps_ret (pv 3)))
 pss_nil)
 (pss_cons (ps_set (i := 4) sc_law_near.nd rfl (by first | exact Or.inl rfl | exact Or.inr rfl) (pe_cal (E := E0) C_law_taken (hr.mono (by first | decide | omega)) passL (pa_cons (pv 0) (pa_cons (pe_op op_add (pv 1) pe_int) pa_nil))))
 (pss_one (ps_ret (pe_op o_addS (pe_slice sl_str (pe_ix (ixL (K := K) rfl) (pv 2) (pe_cal (E := E0) C_law_taken (hr.mono (by first | decide | omega)) passL (pa_cons (pv 0) (pa_cons (pe_callB (cLen (K := K) rfl) (by rfl) T.n_len (by decide +kernel) (pa_cons (pv 2) pa_nil)) pa_nil))) (fun _ _ => rfl)) po_none (po_some (pv 4))) (pe_slice sl_str (pv 3) (po_some (pv 4)) po_none))))))), ?_⟩)
  · obtain ⟨r, p, w, ls, rfl, _⟩ := h
    rfl
  · obtain ⟨r, p, w, ls, rfl, hrow, hw, hp, hl, hl2, k⟩ := h
    tm_at "r"
    refine u_number hrow (by omega) (by omega) fun num H1 hnum e1 => ?_
    have hrow := e1.rowOk hrow
    have hp := e1.seq (nsh_bvs _) hp
    tm_at "r"
    intro q H2 hq e2 hq2
    have hp := e2.seq (nsh_bvs _) hp
    have hrow := e2.rowOk hrow
    refine w_eqLs (ms := []) hp (SqL.of hq2) ?_
    tm_at "r"
    refine w_iteD (fun c => ?_) fun c => ?_
    · refine w_iteT rfl ?_
      tm_at "r"
      exact k num _ (by omega) (e1.trans e2)
    · tm_at "r"
      refine u_taken hrow (by omega) (by omega) fun x H3 hx0 hx1 e3 => ?_
      have hp := e3.seq (nsh_bvs _) hp
      have hrow := e3.rowOk hrow
      tm_at "r"
      refine w_iteD (fun c2 => ?_) fun c2 => ?_
      · tm_at "r"
        exact k num _ (by omega) ((e1.trans e2).trans e3)
      · tm_at "r"
        refine u_taken hrow (by omega) (by omega) fun many H4 hm0 hm1 e4 => ?_
        have hp := e4.seq (nsh_bvs _) hp
        have hrow := e4.rowOk hrow
        tm_at "r"
        have hpos : 0 < ls.length := List.length_pos_iff.mpr c
        refine u_taken hrow (by rw [bvs_len]; omega) (by rw [bvs_len]; omega) fun y H5 hy0 hy1 e5 => ?_
        have hp := e5.seq (nsh_bvs _) hp
        rw [bvs_len] at hy1
        obtain ⟨l, hl0, hl1⟩ := atI_in ls hy0 hy1
        have hlw := hl l (List.mem_of_getElem? hl1)
        refine w_ixL hp (bvs_atI hl0) ?_
        tm_at "r"
        obtain ⟨m, rfl⟩ : ∃ m : Nat, many = (m : Int) := ⟨many.toNat, by omega⟩
        refine w_slS (by rw [B_len]; omega) ?_
        tm_at "r"
        refine w_slS (by rw [B_len]; omega) ?_
        rw [cutS_to, cutS_from]
        refine w_addS (by rw [B_len, B_len, List.length_take, List.length_drop]; omega) ?_
        rw [B_app]
        exact k _ _ (by rw [List.length_append, List.length_take, List.length_drop]; omega) ((((e1.trans e2).trans e3).trans e4).trans e5)
theorem ok_things {f : Addr} {fd : FuncData} (F : Fun K "_law_things" "_law_things" s_law_things f fd) (T : TxB mg) (C_law_taken : Cal P w K mg base 1 "_law_taken" ["_law_row", "_law_many"] (sp_taken K)) (C_law_number : Cal P w K mg base 2 "_law_number" ["_law_row", "_law_width_here"] (sp_number K))
    (C_law_near : Cal P w K mg base 3 "_law_near" ["_law_row", "_law_width_here", "_law_some"] (sp_near K)) : FnOk P w K mg base (L2.CX P w) 4 f fd ["_law_row", "_law_width_here", "_law_most"] (sp_things K) := by
  refine F.okX sc_law_things (fun vs H Q E h => ?_) (fun cdv A outer s H vs Q E hr h => ⟨_, (pss_cons (ps_set (i := 3) sc_law_things.nd rfl (by first | exact Or.inl rfl | exact Or.inr rfl) (pe_lst pa_nil))
 (C8.pss_cut (ps_if (PW.pt (pw_and (pt_cmpR op_gt (pv 2) pe_int (nomark _)) (pw_and1 (pt_cmpR op_eq (pe_cal (E := E0) C_law_taken (hr.mono (by first | decide | omega)) passL (pa_cons (pv 0) (pa_cons pe_int pa_nil))) pe_int (nomark _)))))
 (pss_cons (ps_set (i := 4) sc_law_things.nd rfl (by first | exact Or.inl rfl | exact Or.inr rfl) (pe_ix (ixL (K := K) rfl) (pe_lst (pa_cons (pe_cal (E := E0) C_law_number (hr.mono (by first | decide | omega)) passL (pa_cons (pv 0) (pa_cons (pv 1) pa_nil))) (pa_cons (pe_op op_repS pe_str (pv 1)) pa_nil))) (pe_cal (E := E0) C_law_taken (hr.mono (by first | decide | omega)) passL (pa_cons (pv 0) (pa_cons pe_int pa_nil))) (fun _ _ => rfl)))
 (pss_cons (ps_for (passes_of rfl) rfl (pi_range1 rfl T.n_range (pa_cons (pv 1) pa_nil)) (pg_name (i := 5) sc_law_things.nd rfl (by first | exact Or.inl rfl | exact Or.inr rfl))
 (pss_one (ps_expr (pBm (K := K) rfl PySem.F.plainAttrs_list PySem.F.slot_list_append PySem.F.type_list_append mt_append (pv 3) (pa_cons (pe_op o_addS (pe_op o_addS (pe_slice sl_str (pv 4) po_none (po_some (pv 5))) (pe_ix ix_str pe_str (pe_callTy c_intS (by rfl) T.n_int (by decide +kernel) (pa_cons (pe_ix ix_str (pv 4) (pv 5) (fun _ _ => rfl)) pa_nil)) (fun _ _ => rfl))) (pe_slice sl_str (pe_cal (E := E0) C_law_number (hr.mono (by first | decide | omega)) passL (pa_cons (pv 0) (pa_cons (pv 1) pa_nil))) (po_some (pe_op op_add (pv 5) pe_int)) po_none)) pa_nil)))))
 (pss_one (ps_ret (pe_callB (cSortS (K := K) rfl) (by rfl) T.n_sorted (by decide +kernel) (pa_cons (pe_op op_cat (pe_slice (slL (K := K) rfl) (pv 3) po_none (po_some (pe_callB (c_max2 rfl) (by rfl) T.n_max (by decide +kernel) (pa_cons (pe_op op_sub (pv 1) (pe_cal (E := E0) C_law_taken (hr.mono (by first | decide | omega)) passL (pa_cons (pv 0) (pa_cons pe_int pa_nil)))) (pa_cons (pe_cal (E := E0) C_law_taken (hr.mono (by first | decide | omega)) passL (pa_cons (pv 0) (pa_cons (pe_op op_add (pv 1) pe_int) pa_nil))) pa_nil))))) (pe_lst (pa_cons (pv 4) pa_nil))) pa_nil))))))
 pss_nil)
 (pss_cons (ps_for (passes_of rfl) rfl (pi_range1 rfl T.n_range (pa_cons (pe_cal (E := E0) C_law_taken (hr.mono (by first | decide | omega)) passL (pa_cons (pv 0) (pa_cons (pe_op op_add (pv 2) pe_int) pa_nil))) pa_nil)) (pg_name (i := 5) sc_law_things.nd rfl (by first | exact Or.inl rfl | exact Or.inr rfl))
 (pss_cons (ps_set (i := 6) sc_law_things.nd rfl (by first | exact Or.inl rfl | exact Or.inr rfl) (pe_cal (E := E0) C_law_near (hr.mono (by first | decide | omega)) passL (pa_cons (pv 0) (pa_cons (pv 1) (pa_cons (pv 3) pa_nil)))))
 (pss_one (ps_if (pt_cmpR (oNotIn (K := K) rfl) (pv 6) (pv 3) (by rfl))
 (pss_one (ps_expr (pBm (K := K) rfl PySem.F.plainAttrs_list PySem.F.slot_list_append PySem.F.type_list_append mt_append (pv 3) (pa_cons (pv 6) pa_nil))))
 pss_nil))))
 (pss_one (ps_ret (pe_callB (cSortS (K := K) rfl) (by rfl) T.n_sorted (by decide +kernel) (pa_cons (pv 3) pa_nil))))))), ?_⟩)
  · obtain ⟨r, w, most, rfl, _⟩ := h
    rfl
  · obtain ⟨r, w, most, rfl, hrow0, hw1, hw2, hmost, k⟩ := h
    tm_at "r"
    intro p H1 hp e1 hp1
    have hrow := e1.rowOk hrow0
    tm_at "r"
    refine ⟨fun σ2 H2 => ∃ v4 : Option V, σ2 = [some (.ref r), some (.int (w : Int)), some (.int (most : Int)), some (.ref p), v4, none, none] ∧ Ext H H2 ∧ H2 p = some (.lst []), ?_, ?_⟩
    · tm_at "r"
      refine w_iteD (fun c => ?_) fun c => ?_
      · tm_at "r"
        refine u_taken hrow (by omega) (by omega) fun x H2 hx0 hx1 e2 => ?_
        have hrow := e2.rowOk hrow
        have hp1 := e2.lst hp1 nsh_nil
        tm_at "r"
        refine w_iteD (fun c2 => ?_) fun c2 => ?_
        · tm_at "r"
          refine u_number hrow (by omega) (by omega) fun num H3 hnum e3 => ?_
          have hrow := e3.rowOk hrow
          have hp1 := e3.lst hp1 nsh_nil
          tm_at "r"
          refine ⟨48, (w : Int), by decide +kernel, rfl, by omega, by omega, ?_⟩
          have erep : (⟨(List.replicate ((w : Int)).toNat 48).toArray⟩ : Str) = B (List.replicate w false) := B_rep false w
          rw [erep]
          tm_at "r"
          intro q H4 hq e4 hq4
          have hp1 := e4.lst hp1 nsh_nil
          have hrow := e4.rowOk hrow
          tm_at "r"
          refine u_taken hrow (by omega) (by omega) fun x H5 hx0 hx1 e5 => ?_
          have hq4 : SqL K H4 q (bvs [num, List.replicate w false]) := SqL.of hq4
          have hq4 := e5.seq (nsh_bvs _) hq4
          have hp1 := e5.lst hp1 nsh_nil
          have hrow := e5.rowOk hrow
          obtain ⟨bs, hb0, hb1⟩ := atI_in [num, List.replicate w false] hx0 hx1
          have hbw : bs.length = w := by
            have := List.mem_of_getElem? hb1
            simp at this
            rcases this with rfl | rfl
            · omega
            · simp
          refine w_ixL hq4 (bvs_atI hb0) ?_
          tm_at "r"
          have eH : Ext H H5 := (((e1.trans e2).trans e3).trans e4).trans e5
          refine forR (fun i σ2 H2 => ∃ (ms : List (List Bool)) (v : Option V), σ2 = [some (.ref r), some (.int (w : Int)), some (.int (most : Int)), some (.ref p), some (.str (B bs)), v, none] ∧ Ext H H2 ∧ H2 p = some (.lst (bvs ms)) ∧ ms.length = i ∧ Parts bs ms)
            ⟨[], none, rfl, eH, hp1, rfl, fun k m hk => by simp at hk⟩ ?_ ?_
          · rintro i σ2 H6 N hi ⟨ms, v, rfl, eH, hp6, hms, hP⟩ kN
            have hrow := eH.rowOk hrow0
            have hiw : i < w := by omega
            tm_at "r"
            refine w_tyL (SqL.of hp6) ?_
            tm_at "r"
            refine w_slS (by rw [B_len]; omega) ?_
            have e0 : (0 : Int) + (i : Int) = (i : Int) := by omega
            rw [e0, cutS_to]
            tm_at "r"
            obtain ⟨b, hb⟩ : ∃ b, bs[i]? = some b := ⟨bs[i], List.getElem?_eq_getElem (by omega)⟩
            refine w_ixS (by rw [B_len]; omega) (B_at (atI_k hb)) ?_
            tm_at "r"
            rw [B_one]
            refine w_intS (digit_int b) (by rw [B_len]; exact Nat.le_of_ble_eq_true rfl) ?_
            have hx : atI [true, false] (if b then (1 : Int) else 0) = some (!b) := by cases b <;> rfl
            refine w_ixS (c := bc (!b)) (by decide) (by rw [B_10]; exact B_at hx) ?_
            rw [B_one]
            refine w_addS (by rw [B_len, B_len, List.length_take]; simp; omega) ?_
            rw [B_app]
            tm_at "r"
            refine u_number hrow (by omega) (by omega) fun num2 H7 hnum2 e7 => ?_
            tm_at "r"
            refine w_slS (by rw [B_len]; omega) ?_
            have e2 : (i : Int) + 1 = ((i + 1 : Nat) : Int) := by omega
            rw [e2, cutS_from]
            refine w_addS (by rw [B_len, B_len, List.length_append, List.length_take, List.length_drop]; simp; omega) ?_
            rw [B_app]
            tm_at "r"
            have hp7 := e7.lst hp6 (nsh_bvs _)
            refine w_append hp7 (by rw [bvs_len]; omega) ?_
            refine kN _ _ ⟨ms ++ [bs.take i ++ [!b] ++ num2.drop (i + 1)], _, rfl, (eH.trans e7).mut hp, ?_, by simp [hms], ?_⟩
            · rw [upd_same, bvs_snoc]
            · subst hms
              exact hP.snoc hb (by rw [List.length_drop]; omega)
          · rintro σ2 H6 ⟨ms, v, rfl, eH, hp6, hms, hP⟩
            have hrow := eH.rowOk hrow0
            tm_at "r"
            refine u_taken hrow (by omega) (by omega) fun x H7 hx0 hx1 e7 => ?_
            have hrow := e7.rowOk hrow
            tm_at "r"
            refine u_taken hrow (by omega) (by omega) fun y H8 hy0 hy1 e8 => ?_
            have hp8 := e8.lst (e7.lst hp6 (nsh_bvs _)) (nsh_bvs _)
            tm_at "r"
            obtain ⟨m, hm⟩ : ∃ m : Nat, (if y > (w : Int) - x then y else (w : Int) - x) = (m : Int) := ⟨(if y > (w : Int) - x then y else (w : Int) - x).toNat, by split <;> omega⟩
            rw [hm]
            refine w_slL (SqL.of hp8) fun c1 H9 hc1 e9 hc9 => ?_
            rw [cutV_to, bvs_take] at hc9
            tm_at "r"
            intro c2 H10 hc2 e10 hc10
            have hc9 := e10.lst hc9 (nsh_bvs _)
            refine w_cat (ys := bvs [bs]) hc9 hc10 (by rw [bvs_len, List.length_take, bvs_len]; simp; omega) fun c3 H11 hc3 e11 hc11 => ?_
            rw [bvs_append] at hc11
            tm_at "r"
            have hw : ∀ l ∈ ms.take m ++ [bs], l.length = w := fun l hl => by
              rcases List.mem_append.mp hl with hl | hl
              · obtain ⟨i, hi⟩ := List.mem_iff_getElem?.mp (List.mem_of_mem_take hl)
                rw [(hP i l hi).1, hbw]
              · simp at hl
                rw [hl, hbw]
            refine w_sortS (SqL.of hc11) (by rw [List.length_append, List.length_take]; simp; omega) (hP.nodup m) fun zs l H12 hz rz hl e12 hl12 => ?_
            have eA : Ext H H12 := (((((eH.trans e7).trans e8).trans e9).trans e10).trans e11).trans e12
            refine k l zs H12 ?_ eA hl12 rz (fun z hz2 => hw z (hz.mem_iff.mp hz2)) ?_ (fun h => by omega)
            · exact (((((eH.trans e7).trans e8).trans e9).trans e10).trans e11).free hl
            · rw [hz.length_eq, List.length_append, List.length_take]; simp; omega
        · tm_at "r"
          exact ⟨none, rfl, e1.trans e2, hp1⟩
      · tm_at "r"
        exact ⟨none, rfl, e1, hp1⟩
    · rintro σ2 H2 ⟨v4, rfl, e2, hp2⟩
      have hrow := e2.rowOk hrow0
      tm_at "r"
      refine u_taken hrow (by omega) (by omega) fun x H3 hx0 hx1 e3 => ?_
      tm_at "r"
      refine forR (fun i σ2 H2 => ∃ (ms : List (List Bool)) (v v2 : Option V), σ2 = [some (.ref r), some (.int (w : Int)), some (.int (most : Int)), some (.ref p), v4, v, v2] ∧ Ext H H2 ∧ H2 p = some (.lst (bvs ms)) ∧ ms.length ≤ i ∧ ms.Nodup ∧ (∀ l ∈ ms, l.length = w))
        ⟨[], none, none, rfl, e2.trans e3, e3.lst hp2 nsh_nil, Nat.le_refl _, List.nodup_nil, fun l hl => by simp at hl⟩ ?_ ?_
      · rintro i σ2 H6 N hi ⟨ms, v, v2, rfl, eH, hp6, hms, nd, hw⟩ kN
        have hrow := eH.rowOk hrow0
        tm_at "r"
        refine u_near hrow (by omega) (SqL.of hp6) hw (by omega) fun l H7 hl e7 => ?_
        have hp7 := e7.lst hp6 (nsh_bvs _)
        tm_at "r"
        refine w_in (SqL.of hp7) rfl (bvs_flat _) ?_
        rw [inV_bvs]
        tm_at "r"
        refine w_iteN (fun c => ?_) fun c => ?_
        · tm_at "r"
          refine w_tyL (SqL.of hp7) ?_
          tm_at "r"
          refine w_append hp7 (by rw [bvs_len]; omega) ?_
          refine kN _ _ ⟨ms ++ [l], _, _, rfl, (eH.trans e7).mut hp, by rw [upd_same, bvs_snoc], by simp; omega, ?_, fun z hz => ?_⟩
          · exact List.nodup_append.mpr ⟨nd, by simp, fun a ha b hb e => by simp at hb; subst hb; subst e; exact c ha⟩
          · rcases List.mem_append.mp hz with hz | hz
            · exact hw z hz
            · simp at hz
              rw [hz, hl]
        · tm_at "r"
          exact kN _ _ ⟨ms, _, _, rfl, eH.trans e7, hp7, by omega, nd, hw⟩
      · rintro σ2 H6 ⟨ms, v, v2, rfl, eH, hp6, hms, nd, hw⟩
        tm_at "r"
        refine w_sortS (SqL.of hp6) (by omega) nd fun zs l H7 hz rz hl e7 hl7 => ?_
        exact k l zs H7 (eH.free hl) (eH.trans e7) hl7 rz (fun z hz2 => hw z (hz.mem_iff.mp hz2)) (by rw [hz.length_eq]; omega) (fun h => by rw [hz.length_eq]; omega)
end
end My
end

section
/-! refusals with a number; dicts of the module; texts cut and joined -/
namespace Lw
open PySem PySem.Spec PyProof.Rows L2
/-! ### C.__init__(self, ..), C an own class over ValueError without an __init__ -/
structure BInit (K : PySem.W.Frag) (mg : Str → Option Value) (x : Str) (C : Addr) : Prop where
  m : mg x = some (.ref C)
  rd : PySem.W.readsIn K C (.type "type") = true
  ga : PySem.W.specialIn K (.ref C) "__getattribute__" = some (some (.builtin "type.__getattribute__"))
  at_ : PySem.W.findCls K (.ref C) (.type "type") "__init__" = some (.val (.builtin "ValueError.__init__"))
section
variable {X : Cx} {x : Str} {C : Addr} {e : Expr} {es : List Expr} {ta : TA} {p1 p2 pos : Pos}
end
/-! ### refusals with a number -/
def sp_xinit (K : PySem.W.Frag) (C : Addr) (fld : Str) : Sp := fun vs H Q _ => ∃ (a : Addr) (n : Int), vs = [.ref a, .int n] ∧ n.natAbs.log2 < 1920 ∧ H a = some (exo a C none) ∧ ∀ d, H d = none → d ≠ a → Q .non (upd (upd H d (exd d [(fld, .int n)])) a (exo a C (some d)))
structure ExcN (P : Program) (w : World) (K : PySem.W.Frag) (mg : Str → Option Value) (base : Heap) (k : Nat) (x : Str) (C : Addr) (fld : Str) : Prop where
  T : OexC K C
  gC : mg x = some (.ref C)
  i : ∃ fI fd ps, PySem.W.findIn K (.ref C) "__init__" = some (some (.ref fI)) ∧ PySem.W.typeIn K (.ref fI) = some (.type "function") ∧ FnOk P w K mg base (L2.CX P w) k fI fd ps (sp_xinit K C fld) ∧ Binds K fd ps []
/-- what the making of one asks -/
def AMk (K : PySem.W.Frag) (C : Addr) (fld : Str) (vs : List V) (H1 : Hp) (Q : XK) : Prop := vs.length ≤ 1000 ∧ ∀ a, H1 a = none → sp_xinit K C fld (.ref a :: (vs ++ [])) (upd H1 a (exo a C none))
  (fun v H2 => v = .non ∧ ∃ (d : Addr) (fs : List (Str × V)), H2 a = some (exo a C (some d)) ∧ H2 d = some (exd d fs) ∧ H1 d = none ∧ Q (.ref C) (some d) (upd (del H2 a) d (.xd fs))) (fun _ _ _ => False)
/-- raise X(e) -/
def tRaiseN (K : PySem.W.Frag) (C : Addr) (fld : Str) (W : WX) (ta : TA) : TS := fun _ σ H => ta σ H fun vs H1 => AMk K C fld vs H1 fun cls d H' => W cls d σ H'
/-! ### the __init__ of such a class -/
/-! ### e.f in the handler -/
/-! ### a dict of the module, texts to texts -/
def KDm (K : PySem.W.Frag) (w : World) (d : Addr) (kvs : List (Str × Str)) : Prop := ∃ es n, KDict K w d es n ∧ ∀ z, ∃ r, PySem.W.nsIn K d z = some r ∧ match kvs.lookup z with
  | none => r = none
  | some x => ∃ t, r = some (.str x t)
def rKin (kvs : List (Str × Str)) (d : Addr) (neg : Bool) : R2 := fun x y H Q => ∃ z : Str, x = .str z ∧ y = .ref d ∧ Q (.bl (if neg then !(kvs.lookup z).isSome else (kvs.lookup z).isSome)) H
section
variable {X : Cx} {K : PySem.W.Frag} {w : World} {kvs : List (Str × Str)} {d : Addr}
def rKix (kvs : List (Str × Str)) (d : Addr) : R2 := fun x y H Q => ∃ (z v : Str), x = .ref d ∧ y = .str z ∧ kvs.lookup z = some v ∧ Q (.str v) H
end
/-! ### texts cut at a sign, joined again -/
def rSplit : V → List V → Hp → VK → Prop := fun x xs H Q => ∃ a b : Str, x = .str a ∧ xs = [.str b] ∧ (b.length == 0) = false ∧ a.length + 2 ≤ sizeLine ∧ rNewStrs (Txt.split a b) H Q
def cutL (c : Nat) : List (List Nat) → List Nat
  | [] => []
  | [y] => y
  | y :: z :: r => y ++ c :: cutL c (z :: r)
/-! ### the word of a refusal, with its number if it has one -/
def fldN (i : Nat) : Str := if i = 14 then "row" else "number"
def WordOkN {K : PySem.W.Frag} {mg : Str → Option Value} (g : Kinds K mg) (cls : Value) (d : Option Addr) (H : Hp) (Q : VK) : Prop :=
  ∃ (i : Nat) (c : Addr) (x : Str), g.cs[i]? = some c ∧ wordsL[i]? = some x ∧ cls = .ref c ∧
    ((i ≠ 9 ∧ i ≠ 13 ∧ i ≠ 14 ∧ d = none ∧ ∀ H1, Ext H H1 → Q (.str x) H1) ∨
    ((i = 9 ∨ i = 13 ∨ i = 14) ∧ ∃ (dd : Addr) (n : Int), d = some dd ∧ H dd = some (.xd [(fldN i, .int n)]) ∧ ∀ t H1, H t = none → Ext H H1 → H1 t = some (.tup [.str x, .int n]) → Q (.ref t) H1))
def TWordN {K : PySem.W.Frag} {mg : Str → Option Value} (g : Kinds K mg) : (XK → Hp → VK → Prop) → Hp → VK → Prop := fun tl H Q => tl (fun cls d H' => WordOkN g cls d H' Q) H fun _ H' => Q (.str "") H'
structure KindsN {K : PySem.W.Frag} {mg : Str → Option Value} (g : Kinds K mg) : Prop where
  n9 : PySem.W.findIn K (.ref g.c_BadLooks) "number" = some none
  n13 : PySem.W.findIn K (.ref g.c_BadStep) "number" = some none
  n14 : PySem.W.findIn K (.ref g.c_BadText) "row" = some none
end Lw
namespace Lw
open PySem PySem.Spec PySem.Calls PyProof.Rows PySem.W L2
section
variable {prog : Program} {w : World} {A : Around} {E : Value → Shared → Prop} {s : Shared} {K : Frag} {x D : Addr} {ox : Obj} {od : Option Obj}
end
end Lw
namespace Lw
open PySem PySem.Spec PyProof.Rows L2
/-- isinstance(e, c), e a held error with a dict -/
def rIsEx (K : PySem.W.Frag) (D a dd : Addr) : List V → Hp → VK → Prop := fun xs H Q => ∃ (c : V) (cv : Value) (b : Bool) (fs : List (Str × V)), xs = [.ref a, c] ∧ H dd = some (.xd fs) ∧ (∀ u, RelV c u → u = cv) ∧ PySem.W.kitOne K (.ref D) cv = some b ∧ Q (.bl b) H
end Lw
end

section
/-! steps of a day, as data; walks with their places -/
namespace Lw
open PySem PySem.Spec PyProof.Rows L2
/-! ### for k, x in enumerate(xs) -/
def EnmOk (K : PySem.W.Frag) (vs : List V) (H : Hp) (R : It → Hp → Prop) : Prop := ∃ a xs, vs = [.ref a] ∧ SqL K H a xs ∧ R (Ite K a) H
section
variable {X : Cx} {K : PySem.W.Frag} {elts : List Expr} {kk : Nat} {tpos p pos : Pos} {e : Expr} {ta : TA}
end
section
variable {K : PySem.W.Frag} {σ : L2.St} {H : Hp} {Q : VK} {D : Ends} {ta : TA} {tb : TS} {R : It → Hp → Prop} {j k : Nat}
end
theorem at0 {v : V} {r : List V} : atI (v :: r) 0 = some v := atI_k (j := 0) rfl
theorem at1 {u v : V} {r : List V} : atI (u :: v :: r) 1 = some v := atI_k (j := 1) rfl
/-! ### tuple(xs), sep.join(xs) -/
def rTupS (K : PySem.W.Frag) : List V → Hp → VK → Prop := fun xs H Q => ∃ p ys, xs = [.ref p] ∧ ((SqL K H p ys ∧ ∀ l, H l = none → Q (.ref l) (upd H l (.tup ys))) ∨ (SqT K H p ys ∧ Q (.ref p) H))
theorem cTup {X : Cx} {K : PySem.W.Frag} (h : X.K = K) : CallR X (.type "tuple") (rTupS K) := h ▸ call_tuple_of
theorem w_tupL {K : PySem.W.Frag} {H : Hp} {Q : VK} {p : Addr} {ys : List V} (h : SqL K H p ys) (k : ∀ l H', H l = none → Ext H H' → H' l = some (.tup ys) → Q (.ref l) H') : rTupS K [.ref p] H Q := ⟨p, ys, rfl, .inl ⟨h, fun l hl => k l _ hl (Ext.new hl) upd_same⟩⟩
/-! ### plain texts -/
def Asc (x : Str) : Prop := ∀ c ∈ x.cps.toList, c < 128
theorem Asc.lay {x : Str} (h : Asc x) : PyData.canLay0 (.str x) = true := by
  simp only [PyData.canLay0, PyData.strOk]
  rw [Array.all_eq_true]
  intro i hi
  have e := h x.cps[i] (by simp)
  exact decide_eq_true (by omega)
theorem Asc.sub {x y : Str} (h : Asc x) (k : ∀ c ∈ y.cps.toList, c ∈ x.cps.toList) : Asc y := fun c hc => h c (k c hc)
/-! ### steps -/
def forms : List (Str × Str) := [("hang", "number"), ("off", "number"), ("alarm", "number"), ("calm", "number"), ("walk", "kind"), ("step", ""), ("round", ""), ("turn", ""), ("refresh", "")]
/-- a text or a number -/
def FlatV (v : V) : Prop := (∃ x : Str, v = .str x ∧ PyData.canLay0 (.str x) = true ∧ x.length ≤ 100000) ∨ ∃ i : Int, v = .int i
def toD : V → PyData
  | .str x => .str x
  | .int i => .int i
  | _ => .none
theorem FlatV.dq {K : PySem.W.Frag} {H : Hp} {v : V} (h : FlatV v) : Dq K H v (toD v) := by
  rcases h with ⟨x, rfl, _, _⟩ | ⟨i, rfl⟩
  · exact .str x
  · exact .int i
theorem FlatV.lay {v : V} (h : FlatV v) : PyData.canLay0 (toD v) = true := by
  rcases h with ⟨x, rfl, h, _⟩ | ⟨i, rfl⟩
  · exact h
  · rfl
theorem FlatV.flat {v : V} (h : FlatV v) : flatV v = true := by
  rcases h with ⟨x, rfl, h, _⟩ | ⟨i, rfl⟩ <;> rfl
theorem FlatV.ok {v : V} (h : FlatV v) : PyData.canLay0 (toD v) = true ∧ ∀ x, toD v = .str x → x.length ≤ 100000 := ⟨h.lay, fun x e => by
  rcases h with ⟨z, rfl, _, h⟩ | ⟨i, rfl⟩
  · cases e
    exact h
  · cases e⟩
theorem flat_str {x : Str} (h : Asc x) (hl : x.length ≤ 100000) : FlatV (.str x) := .inl ⟨x, rfl, h.lay, hl⟩
theorem dqAll_flat {K : PySem.W.Frag} {H : Hp} : ∀ {xs : List V}, (∀ v ∈ xs, FlatV v) → DqAll K H xs (xs.map toD)
  | [], _ => .nil
  | v :: xs, h => .cons (h v List.mem_cons_self).dq (dqAll_flat fun u hu => h u (List.mem_cons_of_mem _ hu))
def stepD (xs : List V) : PyData := .tuple (xs.map toD)
theorem dq_step {K : PySem.W.Frag} {H : Hp} {t : Addr} {xs : List V} (h : SqT K H t xs) (hf : ∀ v ∈ xs, FlatV v) (hz : xs.length ≤ 100000) : Dq K H (.ref t) (stepD xs) := .tup h hz (dqAll_flat hf)
/-- a part, by its form -/
def partV (f : Str) (v : V) : Bool := match v with
  | .str x => if f = "kind" then decide (x = "all" ∨ x = "alarm") else bitsS x && (decide (1 ≤ x.length) && decide (x.length ≤ 12))
  | _ => false
def oneV (f : Str) : List V → Bool
  | [v] => partV f v
  | _ => false
def stepV (xs : List V) : Bool := match xs with
  | .str x :: r => match forms.lookup x with
    | none => false
    | some f => if f = "" then r.isEmpty else oneV f r
  | _ => false
/-- the first that is no step -/
def badAt (n : Nat) : List (List V) → Option Nat
  | [] => none
  | xs :: r => if 200 ≤ n ∨ stepV xs = false then some n else badAt (n + 1) r
/-- a list of steps in the heap -/
def StepsAt (K : PySem.W.Frag) (H : Hp) (a : Addr) (sts : List (List V)) : Prop := ∃ ts : List Addr, SqL K H a (ts.map V.ref) ∧ Paired (fun t xs => SqT K H t xs) ts sts
theorem paired_len {α β : Type} {r : α → β → Prop} : ∀ {l : List α} {m : List β}, Paired r l m → l.length = m.length
  | _, _, .nil => rfl
  | _, _, .cons _ h => congrArg (· + 1) (paired_len h)
theorem paired_at {α β : Type} {r : α → β → Prop} : ∀ {l : List α} {m : List β}, Paired r l m → ∀ {i : Nat} {x : α}, l[i]? = some x → ∃ y, m[i]? = some y ∧ r x y
  | _, _, .nil, _, _, e => by cases e
  | _, _, .cons h _, 0, _, e => ⟨_, rfl, by cases e; exact h⟩
  | _, _, .cons _ t, i + 1, _, e => paired_at t (i := i) e
theorem paired_mono {α β : Type} {r r' : α → β → Prop} (k : ∀ x y, r x y → r' x y) : ∀ {l : List α} {m : List β}, Paired r l m → Paired r' l m
  | _, _, .nil => .nil
  | _, _, .cons h t => .cons (k _ _ h) (paired_mono k t)
theorem paired_snoc {α β : Type} {r : α → β → Prop} {x : α} {y : β} (h : r x y) : ∀ {l : List α} {m : List β}, Paired r l m → Paired r (l ++ [x]) (m ++ [y])
  | _, _, .nil => .cons h .nil
  | _, _, .cons h1 t => .cons h1 (paired_snoc h t)
theorem StepsAt.ext {K : PySem.W.Frag} {H H1 : Hp} {a : Addr} {sts : List (List V)} (h : StepsAt K H a sts) (e : Ext H H1) : StepsAt K H1 a sts := by
  obtain ⟨ts, h1, h2⟩ := h
  exact ⟨ts, e.seq (nsh_refs _) h1, paired_mono (fun t xs h => e.tup h) h2⟩
theorem sqT_upd {K : PySem.W.Frag} {H : Hp} {q t : Addr} {xs ys : List V} {o : HO} (hq : H q = some (.lst xs)) (h : SqT K H t ys) : SqT K (upd H q o) t ys := by
  rcases h with (h | ⟨o2, h⟩) | h
  · exact .inl (.inl (by rw [upd_ne (by intro e; rw [e, hq] at h; cases h)]; exact h))
  · exact .inl (.inr ⟨o2, by rw [upd_ne (by intro e; rw [e, hq] at h; cases h)]; exact h⟩)
  · exact .inr h
theorem dqAll_steps {K : PySem.W.Frag} {H : Hp} : ∀ {ts : List Addr} {sts : List (List V)}, Paired (fun t xs => SqT K H t xs) ts sts → (∀ xs ∈ sts, (∀ v ∈ xs, FlatV v) ∧ xs.length ≤ 100) → DqAll K H (ts.map V.ref) (sts.map stepD)
  | _, _, .nil, _ => .nil
  | _, _, .cons h t, k => .cons (dq_step h (k _ List.mem_cons_self).1 (Nat.le_trans (k _ List.mem_cons_self).2 (by decide))) (dqAll_steps t fun xs hx => k xs (List.mem_cons_of_mem _ hx))
theorem StepsAt.dq {K : PySem.W.Frag} {H : Hp} {a : Addr} {sts : List (List V)} (h : StepsAt K H a sts) (hf : ∀ xs ∈ sts, (∀ v ∈ xs, FlatV v) ∧ xs.length ≤ 100) (hz : sts.length ≤ 100000) : Dq K H (.ref a) (.list (sts.map stepD)) := by
  obtain ⟨ts, h1, h2⟩ := h
  exact .lst h1 (nsh_refs _) (by rw [List.length_map, paired_len h2]; exact hz) (dqAll_steps h2 hf)
/-- its text -/
def rowT (s : List Str) : Str := Str.join " " s
def wrT (sts : List (List Str)) : Str := Str.join "\n" (sts.map rowT)
/-! ### good steps -/
def numW : List Str := ["hang", "off", "alarm", "calm"]
def barW : List Str := ["step", "round", "turn", "refresh"]
def allW : List Str := ["step", "round", "turn", "refresh", "hang", "off", "alarm", "calm", "walk", "all", "alarm"]
def GoodS (s : List Str) : Prop := (∃ w, s = [w] ∧ w ∈ barW) ∨ (∃ k : Str, s = [("walk" : Str), k] ∧ (k = "all" ∨ k = "alarm")) ∨ ∃ w b, s = [w, B b] ∧ w ∈ numW ∧ 1 ≤ b.length ∧ b.length ≤ 12
def strV (s : List Str) : List V := s.map V.str
def TxtOk (s : List Str) : Prop := (∀ x ∈ s, Asc x ∧ x.length ≤ 100000) ∧ s.length ≤ 100
theorem TxtOk.flat {s : List Str} (h : TxtOk s) : (∀ v ∈ strV s, FlatV v) ∧ (strV s).length ≤ 100 := ⟨fun v hv => by
  obtain ⟨x, hx, rfl⟩ := List.mem_map.mp hv
  exact flat_str (h.1 x hx).1 (h.1 x hx).2, by rw [strV, List.length_map]; exact h.2⟩
def wordB (w : Str) : Bool := w.cps.toList.all fun c => decide (c < 128) && (!decide (c = 32) && !decide (c = 10))
def wdsOf (x : Str) : List Str := Txt.split x " "
def rwsOf (x : Str) : List Str := if x = "" then [] else Txt.split x "\n"
/-! ### a text laid out step by step -/
def tlT (a : Str) (l : List Str) : Str := l.foldl (fun a x => a ++ " " ++ x) a
end Lw
end

section
/-! texts: signs left out; steps spoilt; comprehensions told by the heap -/
namespace L2
open PySem PySem.Spec PyProof.Rows
/-- e; behind it a token is out -/
structure PE1 (X : Cx) (e : Expr) (t : TE) : Prop where
  run : ∀ (pins : List (Addr × Obj)) (s : Shared) (σ : St) (H : Hp) (Q : VK), Inv X pins σ H s → t σ H Q → wpAny (model X.prog X.w) X.A (eval e X.env) (fun v s1 => 1 ≤ s1.toks ∧ EP X pins σ Q v s1) X.xe s
section
variable {X : Cx} {a o : Expr} {ta to : TE} {r : R2} {j j0 j1 : Nat} {k : Int} {y z : Str} {p pos apos cp c0 c1 : Pos}
theorem PE1.pe {e : Expr} {t : TE} (h : PE1 X e t) : PE X e t := ⟨fun pins s σ H Q I q => wpAny_mono (h.run pins s σ H Q I q) (fun _ _ z => z.2) fun _ _ z => z⟩
def tRpl (y z : Str) (to : TE) : TE := fun σ H Q => to σ H fun x H1 => ∃ a, x = .str a ∧ (y == z) = false ∧ a.length + (a.length + 1) * z.length ≤ 16777216 ∧ Q (.str (Txt.replace a y z)) H1
end
end L2
namespace Lw
open PySem PySem.Spec PyProof.Rows L2
/-! ### a comprehension, what is made so far told by the heap -/
theorem lcH {σ : L2.St} {H : Hp} {Q : VK} {te : TE} {vs : List Nat} {j : Nat} {J : It} {n : Nat} {Y : Nat → V → Prop} (src : Src J n Y H) (r : Nat → List V → Hp → Prop) (hm : ∀ i acc H1 H2, r i acc H1 → Ext H1 H2 → r i acc H2)
    (hu : ∀ i acc H1 D xs o, H1 D = some (.lst xs) → r i acc H1 → r i acc (upd H1 D o)) (h0 : ∀ H1, Ext H H1 → r 0 [] H1) (hn : ∀ i acc H1, r i acc H1 → ¬ RowSh (.lst acc)) (hz : n ≤ 100000) (hw : ∀ x, wipe ((wipe σ vs).set j (some x)) vs = wipe σ vs)
    (hs : ∀ i x acc H' (NE : VK), i < n → Y i x → r i acc H' → Ext H H' → (∀ y H2, Ext H' H2 → r (i + 1) (acc ++ [y]) H2 → NE y H2) → te ((wipe σ vs).set j (some x)) H' NE)
    (hd : ∀ p acc H', r n acc H' → H p = none → Ext H H' → H' p = some (.lst acc) → acc.length ≤ n → Q (.ref p) H') : LcB J (gName j) tYes te vs σ H Q := by
  intro D hD
  refine ⟨fun i m H' => m = n - i ∧ i ≤ n ∧ ∃ acc, r i acc H' ∧ acc.length ≤ i ∧ Ext H H' ∧ H' D = some (.lst acc), ⟨n, by simp, Nat.zero_le _, [], h0 _ (Ext.new hD), Nat.le_refl _, Ext.new hD, upd_same⟩, ?_⟩
  rintro i m H' ⟨rfl, hi, acc, ha, hl, e, hDa⟩
  obtain ⟨s1, s2⟩ := src H' e
  by_cases hlt : i < n
  · obtain ⟨go, hy⟩ := s1 i hlt
    refine .inr ⟨go, fun H2 => i + 1 ≤ n ∧ ∃ acc, r (i + 1) acc H2 ∧ acc.length ≤ i + 1 ∧ Ext H H2 ∧ H2 D = some (.lst acc), fun H2 ⟨a, b⟩ => ⟨n - (i + 1), by omega, rfl, a, b⟩, fun x H2 y => ?_⟩
    obtain ⟨e2, y2⟩ := hy x H2 y
    subst e2
    refine ⟨hw x, ?_⟩
    refine w_yes ?_
    dsimp only
    rw [if_pos rfl]
    refine hs i x acc _ _ hlt y2 ha e fun v H3 e3 h3 => ?_
    have hD3 := e3.st _ _ hDa (hn _ _ _ ha)
    exact ⟨acc, hD3, Nat.lt_of_lt_of_le (Nat.lt_of_le_of_lt (Nat.le_trans hl (Nat.le_trans hi hz)) (by decide : 100000 < 16777216)) (by decide), hlt, _, hu _ _ _ _ _ _ hD3 h3, by simp; omega, (e.trans e3).mut hD, upd_same⟩
  · have e1 : i = n := by omega
    subst e1
    exact .inl ⟨s2, hd D acc H' ha hD e hDa hl⟩
/-! ### signs left out -/
/-! ### a row read by the law -/
/-! ### rows with their places -/
def badIx (n : Nat) : List (List V) → List Nat
  | [] => []
  | xs :: r => if 200 ≤ n ∨ stepV xs = false then n :: badIx (n + 1) r else badIx (n + 1) r
/-! ### weights of rows -/
def wt (l : List Str) : Nat := (l.map (·.length)).sum + l.length
theorem Asc.app {x y : Str} (h : Asc x) (k : Asc y) : Asc (x ++ y) := fun c hc => by
  have hc : c ∈ (x.cps ++ y.cps).toList := hc
  rw [Array.toList_append, List.mem_append] at hc
  exact hc.elim (h c) (k c)
theorem Asc.cut {x : Str} (h : Asc x) (lo hi : Option Int) : Asc (cutS x lo hi) := h.sub fun c hc => List.mem_of_mem_drop (List.mem_of_mem_take (show c ∈ ((x.cps.toList.drop (HT.sIx x.length 0 lo)).take (HT.sIx x.length x.length hi - HT.sIx x.length 0 lo)) from hc))
/-! ### what the law's reader found -/
def FoundAt (K : PySem.W.Frag) (H : Hp) (a : Addr) (sts : List (List V)) : Prop := ∃ vs, H a = some (.lst vs) ∧ ¬ RowSh (.lst vs) ∧ Paired (fun v xs => (stepV xs = true ∧ ∃ t, v = .ref t ∧ SqT K H t xs) ∨ (stepV xs = false ∧ v = .non)) vs sts
theorem FoundAt.ext {K : PySem.W.Frag} {H H1 : Hp} {a : Addr} {sts : List (List V)} (h : FoundAt K H a sts) (e : Ext H H1) : FoundAt K H1 a sts := by
  obtain ⟨vs, h1, h2, h3⟩ := h
  exact ⟨vs, e.st _ _ h1 h2, h2, paired_mono (fun v xs h => h.imp (fun ⟨a, t, b, c⟩ => ⟨a, t, b, e.tup c⟩) id) h3⟩
theorem FoundAt.steps {K : PySem.W.Frag} {H : Hp} {a : Addr} {sts : List (List V)} (h : FoundAt K H a sts) (hs : ∀ xs ∈ sts, stepV xs = true) : StepsAt K H a sts := by
  obtain ⟨vs, h1, h2, h3⟩ := h
  clear h2
  have : ∃ ts : List Addr, vs = ts.map V.ref ∧ Paired (fun t xs => SqT K H t xs) ts sts := by
    clear h1
    induction h3 with
    | nil => exact ⟨[], rfl, .nil⟩
    | cons h _ ih =>
      obtain ⟨ts, e, p⟩ := ih fun xs hx => hs xs (List.mem_cons_of_mem _ hx)
      rcases h with ⟨_, t, rfl, ht⟩ | ⟨h, _⟩
      · exact ⟨t :: ts, by rw [e]; rfl, .cons ht p⟩
      · rw [hs _ List.mem_cons_self] at h
        cases h
  obtain ⟨ts, rfl, p⟩ := this
  exact ⟨ts, SqL.of h1, p⟩
/-! ### lists of numbers as data -/
end Lw
end

section
/-! the first round of a new walk tells the least of its kind -/
namespace Lw
open PySem L2
/-- x is the least of these -/
def Least (rs : List Bits) (x : Bits) : Prop := x ∈ rs ∧ ∀ y ∈ rs, y = x ∨ blt x y = true
/-! a desk -/
def dfl (a k : Addr) : List (Str × V) := [("bus", .ref a), ("tour", .ref k)]
structure ClD (K : PySem.W.Frag) (CD : Addr) : Prop where
  cl : Cls K CD
  n_bus : NoAttr K CD "bus"
  n_tour : NoAttr K CD "tour"
section
variable {K : PySem.W.Frag} {CD e de a k : Addr} {H : Hp} {Q : VK}
end
/-! ### between two rounds only what hangs, the width and the count matter -/
def WM.bare (M : WM) : WM := { M with told := none, lis := [] }
theorem kstep_bare {M : WM} {N : KM} (h : N.said = none) : kstep M.bare N = kstep M N := by
  rw [kstep_none h, kstep_none h]
  rfl
theorem kround_bare {j : Nat} {M M2 : WM} {N N2 : KM} {z : Res} (h : N.said = none) : KRound j M.bare N M2 N2 z ↔ KRound j M N M2 N2 z := by
  have e := kstep_bare (M := M) h
  constructor
  · intro r
    cases r with
    | last q =>
      have := KRound.last (M := M) (N := N) (by rw [← e]; exact q)
      rwa [← e] at this
    | more q t => exact .more (by rw [← e]; exact q) (by rw [← e]; exact t)
  · intro r
    cases r with
    | last q =>
      have := KRound.last (M := M.bare) (N := N) (by rw [e]; exact q)
      rwa [e] at this
    | more q t => exact .more (by rw [e]; exact q) (by rw [e]; exact t)
theorem WOk.bare {M : WM} (h : WOk M) : WOk M.bare := ⟨h.w1, h.w2, h.nd, h.len, h.sz, List.Pairwise.nil, fun x hx => absurd hx (by simp [WM.bare]), Nat.zero_le _, fun b hb => (by cases hb), fun _ => rfl⟩
theorem ended_done {N : KM} {w : Nat} {b : Bits} (h : (N.ended w b).2 ≠ .none) : (N.ended w b).1.said = none := by
  unfold KM.ended at h ⊢
  by_cases c : b.length < w
  · rw [if_pos c] at h
    exact absurd rfl h
  · rw [if_neg c]
theorem kstep_done {M : WM} {N : KM} (h : (kstep M N).2.2 ≠ .none) : (kstep M N).2.1.said = none := by
  cases hs : N.said with
  | none =>
    rw [kstep_none hs] at h ⊢
    exact ended_done h
  | some b =>
    rw [kstep_some hs] at h ⊢
    unfold stepL at h ⊢
    simp only at h ⊢
    split
    · rfl
    · rename_i c
      rw [if_neg c] at h
      exact ended_done h
theorem kround_done {j : Nat} {M M2 : WM} {N N2 : KM} {z : Res} (t : KRound j M N M2 N2 z) : N2.said = none := by
  induction t with
  | last h => exact kstep_done h
  | more _ _ ih => exact ih
/-- a tour between two rounds -/
structure TInv (n : Nat) (ls : List Bits) (M : WM) (N : KM) : Prop where
  g : GInv n ls M.bare N
  s : N.said = none
theorem TInv.round {n j : Nat} {ls : List Bits} {M M2 : WM} {N N2 : KM} {z : Res} (h : TInv n ls M N) (ho : N.rest ≠ []) (t : KRound j M N M2 N2 z) : TInv n ls M2 N2 ∧ M2.things = M.things ∧ M2.width = M.width := by
  have hov : N.over = false := by simp [KM.over, h.s, ho]
  have g2 := (h.g.round hov ((kround_bare h.s).mpr t)).1
  obtain ⟨_, _, _, e1, e2, e3⟩ := kround_sz t
  refine ⟨⟨⟨g2.hw, g2.n12, g2.l40, g2.hl, g2.ok.bare, g2.ki, ⟨fun b hb => ?_, g2.kp.lr⟩, g2.kl, fun x hx => absurd hx (by simp [WM.bare])⟩, ?_⟩, e2, e1⟩
  · rw [kround_done t] at hb
    cases hb
  · exact kround_done t
theorem TInv.other {n : Nat} {ls : List Bits} {M M' : WM} {N : KM} (h : TInv n ls M N) (hw : M'.width = n) (ok : WOk M') (kl : ∀ x ∈ M'.keys, x ∈ ls) : TInv n ls M' N :=
  ⟨⟨hw, h.g.n12, h.g.l40, h.g.hl, ok.bare, h.g.ki, ⟨fun b hb => (by rw [h.s] at hb; cases hb), fun y hy => by
    have := h.g.kp.lr y hy
    have e : M.bare.width = n := h.g.hw
    rw [e] at this
    show y.length ≤ M'.width
    rw [hw]
    exact this⟩, kl, fun x hx => absurd hx (by simp [WM.bare])⟩, h.s⟩
theorem TInv.sz {n : Nat} {ls : List Bits} {M : WM} {N : KM} (h : TInv n ls M N) : N.rest.length ≤ 8900 ∧ N.names.length ≤ 8900 ∧ N.seen.length ≤ 8900 := h.g.sz 8900 (by decide)
theorem TInv.lr {n : Nat} {ls : List Bits} {M : WM} {N : KM} (h : TInv n ls M N) : ∀ g ∈ N.rest, g.length ≤ M.width := h.g.kp.lr
def oDesk (CD e de a k : Addr) : Own where
  S := fun H => H e = some (.ins CD de (dfl a k))
  F := [e]
  loc := fun h s => h e List.mem_cons_self _ s
  al := fun s b hb => by
    rw [List.mem_singleton.mp hb]
    exact ⟨_, s, own_ins⟩
end Lw
end

section
/-! walks find all that stay; how many rounds; what a still wire tells -/
namespace Lw
open PySem L2
/-- those that answer a round of a kind -/
def kindL (M : WM) (c : Bool) : List Bits := (M.things.filter fun p => c || p.2).map (·.1)
/-- looked at, or found -/
def KM.Done (w : Nat) (N : KM) (c : Bits) : Prop := (c.length < w → c ∈ N.seen.map (·.1)) ∧ (¬ c.length < w → c ∈ N.names)
def BegS (S : Bits → Prop) (c : Bits) : Prop := c = [] ∨ ∃ x, S x ∧ c <+: x
structure KW (w : Nat) (S : Bits → Prop) (M : WM) (N : KM) : Prop where
  a : ∀ c, BegS S c → N.Done w c ∨ ∃ g ∈ N.pend, g <+: c
  l : ∀ b, N.said = some b → ∀ x, S x → b <+: x → x ∈ M.lis
section
variable {w : Nat} {S U : Bits → Prop} {M : WM} {N : KM}
theorem begS_len (hS : ∀ x, S x → x.length = w) {c : Bits} (h : BegS S c) : c.length ≤ w := by
  rcases h with rfl | ⟨x, hx, hp⟩
  · exact Nat.zero_le _
  · rw [← hS x hx]
    exact hp.length_le
theorem ended_done_ {b : Bits} (hS : ∀ x, S x → x.length = w) (h : ∀ c, BegS S c → N.Done w c ∨ ∃ g ∈ N.rest ++ [b], g <+: c) : ∀ c, BegS S c → (N.ended w b).1.Done w c ∨ ∃ g ∈ (N.ended w b).1.pend, g <+: c := by
  intro c hc
  unfold KM.ended
  by_cases hb : b.length < w
  · rw [if_pos hb]
    rcases h c hc with h | ⟨g, hg, hp⟩
    · exact .inl h
    · exact .inr ⟨g, by rw [pend_said rfl]; exact hg, hp⟩
  · rw [if_neg hb]
    rcases h c hc with h | ⟨g, hg, hp⟩
    · exact .inl ⟨h.1, fun q => List.mem_append_left _ (h.2 q)⟩
    · rcases List.mem_append.mp hg with hg | hg
      · exact .inr ⟨g, by rw [pend_none rfl]; exact hg, hp⟩
      · rw [List.mem_singleton.mp hg] at hp
        have h1 := begS_len hS hc
        have h2 := hp.length_le
        have e : b = c := List.IsPrefix.eq_of_length hp (by omega)
        exact .inl ⟨fun q => by omega, fun _ => by rw [← e]; simp⟩
theorem KW.stepB (h : KW w S M N) (hw : M.width = w) (hs : N.said = none) (hr : N.rest ≠ []) (hl : ∀ x, S x → x.length = w) (hS : ∀ x, S x → x ∈ kindL M N.kind) : KW w S (stepB M N (N.rest.getLastD [])).1 (stepB M N (N.rest.getLastD [])).2.1 := by
  have er : N.rest = N.rest.dropLast ++ [N.rest.getLastD []] := by
    have e := (List.dropLast_concat_getLast hr).symm
    have e2 : N.rest.getLastD [] = N.rest.getLast hr := by rw [List.getLastD_eq_getLast?, List.getLast?_eq_some_getLast hr]; rfl
    rw [e2]
    exact e
  unfold Lw.stepB
  refine ⟨?_, fun b hb x hx hp => ?_⟩
  · rw [hw]
    refine ended_done_ (N := { N with rest := N.rest.dropLast }) hl fun c hc => ?_
    rcases h.a c hc with h | ⟨g, hg, hp⟩
    · exact .inl h
    · exact .inr ⟨g, by rw [pend_none hs, er] at hg; exact hg, hp⟩
  · obtain ⟨rfl, _, _⟩ := ended_said b hb
    exact List.mem_filter.mpr ⟨hS x hx, decide_eq_true hp⟩
theorem KW.stepL {b : Bits} (h : KW w S M N) (hw : M.width = w) (hs : N.said = some b) (hbl : b.length < w) (hl : ∀ x, S x → x.length = w) : KW w S (stepL M N b).1 (stepL M N b).2.1 := by
  have nx : ∀ c, BegS S c → b <+: c → c = b ∨ ∃ t, b ++ [t] <+: c ∧ lookZ M.lis b t = true := by
    intro c hc hp
    obtain ⟨s, rfl⟩ := hp
    cases s with
    | nil => exact .inl (List.append_nil b)
    | cons t s =>
      have hq : b ++ [t] <+: b ++ t :: s := ⟨s, by simp⟩
      rcases hc with hc | ⟨x, hx, hp⟩
      · simp at hc
      · exact .inr ⟨t, hq, lookZ_ex.mpr ⟨x, h.l b hs x hx ((List.prefix_append b _).trans hp), hq.trans hp⟩⟩
  have dn : ∀ c, N.Done w c → ({ N with seen := N.seen ++ [(b, lookZ M.lis b false, lookZ M.lis b true)] } : KM).Done w c := fun c q => ⟨fun z => by rw [List.map_append]; exact List.mem_append_left _ (q.1 z), q.2⟩
  have db : ({ N with seen := N.seen ++ [(b, lookZ M.lis b false, lookZ M.lis b true)] } : KM).Done w b := ⟨fun _ => by simp, fun z => absurd hbl z⟩
  unfold Lw.stepL
  simp only
  by_cases hzo : (!lookZ M.lis b false && !lookZ M.lis b true) = true
  · rw [if_pos hzo]
    refine ⟨fun c hc => ?_, fun d hd => (by cases hd)⟩
    rw [pend_none rfl]
    rcases h.a c hc with q | ⟨g, hg, hp⟩
    · exact .inl (dn c q)
    · rw [pend_said hs] at hg
      rcases List.mem_append.mp hg with hg | hg
      · exact .inr ⟨g, hg, hp⟩
      · rw [List.mem_singleton.mp hg] at hp
        rcases nx c hc hp with rfl | ⟨t, _, ht⟩
        · exact .inl db
        · rw [Bool.and_eq_true] at hzo
          cases t
          · rw [ht] at hzo
            exact absurd hzo.1 (by decide)
          · rw [ht] at hzo
            exact absurd hzo.2 (by decide)
  · rw [if_neg hzo]
    simp only
    refine ⟨?_, fun d hd x hx hp => ?_⟩
    · rw [hw]
      refine ended_done_ hl fun c hc => ?_
      have key : ∀ t, lookZ M.lis b t = true → t = (!lookZ M.lis b false) ∨ (t = true ∧ (lookZ M.lis b false && lookZ M.lis b true) = true) := by
        intro t ht
        cases t with
        | false => rw [ht]; exact .inl rfl
        | true =>
          rw [ht]
          cases lookZ M.lis b false
          · exact .inl rfl
          · exact .inr ⟨rfl, rfl⟩
      by_cases hb2 : (lookZ M.lis b false && lookZ M.lis b true) = true
      · rw [if_pos hb2]
        rcases h.a c hc with q | ⟨g, hg, hp⟩
        · exact .inl (dn c q)
        · rw [pend_said hs] at hg
          rcases List.mem_append.mp hg with hg | hg
          · exact .inr ⟨g, by simp [hg], hp⟩
          · rw [List.mem_singleton.mp hg] at hp
            rcases nx c hc hp with rfl | ⟨t, hq, ht⟩
            · exact .inl db
            · rcases key t ht with rfl | ⟨rfl, _⟩
              · exact .inr ⟨_, by simp, hq⟩
              · exact .inr ⟨_, by simp, hq⟩
      · rw [if_neg hb2]
        rcases h.a c hc with q | ⟨g, hg, hp⟩
        · exact .inl (dn c q)
        · rw [pend_said hs] at hg
          rcases List.mem_append.mp hg with hg | hg
          · exact .inr ⟨g, by simp [hg], hp⟩
          · rw [List.mem_singleton.mp hg] at hp
            rcases nx c hc hp with rfl | ⟨t, hq, ht⟩
            · exact .inl db
            · rcases key t ht with rfl | ⟨rfl, q⟩
              · exact .inr ⟨_, by simp, hq⟩
              · exact absurd q hb2
    · obtain ⟨rfl, _, _⟩ := ended_said d hd
      exact List.mem_filter.mpr ⟨h.l b hs x hx (snoc_pre hp), decide_eq_true hp⟩
theorem KW.kstep (h : KW w S M N) (hp : KP M N) (hw : M.width = w) (ho : N.over = false) (hl : ∀ x, S x → x.length = w) (hS : ∀ x, S x → x ∈ kindL M N.kind) : KW w S (kstep M N).1 (kstep M N).2.1 := by
  cases hs : N.said with
  | none =>
    have hr : N.rest ≠ [] := fun e => by simp [KM.over, hs, e] at ho
    rw [kstep_none hs]
    exact h.stepB hw hs hr hl hS
  | some b =>
    rw [kstep_some hs]
    exact h.stepL hw hs (by rw [← hw]; exact (hp.ls b hs).1) hl
theorem kindL_step (c : Bool) : kindL (Lw.kstep M N).1 c = kindL M c := by unfold kindL; rw [(kstep_width M N).2]
theorem KW.round {j : Nat} {M1 : WM} {N1 : KM} {r : Res} (h : KW w S M N) (hp : KP M N) (hw : M.width = w) (ho : N.over = false) (hl : ∀ x, S x → x.length = w) (hS : ∀ x, S x → x ∈ kindL M N.kind) (t : KRound j M N M1 N1 r) : KW w S M1 N1 := by
  induction t with
  | last h2 => exact h.kstep hp hw ho hl hS
  | more h2 t ih =>
    refine ih (h.kstep hp hw ho hl hS) (hp.step ho) ((kstep_width _ _).1.trans hw) (kstep_gap hp h2).2 fun x hx => ?_
    rw [kindL_step, kstep_kind]
    exact hS x hx
theorem KW.run {j : Nat} {M1 : WM} {N1 : KM} (h : KW w S M N) (hp : KP M N) (hw : M.width = w) (hl : ∀ x, S x → x.length = w) (hS : ∀ x, S x → x ∈ kindL M N.kind) (t : KRun j M N M1 N1) : KW w S M1 N1 := by
  induction t with
  | last _ => exact h
  | more h2 t ih =>
    refine ih (h.kstep hp hw h2 hl hS) (hp.step h2) ((kstep_width _ _).1.trans hw) fun x hx => ?_
    rw [kindL_step, kstep_kind]
    exact hS x hx
theorem KW.new {c : Bool} : KW w S M ⟨c, [[]], none, [], []⟩ := ⟨fun d _ => .inr ⟨[], by simp [KM.pend], List.nil_prefix⟩, fun b hb => (by cases hb)⟩
/-- fewer that stay, others that hang -/
theorem KW.sub {S' : Bits → Prop} {M' : WM} (h : KW w S M N) (hs : ∀ x, S' x → S x) (hl : ∀ x, S' x → x ∈ M.lis → x ∈ M'.lis) : KW w S' M' N := ⟨fun c hc => h.a c (by
  rcases hc with rfl | ⟨x, hx, hp⟩
  · exact .inl rfl
  · exact .inr ⟨x, hs x hx, hp⟩), fun b hb x hx hp => hl x hx (h.l b hb x (hs x hx) hp)⟩
theorem over_pend (ho : N.over = true) : N.pend = [] := by
  unfold KM.over at ho
  rw [Bool.and_eq_true, decide_eq_true_iff, decide_eq_true_iff] at ho
  rw [pend_none ho.1, ho.2]
theorem KW.all (h : KW w S M N) (ho : N.over = true) (hl : ∀ x, S x → x.length = w) : ∀ x, S x → x ∈ N.names := fun x hx => by
  rcases h.a x (.inr ⟨x, hx, List.prefix_refl _⟩) with q | ⟨g, hg, _⟩
  · exact q.2 (by rw [hl x hx]; exact Nat.lt_irrefl _)
  · rw [over_pend ho] at hg
    cases hg
theorem KW.looked (h : KW w S M N) (ho : N.over = true) {c : Bits} (hc : BegS S c) (hw : c.length < w) : c ∈ N.seen.map (·.1) := by
  rcases h.a c hc with q | ⟨g, hg, _⟩
  · exact q.1 hw
  · rw [over_pend ho] at hg
    cases hg
end
/-! ### how many looks, what is found -/
section
variable {M : WM} {N : KM}
theorem kstep_many : (kstep M N).1.many + N.seen.length = M.many + (kstep M N).2.1.seen.length := by
  cases hs : N.said with
  | none =>
    rw [kstep_none hs]
    unfold stepB
    rw [ended_rest.2.1]
    rfl
  | some b =>
    rw [kstep_some hs]
    unfold stepL
    simp only
    split
    · simp [WM.look]
      omega
    · simp only
      rw [ended_rest.2.1]
      split <;> simp [WM.say, WM.look] <;> omega
theorem kround_many {j : Nat} {M1 : WM} {N1 : KM} {r : Res} (t : KRound j M N M1 N1 r) : M1.many + N.seen.length = M.many + N1.seen.length := by
  induction t with
  | last _ => exact kstep_many
  | more _ _ ih =>
    have := kstep_many (M := ‹WM›) (N := ‹KM›)
    rename_i n M M' N N' r h t
    have := kstep_many (M := M) (N := N)
    omega
def resN : Res → List Bits
  | .found x => [x]
  | _ => []
theorem ended_res {N : KM} {w : Nat} {b : Bits} : (N.ended w b).1.names = N.names ++ resN (N.ended w b).2 := by
  unfold KM.ended
  by_cases h : b.length < w
  · rw [if_pos h]
    simp [resN]
  · rw [if_neg h]
    rfl
theorem kstep_names : (kstep M N).2.1.names = N.names ++ resN (kstep M N).2.2 := by
  cases hs : N.said with
  | none =>
    rw [kstep_none hs]
    unfold stepB
    exact ended_res
  | some b =>
    rw [kstep_some hs]
    unfold stepL
    simp only
    split
    · simp [resN]
    · simp only
      rw [ended_res]
      split <;> rfl
theorem kround_names {j : Nat} {M1 : WM} {N1 : KM} {r : Res} (t : KRound j M N M1 N1 r) : N1.names = N.names ++ resN r := by
  induction t with
  | last _ => exact kstep_names
  | more h _ ih =>
    rename_i n M M' N N' r t
    rw [ih, kstep_names, h]
    simp [resN]
end
/-! ### how many rounds -/
/-- where the rounds came to an end -/
structure KD (U : Bits → Prop) (D : List Bits) (N : KM) : Prop where
  d : D.Pairwise Lft
  p : ∀ x ∈ D, ∀ g ∈ N.pend, Lft x g
  u : ∀ x ∈ D, U x
theorem ended_pend {N : KM} {w : Nat} {b g : Bits} (h : g ∈ (N.ended w b).1.pend) : g ∈ N.rest ∨ g = b := by
  unfold KM.ended at h
  by_cases c : b.length < w
  · rw [if_pos c, pend_said rfl] at h
    rcases List.mem_append.mp h with h | h
    · exact .inl h
    · exact .inr (List.mem_singleton.mp h)
  · rw [if_neg c, pend_none rfl] at h
    exact .inl h
theorem ended_found {N : KM} {w : Nat} {b x : Bits} (h : (N.ended w b).2 = .found x) : b = x := by
  unfold KM.ended at h
  by_cases c : b.length < w
  · rw [if_pos c] at h
    cases h
  · rw [if_neg c] at h
    injection h
theorem ended_lost {N : KM} {w : Nat} {b : Bits} (h : (N.ended w b).2 = .lost) : False := by
  unfold KM.ended at h
  by_cases c : b.length < w
  · rw [if_pos c] at h
    cases h
  · rw [if_neg c] at h
    cases h
section
variable {w : Nat} {U : Bits → Prop} {M : WM} {N : KM} {D : List Bits}
/-- what is pending behind a step lies within what was -/
theorem kstep_pend (ho : N.over = false) {g : Bits} (h : g ∈ (kstep M N).2.1.pend) : ∃ b ∈ N.pend, b <+: g := by
  cases hs : N.said with
  | none =>
    have hr : N.rest ≠ [] := fun e => by simp [KM.over, hs, e] at ho
    rw [kstep_none hs] at h
    unfold stepB at h
    rw [pend_none hs]
    rcases ended_pend h with h | h
    · exact ⟨g, (List.dropLast_sublist _).subset h, List.prefix_refl _⟩
    · exact ⟨g, by rw [h]; exact getLastD_mem hr, List.prefix_refl _⟩
  | some b =>
    rw [kstep_some hs] at h
    rw [pend_said hs]
    unfold stepL at h
    simp only at h
    split at h
    · rw [pend_none rfl] at h
      exact ⟨g, List.mem_append_left _ h, List.prefix_refl _⟩
    · rcases ended_pend h with h | h
      · split at h
        · rcases List.mem_append.mp h with h | h
          · exact ⟨g, List.mem_append_left _ h, List.prefix_refl _⟩
          · exact ⟨b, by simp, by rw [List.mem_singleton.mp h]; exact List.prefix_append _ _⟩
        · exact ⟨g, List.mem_append_left _ h, List.prefix_refl _⟩
      · exact ⟨b, by simp, by rw [h]; exact List.prefix_append _ _⟩
theorem kstep_found (ho : N.over = false) {x : Bits} (h : (kstep M N).2.2 = .found x) : ∃ b ∈ N.pend, b <+: x := by
  cases hs : N.said with
  | none =>
    have hr : N.rest ≠ [] := fun e => by simp [KM.over, hs, e] at ho
    rw [kstep_none hs] at h
    unfold stepB at h
    rw [pend_none hs]
    exact ⟨_, getLastD_mem hr, by rw [ended_found h]; exact List.prefix_refl _⟩
  | some b =>
    rw [kstep_some hs] at h
    rw [pend_said hs]
    unfold stepL at h
    simp only at h
    split at h
    · cases h
    · exact ⟨b, by simp, by rw [← ended_found h]; exact List.prefix_append _ _⟩
theorem kstep_lost (ho : N.over = false) (h : (kstep M N).2.2 = .lost) : ∃ b, N.said = some b ∧ (kstep M N).2.1.pend = N.rest := by
  cases hs : N.said with
  | none =>
    rw [kstep_none hs] at h
    unfold stepB at h
    exact (ended_lost h).elim
  | some b =>
    rw [kstep_some hs] at h ⊢
    unfold stepL at h ⊢
    simp only at h ⊢
    split at h
    · rename_i c
      rw [if_pos c]
      exact ⟨b, rfl, pend_none rfl⟩
    · exact (ended_lost h).elim
theorem KD.kstep (h : KD U D N) (ho : N.over = false) (ki : KI w U N) (ki2 : KI w U (kstep M N).2.1) : ∃ D', KD U D' (Lw.kstep M N).2.1 ∧ D'.length = D.length + (if (Lw.kstep M N).2.2 = .none then 0 else 1) := by
  have hp : ∀ x ∈ D, ∀ g ∈ (Lw.kstep M N).2.1.pend, Lft x g := fun x hx g hg => by
    obtain ⟨b, hb, hp⟩ := kstep_pend ho hg
    exact (h.p x hx b hb).pre hp
  cases hr : (Lw.kstep M N).2.2 with
  | none => exact ⟨D, ⟨h.d, hp, h.u⟩, by simp⟩
  | found x =>
    have hx : x ∈ (Lw.kstep M N).2.1.names := by
      rw [kstep_names, hr]
      simp [resN]
    refine ⟨D ++ [x], ⟨List.pairwise_append.mpr ⟨h.d, by simp, fun y hy z hz => ?_⟩, fun y hy g hg => ?_, fun y hy => ?_⟩, by simp⟩
    · rw [List.mem_singleton.mp hz]
      obtain ⟨b, hb, hp⟩ := kstep_found ho hr
      exact (h.p y hy b hb).pre hp
    · rcases List.mem_append.mp hy with hy | hy
      · exact hp y hy g hg
      · rw [List.mem_singleton.mp hy]
        exact ki2.nn x hx g hg
    · rcases List.mem_append.mp hy with hy | hy
      · exact h.u y hy
      · rw [List.mem_singleton.mp hy]
        exact (ki2.pn x hx).2
  | lost =>
    obtain ⟨b, hb, hpd⟩ := kstep_lost ho hr
    have ord := ki.ord
    rw [pend_said hb] at ord
    refine ⟨D ++ [b], ⟨List.pairwise_append.mpr ⟨h.d, by simp, fun y hy z hz => ?_⟩, fun y hy g hg => ?_, fun y hy => ?_⟩, by simp⟩
    · rw [List.mem_singleton.mp hz]
      exact h.p y hy b (by rw [pend_said hb]; simp)
    · rcases List.mem_append.mp hy with hy | hy
      · exact hp y hy g hg
      · rw [List.mem_singleton.mp hy]
        rw [hpd] at hg
        exact (List.pairwise_append.mp ord).2.2 g hg b (by simp)
    · rcases List.mem_append.mp hy with hy | hy
      · exact h.u y hy
      · rw [List.mem_singleton.mp hy]
        exact (ki.ps b hb).2
theorem KD.new {c : Bool} : KD U [] ⟨c, [[]], none, [], []⟩ := ⟨List.Pairwise.nil, fun x hx => absurd hx (by simp), fun x hx => absurd hx (by simp)⟩
end
def Apt (a b : Bits) : Prop := Lft a b ∨ Lft b a
theorem cones_le : ∀ (L ls : List Bits), L.Pairwise Apt → (∀ b ∈ L, ∃ x ∈ ls, b <+: x) → L.length ≤ ls.length
  | [], _, _, _ => Nat.zero_le _
  | a :: L, ls, h, hs => by
    obtain ⟨h1, h2⟩ := List.pairwise_cons.mp h
    obtain ⟨x, hx, hp⟩ := hs a List.mem_cons_self
    have := cones_le L (ls.erase x) h2 fun b hb => by
      obtain ⟨y, hy, hq⟩ := hs b (List.mem_cons_of_mem _ hb)
      refine ⟨y, (List.mem_erase_of_ne fun e => ?_).mpr hy, hq⟩
      subst e
      rcases List.prefix_or_prefix_of_prefix hp hq with q | q
      · rcases h1 b hb with z | z
        · exact z.np q
        · exact z.np2 q
      · rcases h1 b hb with z | z
        · exact z.np2 q
        · exact z.np q
    have e := List.length_erase_of_mem hx
    have hp : 0 < ls.length := List.length_pos_of_mem hx
    rw [List.length_cons]
    omega
theorem lft_nil {b : Bits} : ¬ Apt [] b := by
  rintro (h | h)
  · exact h.np List.nil_prefix
  · exact h.np2 List.nil_prefix
theorem apt_symm {a b : Bits} (h : Apt a b) : Apt b a := h.symm
theorem no_nil {L : List Bits} (h : L.Pairwise Apt) (h2 : 2 ≤ L.length) : ([] : Bits) ∉ L := by
  intro hm
  match L, h, h2, hm with
  | a :: b :: t, h, _, hm =>
    rcases List.mem_cons.mp hm with e | hm
    · rw [← e] at h
      exact lft_nil ((List.pairwise_cons.mp h).1 b List.mem_cons_self)
    · exact lft_nil (apt_symm ((List.pairwise_cons.mp h).1 [] hm))
theorem KD.le {w : Nat} {U : Bits → Prop} {N : KM} {D ls : List Bits} (h : KD U D N) (ki : KI w U N) (hU : ∀ b, U b → Beg ls b) : D.length + N.pend.length ≤ max 1 ls.length := by
  have hL : (D ++ N.pend).Pairwise Apt := List.pairwise_append.mpr ⟨h.d.imp fun z => .inl z, ki.ord.imp fun z => .inr z, fun a ha b hb => .inl (h.p a ha b hb)⟩
  have hB : ∀ b ∈ D ++ N.pend, Beg ls b := fun b hb => by
    rcases List.mem_append.mp hb with hb | hb
    · exact hU b (h.u b hb)
    · unfold KM.pend at hb
      rcases List.mem_append.mp hb with hb | hb
      · exact hU b (ki.pr b hb).2
      · cases hs : N.said with
        | none => rw [hs] at hb; cases hb
        | some c =>
          rw [hs] at hb
          rw [show b = c by simpa using hb]
          exact hU c (ki.ps c hs).2
  by_cases h2 : 2 ≤ (D ++ N.pend).length
  · have nn := no_nil hL h2
    have := cones_le (D ++ N.pend) ls hL fun b hb => by
      rcases hB b hb with rfl | z
      · exact absurd hb nn
      · exact z
    rw [List.length_append] at this
    omega
  · rw [List.length_append] at h2
    omega
theorem KI.mono {w : Nat} {U U' : Bits → Prop} {N : KM} (h : KI w U N) (hu : ∀ b, U b → U' b) : KI w U' N := ⟨fun g hg => ⟨(h.pr g hg).1, hu _ (h.pr g hg).2⟩, fun b hb => ⟨(h.ps b hb).1, hu _ (h.ps b hb).2⟩, fun e he => ⟨(h.pe e he).1, hu _ (h.pe e he).2⟩, fun x hx => ⟨(h.pn x hx).1, hu _ (h.pn x hx).2⟩, h.ord, h.sn, h.sd, h.nn, h.nr, h.rs⟩
theorem KD.mono {U U' : Bits → Prop} {D : List Bits} {N : KM} (h : KD U D N) (hu : ∀ b, U b → U' b) : KD U' D N := ⟨h.d, h.p, fun x hx => hu x (h.u x hx)⟩
theorem KW.between {w : Nat} {S S' : Bits → Prop} {M M' : WM} {N : KM} (h : KW w S M N) (hs : N.said = none) (hu : ∀ x, S' x → S x) : KW w S' M' N := ⟨fun c hc => h.a c (by
  rcases hc with rfl | ⟨x, hx, hp⟩
  · exact .inl rfl
  · exact .inr ⟨x, hu x hx, hp⟩), fun b hb => by rw [hs] at hb; cases hb⟩
theorem kind_keys {M : WM} {c : Bool} {x : Bits} (h : x ∈ kindL M c) : x ∈ M.keys := (begin_sub M c).subset h
theorem w_eqDb {K : PySem.W.Frag} {H : Hp} {Q : VK} {x y : V} {d e : PyData} {b : Bool} (h1 : Dp K H x d) (h2 : Dp K H y e) (s1 : SeqAt.shaped d = true) (s2 : SeqAt.shaped e = true) (hb : PyData.eqv d e = b) (k : Q (.bl b) H) : rEqD K x y H Q := by
  subst hb
  exact w_eqD h1 h2 s1 s2 k
theorem w_neDb {K : PySem.W.Frag} {H : Hp} {Q : VK} {x y : V} {d e : PyData} {b : Bool} (h1 : Dp K H x d) (h2 : Dp K H y e) (s1 : SeqAt.shaped d = true) (s2 : SeqAt.shaped e = true) (hb : PyData.eqv d e = b) (k : Q (.bl (!b)) H) : rNeD K x y H Q := by
  subst hb
  exact w_neD h1 h2 s1 s2 k
end Lw
end

section
/-! what a walk tells of a wire on which nothing changes -/
namespace Lw
open PySem L2
/-- a walk of a kind on a still wire; L: those that answer -/
structure KS (L : List Bits) (c : Bool) (M : WM) (N : KM) : Prop where
  ki : KI M.width (Beg L) N
  kp : KP M N
  kd : N.kind = c
  kl : kindL M c = L
  ll : N.said ≠ none → ∀ x ∈ M.lis, x ∈ L
  ok : WOk M
  kw : KW M.width (· ∈ L) M N
section
variable {L : List Bits} {c : Bool} {M : WM} {N : KM}
theorem KS.len (h : KS L c M N) : ∀ x ∈ L, x.length = M.width := fun x hx => by
  rw [← h.kl] at hx
  exact h.ok.len x (kind_keys hx)
theorem KS.kstep (h : KS L c M N) (ho : N.over = false) : KS L c (kstep M N).1 (kstep M N).2.1 where
  ki := by
    rw [(kstep_width M N).1]
    cases hs : N.said with
    | none =>
      have hr : N.rest ≠ [] := fun e => by simp [KM.over, hs, e] at ho
      rw [kstep_none hs]
      exact h.ki.stepB rfl hs hr
    | some b =>
      rw [kstep_some hs]
      refine h.ki.stepL rfl hs fun t ht => ?_
      obtain ⟨l, hl, hp⟩ := lookZ_ex.mp ht
      exact .inr ⟨l, h.ll (by rw [hs]; exact fun q => nomatch q) l hl, hp⟩
  kp := h.kp.step ho
  kd := (kstep_kind M N).trans h.kd
  kl := by rw [kindL_step]; exact h.kl
  ll := fun hn x hx => by
    cases hs : N.said with
    | none =>
      rw [kstep_none hs] at hx
      have := (List.mem_filter.mp hx).1
      rw [← h.kl, ← h.kd]
      exact this
    | some b =>
      rw [kstep_some hs] at hx
      unfold stepL at hx
      simp only at hx
      have q := h.ll (by rw [hs]; exact fun q => nomatch q)
      split at hx
      · exact q x hx
      · exact q x (List.mem_filter.mp hx).1
  ok := kstep_ok h.ok h.kp ho
  kw := by
    rw [(kstep_width M N).1]
    exact h.kw.kstep h.kp rfl ho h.len fun x hx => by rw [h.kd, h.kl]; exact hx
theorem KS.round {j : Nat} {M1 : WM} {N1 : KM} {r : Res} (h : KS L c M N) (ho : N.over = false) (t : KRound j M N M1 N1 r) : KS L c M1 N1 := by
  induction t with
  | last h2 => exact h.kstep ho
  | more h2 t ih => exact ih (h.kstep ho) (kstep_gap h.kp h2).2
theorem KS.run {j : Nat} {M1 : WM} {N1 : KM} (h : KS L c M N) (t : KRun j M N M1 N1) : KS L c M1 N1 := by
  induction t with
  | last _ => exact h
  | more h2 t ih => exact ih (h.kstep h2)
theorem KS.new (ok : WOk M) : KS (kindL M c) c M ⟨c, [[]], none, [], []⟩ where
  ki := ⟨fun g hg => by rw [List.mem_singleton.mp hg]; exact ⟨Nat.zero_le _, .inl rfl⟩, fun b hb => (by cases hb), fun e he => absurd he (by simp), fun x hx => absurd hx (by simp), by simp [KM.pend], fun e he => absurd he (by simp), by simp, fun x hx => absurd hx (by simp), List.Pairwise.nil, by simp⟩
  kp := ⟨fun b hb => (by cases hb), fun g hg => by rw [List.mem_singleton.mp hg]; exact Nat.zero_le _⟩
  kd := rfl
  kl := rfl
  ll := fun h => absurd rfl h
  ok := ok
  kw := KW.new
/-- where it has nowhere to go -/
structure Still (L : List Bits) (M M1 : WM) (N1 : KM) : Prop where
  nr : Rise N1.names
  nm : ∀ x, x ∈ N1.names ↔ x ∈ L
  th : M1.things = M.things
  wd : M1.width = M.width
  mn : M1.many = M.many + N1.seen.length
  sd : (N1.seen.map (·.1)).Nodup
  sm : ∀ b, b ∈ N1.seen.map (·.1) ↔ Beg L b ∧ b.length < M.width
  ok : WOk M1
  ov : N1.over = true
  sz : N1.names.length ≤ 41 ∧ N1.seen.length ≤ 441
theorem KS.names (h : KS L c M N) : ∀ x ∈ N.names, x ∈ L := fun x hx => by
  obtain ⟨h1, h2⟩ := h.ki.pn x hx
  rcases h2 with rfl | ⟨y, hy, hp⟩
  · have := h.ok.w1
    have h1 : 0 = M.width := h1
    omega
  · have e := List.IsPrefix.eq_of_length hp (by rw [h1, h.len y hy])
    rw [e]
    exact hy
theorem KS.still {j : Nat} {M1 : WM} {N1 : KM} (h : KS L c M1 N1) (ho : N1.over = true) (hz : L.length ≤ 40) (th : M1.things = M.things) (wd : M1.width = M.width) (mn : M1.many = M.many + N1.seen.length) : Still L M M1 N1 := by
  have nm : ∀ x, x ∈ N1.names ↔ x ∈ L := fun x => ⟨h.names x, h.kw.all ho h.len x⟩
  have sm : ∀ b, b ∈ N1.seen.map (·.1) ↔ Beg L b ∧ b.length < M.width := fun b => by
    constructor
    · intro hb
      obtain ⟨e, he, rfl⟩ := List.mem_map.mp hb
      obtain ⟨a1, a2⟩ := h.ki.pe e he
      exact ⟨a2, by rw [← wd]; exact a1⟩
    · rintro ⟨a1, a2⟩
      exact h.kw.looked ho a1 (by rw [wd]; exact a2)
  refine ⟨h.ki.nr, nm, th, wd, mn, h.ki.sd, sm, h.ok, ho, ?_, ?_⟩
  · exact Nat.le_trans (nodup_le _ L (rise_nodup h.ki.nr) fun x hx => (nm x).mp hx) (by omega)
  · have h1 := nodup_le (N1.seen.map (·.1)) (begs M.width L) h.ki.sd fun b hb => by
      obtain ⟨a1, a2⟩ := (sm b).mp hb
      exact beg_mem a1 a2
    rw [List.length_map, begs_len] at h1
    have h2 : L.length * (M.width - 1) ≤ 40 * 11 := Nat.mul_le_mul hz (by have := h.ok.w2; omega)
    omega
end
theorem Still.sorted {L ms : List Bits} {M M1 : WM} {N1 : KM} (h : Still L M M1 N1) (hr : Rise ms) (hp : ms.Perm L) : N1.names = ms := rise_ext h.nr hr fun x => by rw [h.nm x, hp.mem_iff]
/-! a keeper -/
def kpf (a kp : Addr) : List (Str × V) := [("bus", .ref a), ("kept", .ref kp)]
structure ClP (K : PySem.W.Frag) (CP : Addr) : Prop where
  cl : Cls K CP
  n_bus : NoAttr K CP "bus"
  n_kept : NoAttr K CP "kept"
section
variable {K : PySem.W.Frag} {CP e de a kp : Addr} {H : Hp} {Q : VK}
end
def oKeep (CP e de a kp : Addr) (ks : List Bits) : Own where
  S := fun H => H e = some (.ins CP de (kpf a kp)) ∧ H kp = some (.lst (bvs ks))
  F := [e, kp]
  loc := fun h s => ⟨h e (by simp) _ s.1, h kp (by simp) _ s.2⟩
  al := fun s b hb => by
    simp only [List.mem_cons, List.not_mem_nil, or_false] at hb
    rcases hb with rfl | rfl
    · exact ⟨_, s.1, own_ins⟩
    · exact ⟨_, s.2, own_bvs _⟩
/-! dicts whose values are all True -/
theorem liK_new {ks : List Bits} {u : Bits} (h : u ∉ ks) : aput (liK ks) u true = liK (ks ++ [u]) := by
  rw [aput_new (by rw [liK_keys]; exact h)]
  simp [liK]
theorem liK_old {ks : List Bits} {u : Bits} (h : u ∈ ks) : aput (liK ks) u true = liK ks := by
  unfold aput
  rw [if_pos (by rw [liK_keys]; exact h)]
  unfold liK
  rw [List.map_map]
  apply List.map_congr_left
  intro x _
  simp only [Function.comp]
  split <;> rfl
theorem liK_len (ks : List Bits) : (liK ks).length = ks.length := by simp [liK]
def oSet (p : Addr) (ks : List Bits) : Own where
  S := fun H => H p = some (.dK (tK V.bl (liK ks)))
  F := [p]
  loc := fun h s => h p List.mem_cons_self _ s
  al := fun s b hb => by
    rw [List.mem_singleton.mp hb]
    exact ⟨_, s, own_dK⟩
theorem Beg.mono {ls ls' : List Bits} (h : ∀ x ∈ ls, x ∈ ls') {b : Bits} (hb : Beg ls b) : Beg ls' b := by
  rcases hb with rfl | ⟨x, hx, hp⟩
  · exact .inl rfl
  · exact .inr ⟨x, h x hx, hp⟩
theorem GInv.grow {n : Nat} {ls ls' : List Bits} {M : WM} {N : KM} (g : GInv n ls M N) (h : ∀ x ∈ ls, x ∈ ls') (l40 : ls'.length ≤ 40) (hl : ∀ x ∈ ls', x.length = n) : GInv n ls' M N :=
  ⟨g.hw, g.n12, l40, hl, g.ok, g.ki.mono fun b hb => hb.mono h, g.kp, fun x hx => h x (g.kl x hx), fun x hx => h x (g.ll x hx)⟩
theorem over_iff {N : KM} : N.over = true ↔ N.said = none ∧ N.rest = [] := by
  unfold KM.over
  rw [Bool.and_eq_true, decide_eq_true_iff, decide_eq_true_iff]
/-! d.get(k, x) -/
def GetK (a : Addr) (y z : V) (H : Hp) (Q : VK) : Prop := ∃ o, DGet H a y o ∧ Q (o.getD z) H
def GetD (ty tx : TE) (σ : St) (x : V) (H : Hp) (Q : VK) : Prop := ∃ a, x = .ref a ∧ IsD H a ∧ ty σ H fun y H2 => tx σ H2 fun z H3 => GetK a y z H3 Q
/-- those that a walk may come upon, of a kind -/
structure KU (n : Nat) (Ev : List Bits) (M : WM) (N : KM) : Prop where
  ki : KI n (Beg Ev) N
  ll : N.said ≠ none → ∀ x ∈ M.lis, x ∈ Ev
  rg : ∀ x ∈ kindL M N.kind, x ∈ Ev
theorem KU.kstep {n : Nat} {Ev : List Bits} {M : WM} {N : KM} (h : KU n Ev M N) (hw : M.width = n) (ho : N.over = false) : KU n Ev (kstep M N).1 (kstep M N).2.1 where
  ki := by
    cases hs : N.said with
    | none =>
      have hr : N.rest ≠ [] := fun e => by simp [KM.over, hs, e] at ho
      rw [kstep_none hs]
      exact h.ki.stepB hw hs hr
    | some b =>
      rw [kstep_some hs]
      refine h.ki.stepL hw hs fun t ht => ?_
      obtain ⟨l, hl, hp⟩ := lookZ_ex.mp ht
      exact .inr ⟨l, h.ll (by rw [hs]; exact fun q => nomatch q) l hl, hp⟩
  ll := fun hn x hx => by
    cases hs : N.said with
    | none =>
      rw [kstep_none hs] at hx
      exact h.rg x (List.mem_filter.mp hx).1
    | some b =>
      rw [kstep_some hs] at hx
      unfold stepL at hx
      simp only at hx
      have q := h.ll (by rw [hs]; exact fun q => nomatch q)
      split at hx
      · exact q x hx
      · exact q x (List.mem_filter.mp hx).1
  rg := fun x hx => by
    rw [kindL_step, kstep_kind] at hx
    exact h.rg x hx
theorem KU.new {n : Nat} {c : Bool} {Ev : List Bits} {M : WM} (h : ∀ x ∈ kindL M c, x ∈ Ev) : KU n Ev M ⟨c, [[]], none, [], []⟩ :=
  ⟨⟨fun g hg => by rw [List.mem_singleton.mp hg]; exact ⟨Nat.zero_le _, .inl rfl⟩, fun b hb => (by cases hb), fun e he => absurd he (by simp), fun x hx => absurd hx (by simp), by simp [KM.pend], fun e he => absurd he (by simp), by simp, fun x hx => absurd hx (by simp), List.Pairwise.nil, by simp⟩, fun h => absurd rfl h, h⟩
theorem KU.names {n : Nat} {Ev : List Bits} {M : WM} {N : KM} (h : KU n Ev M N) (hn : 1 ≤ n) (hl : ∀ x ∈ Ev, x.length = n) : ∀ x ∈ N.names, x ∈ Ev := fun x hx => by
  obtain ⟨h1, h2⟩ := h.ki.pn x hx
  rcases h2 with rfl | ⟨y, hy, hp⟩
  · have h1 : 0 = n := h1
    omega
  · have e := List.IsPrefix.eq_of_length hp (by rw [h1, hl y hy])
    rw [e]
    exact hy
end Lw
end

section
/-! texts: sorted, any number of them; sets of them -/
namespace Lu
open PySem PySem.Spec PyProof.Rows L2 Lw
abbrev tx (v : Value) : Str := PyProof.Rows.strOf v
def ltT (v u : Value) : Bool := decide ((tx v).cps.toList < (tx u).cps.toList)
theorem swoT : SrtO.Swo ltT where
  asym := fun x y h => decide_eq_false fun b => List.lt_irrefl _ (List.lt_trans (of_decide_eq_true h) b)
  tr := fun x y z h1 h2 => decide_eq_false fun c => by
    have a := of_decide_eq_false h1
    have b := of_decide_eq_false h2
    by_cases q : (tx z).cps.toList < (tx y).cps.toList
    · exact b q
    · exact a (List.lt_of_le_of_lt (List.not_lt.mp q) c)
section
variable {prog : Program} {w : World} {A : Around} {E : Value → Shared → Prop} {s : Shared}
theorem t_cmp {vs : List Value} {ss : List Str} (hI : StrsAre vs ss) : SrtO.Cmp prog w A s oneType' (fun p => p.1 ∈ vs) (SrtO.lt2 ltT) := fun p q hm hn => by
  obtain ⟨a, t, e⟩ := hI.all _ hm
  obtain ⟨b, u, f⟩ := hI.all _ hn
  show wpAny (model prog w) A (keyLt' oneType' p.1 q.1) (fun r z => z = s ∧ r = ltT p.1 q.1) (fun _ _ => False) s
  rw [e, f, keyLt'_oneType]
  exact oneLt_str ⟨rfl, rfl⟩
theorem t_able {a : Addr} {vs : List Value} {ss : List Str} (hI : StrsAre vs ss) (h2 : 2 ≤ vs.length) : SrtO.SortableO prog w A s a vs ltT := fun h' _ => by
  refine ⟨oneType', fun Q E hq => ?_, t_cmp hI⟩
  cases vs with
  | nil => exact absurd h2 (by simp)
  | cons v vs =>
    cases vs with
    | nil => exact absurd h2 (by simp)
    | cons u vs =>
      rw [keyKind_strs hI]
      exact wpAny_pure hq
theorem t_out {vs out : List Value} {ss : List Str} (hI : StrsAre vs ss) (hs : SrtO.Srtd ltT out) (hb : SrtO.Stb ltT out vs) : StrsAre out (out.map tx) ∧ (out.map tx).Perm ss ∧ sortedS (out.map tx) = true := by
  refine ⟨strsAre_map _ fun v hv => hI.all v (hb.perm.mem_iff.mp hv), ?_, sortedS_of_pairwise _ (List.pairwise_map.mpr (hs.imp fun {x y} h => ?_))⟩
  · have q := hb.perm.map tx
    rwa [hI.strs] at q
  · rw [ltCps_eq]
    exact h
end
/-! ### sorted of a list, of a dict's keys -/
def rSortT (K : PySem.W.Frag) : List V → Hp → VK → Prop := fun vs H Q => ∃ (a : Addr) (xs : List Str), vs = [V.ref a] ∧ SqL K H a (xs.map V.str) ∧ ∀ (ys : List Str) (p : Addr), ys.Perm xs → sortedS ys = true → H p = none → Q (.ref p) (upd H p (.lst (ys.map V.str)))
def rSortDT : List V → Hp → VK → Prop := fun vs H Q => ∃ (a : Addr) (kvs : List (Key × V)) (ks : List Str), vs = [.ref a] ∧ Rd H a (.dK kvs) ∧ kvs.map (·.1) = ks.map Sum.inr ∧ ks.length ≤ 100000 ∧ ∀ ys p, ys.Perm ks → sortedS ys = true → H p = none → Q (.ref p) (upd H p (.lst (ys.map V.str)))
theorem line_le {n : Nat} (h : n ≤ 100000) : n ≤ sizeLine := Nat.le_trans h (by decide)
section
variable {X : Cx}
theorem cr_sortDT (hc : X.calm = true) : CallR X (.builtin "sorted") rSortDT := by
  intro pins s σ H vs us Q I r h
  obtain ⟨a, kvs, ks, rfl, hd, hk, hz, q⟩ := h
  rw [Vals.ref1 r]
  obtain ⟨z, lo, ps, rel, dd⟩ := dk_rd I.hok hd
  obtain ⟨ep, hat⟩ := dd.dictAt
  have hkeys : ps.map (·.1) = ks.map Sum.inr := rel.keys.symm.trans hk
  have hl : ps.length = ks.length := by simpa using congrArg List.length hkeys
  refine Calls.call_function_entry PyProof.Rows.kind_sorted PyProof.Rows.plain_sorted PyProof.Rows.entry_sorted (PyProof.Rows.args_sorted1 _) ?_
  unfold Builtin.«sorted»
  refine wpAny_bind (m := checkCount "sorted" 1 1 _) (wpAny_pure ?_)
  refine wpAny_bind (PySem.W.kdu_collect (A := X.A.in1) (PySem.W.kdl_dict (knd := mixKind X.prog X.w) (kvs := ps) (ep := ep) lo) (I.ok.hd hc) hat (by rw [hl]; exact line_le hz) fun h' tk acc hkeep hacc => ?_)
  have hal : acc.toList.length = ks.length := by rw [Array.length_toList, hacc.1, hl]
  have hS : StrsAre acc.toList ks := strs_at hal fun j v e => by
    obtain ⟨k, x, e1, e2⟩ := hacc.2 j v (by rw [← Array.getElem?_toList]; exact e)
    have e3 : (ps.map (·.1))[j]? = some k := by rw [List.getElem?_map, e1]; rfl
    rw [hkeys, List.getElem?_map] at e3
    cases e4 : ks[j]? with
    | none => rw [e4] at e3; cases e3
    | some y =>
      rw [e4] at e3
      have e5 : Sum.inr y = k := Option.some.inj e3
      subst e5
      obtain ⟨t, ev⟩ := Value.isStrOf_shape (x := y) (v := v) e2
      exact ⟨y, t, rfl, ev⟩
  have I1 : Inv X pins σ H { s with heap := h', toks := tk } := I.kept hkeep
  have hzl : acc.toList.length ≤ sizeLine := by rw [hal]; exact line_le hz
  refine wpAny_bind (wpAny_newList ?_ hzl)
  have hoL : (h'.push (seqObj "list" acc.toList.toArray 0)).get? h'.objs.size = some (seqObj "list" acc.toList.toArray 0) := Heap.get?_push_size _ rfl
  show wpAny _ _ _ _ _ { s with heap := h'.push (seqObj "list" acc.toList.toArray 0), toks := tk }
  refine wpAny_bind (wpAny_holding (wpAny_call_entry PyProof.Rows.slot_list_sort ⟨_, hoL, rfl⟩ PyProof.Rows.entry_list_sort
    (SrtO.list_sort_ord swoT hoL hzl (fun h2 => t_able hS h2) fun out g1 g2 => ⟨_, rfl, ?_⟩) (PyProof.Rows.args_list_sort _)))
  obtain ⟨k1, k2, k3⟩ := t_out hS g1 g2
  obtain ⟨e', he'⟩ := PyProof.Rows.sortedHeap_at (vs := acc.toList) (out := out.toArray) hoL
  have hlen : ((out.map tx).map V.str).length ≤ sizeLine := by rw [List.length_map, k2.length_eq]; exact line_le hz
  refine wpAny_pure ⟨_, rfl, .ref h'.objs.size, upd H h'.objs.size (.lst ((out.map tx).map V.str)), I1.laid (t' := tk) (fun b u e => ?_) (Nat.le_refl _) ⟨hlen, out, e', vals_of_strs k1, he'⟩, rfl, q _ _ k2 k3 (I1.hok.fresh (Nat.le_refl _))⟩
  have hb : b < h'.objs.size := Heap.lt_size e
  rw [PyProof.Rows.sortedHeap_old (Nat.ne_of_lt hb) (by rw [size_push']; exact Nat.lt_succ_of_lt hb)]
  exact Heap.get?_push_of_some _ e
end
/-! ### sets of texts -/
/-- the set of the texts xs at a; it can be walked -/
def TSet (w : World) (h : Heap) (a : Addr) (xs : List Str) : Prop :=
  ∃ o es ep t, h.get? a = some o ∧ o.ExactSet ∧ o.data = .set es ep t ∧ (∀ e ∈ es.toList, ∃ x k, e.2 = Value.str x k ∧ e.1 = hashStr w x) ∧ (es.toList.map fun e => tx e.2).Perm xs ∧ xs.Nodup ∧
    es.size < scanBound ∧ t.fits es.size = true ∧ Ris t.place.toList ∧ (w.params.followText "set-order" = true ∨ t.led = true)
theorem TSet.at {w : World} {h h' : Heap} {a : Addr} {xs : List Str} (R : TSet w h a xs) (k : ∀ o, h.get? a = some o → h'.get? a = some o) : TSet w h' a xs := by
  obtain ⟨o, es, ep, t, ho, r⟩ := R
  exact ⟨o, es, ep, t, k o ho, r⟩
def SetS (w : World) (a : Addr) (xs : List Str) : HO := .ext fun h => TSet w h a xs
theorem sets_new {w : World} {P : Program} {H : Hp} {h : Heap} {a : Addr} {xs : List Str} (R : TSet w h a xs) : ObjOk P w H h a (SetS w a xs) := by
  have ⟨o, _, _, _, ho, _⟩ := R
  exact ⟨R, ⟨o, ho⟩, fun h1 h2 p k => TSet.at p k⟩
theorem sets_get {X : Cx} {pins : List (Addr × Obj)} {σ : L2.St} {H : Hp} {s : Shared} {a : Addr} {xs : List Str} (I : Inv X pins σ H s) (ha : H a = some (SetS X.w a xs)) : TSet X.w s.heap a xs := (I.hok a _ ha).1
/-- a set's object, nothing in it -/
abbrev noneIn (w : World) : Obj := { cls := .type "set", dict := none, data := .set #[] 0 (.fresh 0 0 (!w.params.followText "set-order")) }
theorem tset_new {w : World} {h : Heap} {a : Addr} (ho : h.get? a = some (noneIn w)) : TSet w h a [] :=
  ⟨_, #[], 0, _, ho, ⟨rfl, rfl, rfl⟩, rfl, (fun e he => by simp at he), (by simp), List.nodup_nil, (by decide), (by rfl), List.Pairwise.nil, by
    show _ ∨ (!w.params.followText "set-order") = true
    cases w.params.followText "set-order" <;> simp⟩
section
variable {P : Program} {w : World} {A : Around} {E : Value → Shared → Prop} {s : Shared} {a : Addr} {xs : List Str}
theorem t_elems {l : List (Int × Value)} (g : ∀ e ∈ l, ∃ x k, e.2 = Value.str x k ∧ e.1 = hashStr w x) : ElemsOf (PySem.strKind P w) l := fun e he => by
  obtain ⟨x, k, e1, e2⟩ := g e he
  exact ⟨⟨x, by rw [e1]; exact strKind_is P w x k, e2⟩, by rw [e1]; rfl⟩
theorem t_mem {l : List (Int × Value)} (g : ∀ e ∈ l, ∃ x k, e.2 = Value.str x k ∧ e.1 = hashStr w x) (x : Str) : x ∈ l.map (fun e => tx e.2) ↔ ∃ e ∈ l, (PySem.strKind P w).is x e.2 = true := by
  rw [List.mem_map]
  constructor
  · rintro ⟨e, he, q⟩
    obtain ⟨y, k, e1, _⟩ := g e he
    rw [e1] at q
    have q : y = x := q
    exact ⟨e, he, by rw [e1, q]; exact strKind_is P w x k⟩
  · rintro ⟨e, he, q⟩
    obtain ⟨t, e2⟩ := Value.isStrOf_shape (x := x) (v := e.2) q
    exact ⟨e, he, by rw [e2]; rfl⟩
/-- the entries are stored, and laid anew where the table is too full -/
theorem tset_store {g : Bool → Sem Unit} (hg : ∀ (b : Bool) (s₁ : Shared) (Q' : Unit → Shared → Prop), Q' () s₁ → wpAny (model P w) A (g b) Q' E s₁)
    {o : Obj} {es : Array (Int × Value)} {ep : Nat} {t : SetTable} (ho : s.heap.get? a = some o) (hex : o.ExactSet) (hd : o.data = .set es ep t) {es1 : Array (Int × Value)} {t2 : SetTable}
    (g1 : ∀ e ∈ es1.toList, ∃ x k, e.2 = Value.str x k ∧ e.1 = hashStr w x) (m1 : (es1.toList.map fun e => tx e.2).Perm xs) (nd : xs.Nodup) (hb1 : es1.size < scanBound) (hf2 : t2.fits es1.size = true) (hr : Ris t2.place.toList)
    (hl : w.params.followText "set-order" = true ∨ t2.led = true) {wasDummy : Bool} {R : Option Bool → Shared → Prop} (hR : ∀ h', Heap.SameBut a s.heap h' → TSet w h' a xs → R (some true) { s with heap := h' }) :
    wpAny (model P w) A (do
        storeSet a es1 t2
        if (!wasDummy && t2.tooFull) = true then do
            g (relayAll t2 es1 (SetTable.grown es1.size)).2.2
            storeSet a (relayAll t2 es1 (SetTable.grown es1.size)).1 (relayAll t2 es1 (SetTable.grown es1.size)).2.1
            pure (some true)
          else pure (some true)) R E s := by
  refine wpAny_bind (wpAny_storeSet_of ho hd ?_ (fits_of_scanBound hb1))
  have ho1 := store_at (es' := es1) (t' := t2) ho hd
  have sb1 := Heap.SameBut.update s.heap a (Obj.putSet es1 t2)
  split
  · have pm := relayAll_perm t2 es1 (SetTable.grown es1.size)
    have hf3 := relayAll_fits t2 es1 (SetTable.grown es1.size)
    have hr3 := relayAll_ris t2 es1 (SetTable.grown es1.size)
    have hl3 := relayAll_led t2 es1 (SetTable.grown es1.size)
    generalize relayAll t2 es1 (SetTable.grown es1.size) = Z at pm hf3 hr3 hl3 ⊢
    obtain ⟨es2, t3, gave⟩ := Z
    dsimp only at pm hf3 hr3 hl3 ⊢
    have hb2 : es2.size < scanBound := by
      have : es2.size = es1.size := by simpa using pm.length_eq
      omega
    refine wpAny_bind (hg _ _ _ ?_)
    refine wpAny_bind (wpAny_storeSet_of ho1 rfl ?_ (fits_of_scanBound hb2))
    have ho2 := store_at (es' := es2) (t' := t3) ho1 rfl
    exact wpAny_pure (hR _ (sb1.trans (Heap.SameBut.update _ a _)) ⟨_, es2, _, t3, ho2, hex, rfl, fun e he => g1 e (pm.mem_iff.mp he), (pm.map _).trans m1, nd, hb2, hf3, hr3, hl.imp id fun z => by rw [hl3]; exact z⟩)
  · exact wpAny_pure (hR _ sb1 ⟨_, es1, _, t2, ho1, hex, rfl, g1, m1, nd, hb1, hf2, hr, hl⟩)
theorem tset_add {x : Str} {k : Tok} {Q : Bool → Shared → Prop} (R : TSet w s.heap a xs) (room : xs.length + 1 < scanBound)
    (hQ : ∀ h' ys, Heap.SameBut a s.heap h' → TSet w h' a ys → (∀ z, z ∈ ys ↔ z ∈ xs ∨ z = x) → ys.length ≤ xs.length + 1 → ∀ b, Q b { s with heap := h' }) :
    wpAny (model P w) A (setAddHashed a (.str x k) ((PySem.strKind P w).hash x)) Q E s := by
  obtain ⟨o, es, ep, t, ho, hex, hd, g, pm0, nd, hb, hf, hr, hl⟩ := R
  have hkey : (PySem.strKind P w).is x (.str x k) = true := strKind_is P w x k
  have hsc : (Value.str x k).scannable = true := rfl
  have hel : ElemsOf (PySem.strKind P w) es.toList := t_elems g
  unfold setAddHashed setAddHashedIn
  refine wpAny_holding (wpAny_bind (wpAny_setState_of ho hd hf ?_))
  dsimp only
  rw [byScan_of hsc hb hel]
  simp only [↓reduceIte]
  unfold setAddByScan
  refine wpAny_bind ?_
  refine wpAny_bind (wpAny_rule ?_)
  refine wpAny_bind (wpAny_setScan_of hkey ho hd hf hel ?_)
  cases hfi : List.findIdx? (fun e => (PySem.strKind P w).is x e.2) es.toList with
  | some j =>
    dsimp only
    obtain ⟨hj, pj, _⟩ := List.findIdx?_eq_some_iff_getElem.mp hfi
    have hx : x ∈ xs := pm0.mem_iff.mp ((t_mem (P := P) (w := w) g x).mpr ⟨es.toList[j], List.getElem_mem hj, pj⟩)
    refine wpAny_pure (wpAny_pure ?_)
    exact hQ s.heap xs (Heap.SameBut.refl a s.heap) ⟨o, es, ep, t, ho, hex, hd, g, pm0, nd, hb, hf, hr, hl⟩ (fun z => ⟨.inl, fun h => h.elim id fun e => e ▸ hx⟩) (Nat.le_succ _) _
  | none =>
    dsimp only
    have hnx : x ∉ xs := fun z => by
      obtain ⟨e, he, q⟩ := (t_mem (P := P) (w := w) g x).mp (pm0.mem_iff.mpr z)
      have c := List.findIdx?_eq_none_iff.mp hfi e he
      rw [q] at c
      cases c
    have hgw : ∀ (b : Bool) (s₁ : Shared) (Q' : Unit → Shared → Prop), Q' () s₁ → wpAny (model P w) A (match b with | true => rule "set.scan.the-table-gave-way" | false => pure ()) Q' E s₁ :=
      fun b s₁ Q' q => by cases b <;> first | exact wpAny_pure q | exact wpAny_rule q
    have pm := layNew_perm t es ((PySem.strKind P w).hash x) (.str x k)
    have hf1 := layNew_fits t es ((PySem.strKind P w).hash x) (.str x k)
    have hr1 := layNew_ris t es ((PySem.strKind P w).hash x) (.str x k) hr
    have hl1 := layNew_led t es ((PySem.strKind P w).hash x) (.str x k)
    generalize layNew t es ((PySem.strKind P w).hash x) (.str x k) = Z at pm hf1 hr1 hl1 ⊢
    obtain ⟨es1, t1, wasDummy, gave⟩ := Z
    dsimp only at pm hf1 hr1 hl1 ⊢
    rw [Array.toList_push] at pm
    have pc : es1.toList.Perm (((PySem.strKind P w).hash x, Value.str x k) :: es.toList) := pm.trans (List.perm_append_singleton _ _)
    have m1 : (es1.toList.map fun e => tx e.2).Perm (x :: xs) := (pc.map fun e : Int × Value => tx e.2).trans (show ((((PySem.strKind P w).hash x, Value.str x k) :: es.toList).map fun e : Int × Value => tx e.2).Perm (x :: xs) from pm0.cons x)
    have g1 : ∀ e ∈ es1.toList, ∃ x k, e.2 = Value.str x k ∧ e.1 = hashStr w x := fun e he => by
      rcases List.mem_cons.mp (pc.mem_iff.mp he) with z | z
      · rw [z]; exact ⟨x, k, rfl, rfl⟩
      · exact g e z
    have nd1 : (x :: xs).Nodup := List.nodup_cons.mpr ⟨hnx, nd⟩
    have hb1 : es1.size < scanBound := by
      have h1 := m1.length_eq
      rw [List.length_map, Array.length_toList, List.length_cons] at h1
      omega
    have hled : w.params.followText "set-order" = true ∨ t1.led = true := hl.imp id fun z => by rw [hl1]; exact z
    have fin : ∀ h', Heap.SameBut a s.heap h' → TSet w h' a (x :: xs) → ∀ b, Q b { s with heap := h' } := fun h' sb r => hQ h' (x :: xs) sb r (fun z => by rw [List.mem_cons]; exact Or.comm) (Nat.le_refl _)
    refine wpAny_bind (hgw _ _ _ ?_)
    split
    · refine wpAny_bind ?_
      rw [hashByValue_scannable 8 hsc]
      refine wpAny_pure ?_
      refine tset_store hgw ho hex hd g1 m1 nd1 hb1 ?_ ?_ ?_ ?_
      · first | (split <;> first | exact hf1 | exact SetTable.fits_plain_off hf1) | exact hf1 | exact SetTable.fits_plain_off hf1
      · first | (split <;> exact hr1) | exact hr1
      · first | (split <;> exact hled) | exact hled
      · intro h' sb r; dsimp only; exact wpAny_pure (fin h' sb r _)
    · refine wpAny_bind (wpAny_pure ?_)
      simp only [↓reduceIte]
      refine tset_store hgw ho hex hd g1 m1 nd1 hb1 hf1 hr1 hled ?_
      · intro h' sb r; dsimp only; exact wpAny_pure (fin h' sb r _)
/-- the loop that fills a set -/
theorem tset_fill {I : Addr} {fp wr : List Addr} {G : Array GenState → Array GenState → Prop} {n : Nat} {Pv : Nat → Value → Prop} {St : Nat → Shared → Prop} {R : Result → Shared → Prop}
    (W : WalksS P w A.in1 I fp wr G n Pv St) (S : Addr) (hSf : S ∉ fp) (ys : List Str) (hn : n = ys.length) (hb : ys.length + 1 < scanBound) (hval : ∀ i v, Pv i v → ∃ x k, ys[i]? = some x ∧ v = .str x k) :
    ∀ (d i : Nat) (s : Shared), n - i = d → i ≤ n → St i s → (∃ xs, xs.length ≤ i ∧ (∀ z, z ∈ xs ↔ z ∈ ys.take i) ∧ TSet w s.heap S xs) →
      (∀ s' xs, Moved (S :: wr) G s s' → (∀ z, z ∈ xs ↔ z ∈ ys) → TSet w s'.heap S xs → R (.ok (.ret .none)) s') →
      codeAny (model P w) A (.builtin "set.update.loop" ⟨[.ref S, .ref I], []⟩) R s := by
  have hSw : S ∉ wr := fun h => hSf (W.sub _ h)
  have hsub : ∀ b ∈ wr, b ∈ S :: wr := fun b hb => List.mem_cons_of_mem _ hb
  intro d
  induction d with
  | zero =>
    intro i s hd hi hst ⟨xs, hc, hm, hS⟩ hR
    have e : i = n := by omega
    subst e
    refine codeAny_builtin PyProof.Rows.F.entry_set_update_loop ?_
    rw [Around.under_plainId PyProof.Rows.F.plain_set_update_loop _]
    show wpAny _ A.in1 (pyNext (.ref I) >>= _) _ _ s
    refine wpAny_bind (W.done s _ _ hst fun s' mv => ?_)
    show wpAny _ A.in1 (ret Value.none) _ _ s'
    exact wpAny_pure (hR s' xs (mv.mono hsub) (fun z => by rw [hm z, List.take_of_length_le (by omega)]) (hS.at fun o e => mv.heap S o hSw e))
  | succ d ih =>
    intro i s hd hi hst ⟨xs, hc, hm, hS⟩ hR
    have hlt : i < n := by omega
    refine codeAny_builtin PyProof.Rows.F.entry_set_update_loop ?_
    rw [Around.under_plainId PyProof.Rows.F.plain_set_update_loop _]
    show wpAny _ A.in1 (pyNext (.ref I) >>= _) _ _ s
    refine wpAny_bind (W.item i s _ _ hlt hst fun v s' hP hst' mv => ?_)
    obtain ⟨z, t, hz, rfl⟩ := hval i v hP
    have hS1 : TSet w s'.heap S xs := hS.at fun o e => mv.heap S o hSw e
    show wpAny _ A.in1 (holding [Value.str z t] (setAdd S (.str z t)) >>= _) _ _ s'
    refine wpAny_bind (wpAny_holding ?_)
    unfold setAdd
    refine wpAny_holding ?_
    refine wpAny_bind ((PySem.strKind P w).pyHash (k := z) (strKind_is _ _ _ _) ?_)
    refine tset_add (s := { s' with toks := s'.toks + 1 }) hS1 (by omega) fun h' zs hsb hS2 hm2 hc2 b => ?_
    refine wpAny_pure ⟨plainId_quiet PyProof.Rows.F.plain_set_update_loop _, ih (i + 1) _ (by omega) hlt (W.frame _ s' _ _ hst' (Nat.le_succ _) fun b hb o e => ?_) ⟨zs, by omega, fun y => ?_, hS2⟩ fun s'' us mv2 hm3 hS3 => ?_⟩
    · rw [hsb.2 b (fun h : b = S => hSf (by rw [← h]; exact hb))]; exact e
    · rw [hm2 y, hm y, List.take_add_one, hz]
      simp [List.mem_append]
    · refine hR s'' us (Moved.trans W.gtrans ((mv.mono hsub).then_heap (Nat.le_succ _) fun b o hb e => ?_) mv2) hm3 hS3
      rw [hsb.2 b (fun h : b = S => hb (by rw [h]; exact List.mem_cons_self))]; exact e
set_option maxHeartbeats 8000000 in
theorem call_setT {l : Addr} {items : Array Value} (ys : List Str) {Q : Value → Shared → Prop} (hh : A.handled = none) (hl : s.heap.IsList l items) (hit : StrsAre items.toList ys) (hb : ys.length + 1 < scanBound)
    (h : ∀ (h' : Heap) (tk : Nat) (xs : List Str), TSet w h' s.heap.objs.size xs → (∀ z, z ∈ xs ↔ z ∈ ys) → (∀ b o, s.heap.get? b = some o → h'.get? b = some o) → Q (.ref s.heap.objs.size) { s with heap := h', toks := tk }) :
    wpAny (model P w) A (call (.type "set") [.ref l]) Q E s := by
  have hisz : items.size = ys.length := by
    have q := StrsAre.len_eq hit
    rwa [Array.length_toList] at q
  obtain ⟨c, tl, hmro⟩ := PySem.F.called_set.mro
  have hmade := PySem.F.called_set.made
  have hsub := PySem.F.called_set.sub
  refine wpAny_call (codeAny_of_tree ?_)
  show wpAny _ _ (callAny (.type "set") _) _ _ _
  refine wpAny_pure ⟨Code.quiet_builtin _ (by decide +kernel), codeAny_builtin PySem.F.entry_type_call ?_⟩
  rw [Around.under_plain (weight_type_call_type "set" [.ref l] []) rfl]
  have h1 := PySem.F.called_set.notType
  have h2 := PySem.F.called_set.canCreate
  have hct := PySem.F.typeCall_set_1 (.ref l)
  repeat (any_goals (first | assumption | wp_step))
  refine codeAny_mono (code_set_led1 (.ref l) (E := E) (Q₁ := fun obj s₁ => obj = .ref s.heap.objs.size ∧ s₁ = { s with heap := s.heap.push (noneIn w) }) ⟨rfl, rfl⟩) fun r s₁ hr => ?_
  cases r with
  | error e => exact hr
  | ok fl =>
    cases fl with
    | ret obj =>
      obtain ⟨rfl, rfl⟩ := hr
      have hS : (s.heap.push (noneIn w)).get? s.heap.objs.size = some (noneIn w) := Heap.get?_push_size _ rfl
      have hT : Shared.TypeIs { s with heap := s.heap.push (noneIn w) } (.ref s.heap.objs.size) "set" := ⟨_, hS, rfl⟩
      have hli := PySem.F.called_set.init.lookup
      have hbi := PySem.F.called_set.init.bind (.ref s.heap.objs.size)
      repeat (any_goals (first | assumption | wp_step))
      refine codeAny_mono (codeAny_call_builtin (R := wants (fun r s₂ => r = .none ∧ ∃ h' tk xs, s₂ = { s with heap := h', toks := tk } ∧ TSet w h' s.heap.objs.size xs ∧ (∀ z, z ∈ xs ↔ z ∈ ys) ∧
          (∀ b o, s.heap.get? b = some o → h'.get? b = some o)) E) PySem.F.called_set.init.plain PySem.F.entry_set_init (check_set_init_1 hT ?_)) fun r₂ s₂ hr₂ => ?_
      · obtain ⟨⟨ocls, odict, odata, oslots⟩, hol, hcl, nl, hdl⟩ := hl
        simp only at hcl hdl
        subst hcl; subst hdl
        have hol' : (s.heap.push (noneIn w)).get? l = some { cls := .type "list", dict := odict, data := .seq items nl, slots := oslots } := Heap.get?_push_of_some _ hol
        have hsls := PySem.F.sub_list_set
        have hslf := PySem.F.sub_list_frozenset
        have hne : (Value.type "list" == Value.type "dict") = false := by decide
        have hl1 : (s.heap.push (noneIn w)).IsList l items := ⟨_, hol', rfl, nl, rfl⟩
        unfold Builtin.«set.__init__» noKeywords Builtin.Frozenset.updateFrom
        generalize hPI : pyIter = PI
        wp_walk
        subst hPI
        refine wpAny_pyIter_list hl1 ?_
        refine wpAny_bind (wpAny_runValue ?_)
        have hlS : l < s.heap.objs.size := Heap.lt_size hol
        have hh3 : A.in1.in1.in1.handled = none := by simp [hh]
        have hz1 : (s.heap.push (noneIn w)).objs.size = s.heap.objs.size + 1 := Heap.size_push ..
        have hneI : l ≠ (s.heap.push (noneIn w)).objs.size := by rw [hz1]; exact Nat.ne_of_lt (Nat.lt_succ_of_lt hlS)
        have hSf : s.heap.objs.size ∉ [(s.heap.push (noneIn w)).objs.size, l] := by
          rw [hz1]
          simp only [List.mem_cons, List.not_mem_nil, or_false, not_or]
          exact ⟨Nat.ne_of_lt (Nat.lt_succ_self _), Nat.ne_of_gt hlS⟩
        have hval : ∀ (i : Nat) (v : Value), items[i]? = some v → ∃ x k, ys[i]? = some x ∧ v = .str x k := fun i v hv => by
          obtain ⟨y, t, e1, e2⟩ := hit.item i v (by rw [Array.getElem?_toList]; exact hv)
          exact ⟨y, t, e2, e1⟩
        refine tset_fill ((Walks.list hh3 _ l hneI items).toS) s.heap.objs.size hSf ys hisz hb hval (items.size - 0) 0 _ (by omega) (Nat.zero_le _) ⟨⟨_, Heap.get?_push_size _ rfl, rfl, rfl⟩, (hl1.push _)⟩ ?hS0 ?hR
        case hS0 =>
          refine ⟨[], Nat.zero_le _, fun z => by simp, tset_new ?_⟩
          exact Heap.get?_push_of_some _ hS
        case hR =>
          intro s' xs hm hmem hS'
          obtain ⟨h', g2, d', tk', os'⟩ := s'
          have eg : g2 = s.gens := hm.gens
          have ed : d' = s.drawn := hm.drawn
          have eo : os' = s.os := hm.os
          subst eg; subst ed; subst eo
          show wpAny _ _ _ _ _ _
          refine wpAny_pure ?_
          show wpAny _ _ (ret Value.none) _ _ _
          refine wpAny_pure ⟨rfl, h', tk', xs, rfl, hS', hmem, fun b o e => ?_⟩
          have hb0 : b < s.heap.objs.size := Heap.lt_size e
          refine hm.heap b o ?_ (Heap.get?_push_of_some _ (Heap.get?_push_of_some _ e))
          rw [hz1]
          simp only [List.mem_cons, List.not_mem_nil, or_false, not_or]
          exact ⟨Nat.ne_of_lt hb0, Nat.ne_of_lt (Nat.lt_succ_of_lt hb0)⟩
      · cases r₂ with
        | error e => exact hr₂
        | ok fl₂ =>
          cases fl₂ with
          | ret r =>
            obtain ⟨rfl, h', tk, xs, rfl, hS', hmem, hk'⟩ := hr₂
            repeat (any_goals (first | assumption | wp_step))
            exact h _ _ _ hS' hmem hk'
          | _ => exact hr₂.elim
    | _ => exact hr.elim
end
def rSetT (K : PySem.W.Frag) (w : World) : List V → Hp → VK → Prop := fun vs H Q => ∃ (a : Addr) (ys : List Str), vs = [V.ref a] ∧ SqL K H a (ys.map V.str) ∧ ys.length ≤ 4000 ∧
  ∀ (xs : List Str) (p : Addr), xs.Nodup → (∀ z, z ∈ xs ↔ z ∈ ys) → H p = none → Q (.ref p) (upd H p (SetS w p xs))
def rSortSetT (w : World) : List V → Hp → VK → Prop := fun vs H Q => ∃ (a : Addr) (xs : List Str), vs = [V.ref a] ∧ H a = some (SetS w a xs) ∧
  ∀ (ys : List Str) (p : Addr), ys.Perm xs → sortedS ys = true → H p = none → Q (.ref p) (upd H p (.lst (ys.map V.str)))
def rLenSetT (w : World) : List V → Hp → VK → Prop := fun vs H Q => ∃ (a : Addr) (xs : List Str), vs = [V.ref a] ∧ H a = some (SetS w a xs) ∧ Q (.int (xs.length : Int)) H
section
variable {X : Cx}
theorem cr_setT (hc : X.calm = true) : CallR X (.type "set") (rSetT X.K X.w) := by
  intro pins s σ H vs us Q I r h
  obtain ⟨a, ys, rfl, hs, hz, q⟩ := h
  obtain ⟨its, rv, pl, _⟩ := I.list hs
  rw [Vals.ref1 r]
  refine call_setT ys (I.ok.hd hc) pl.isList (by simpa using strsAre_of rv) (Nat.lt_of_le_of_lt (Nat.succ_le_succ hz) (by decide)) fun h' tk xs hS hm hk => ?_
  have nd : xs.Nodup := by
    obtain ⟨_, _, _, _, _, _, _, _, _, nd, _⟩ := hS
    exact nd
  exact ⟨.ref s.heap.objs.size, upd H s.heap.objs.size (SetS X.w s.heap.objs.size xs), I.laid (t' := tk) hk (Nat.le_refl _) (sets_new hS), rfl, q xs _ nd hm (I.hok.fresh (Nat.le_refl _))⟩
theorem cr_sortSetT (hc : X.calm = true) : CallR X (.builtin "sorted") (rSortSetT X.w) := by
  intro pins s σ H vs us Q I r h
  obtain ⟨a, xs, rfl, ha, q⟩ := h
  obtain ⟨o, es, ep, t, ho, hex, hd, g, pm, nd, hb, hf, hr, hl⟩ := sets_get I ha
  rw [Vals.ref1 r]
  refine Calls.call_function_entry PyProof.Rows.kind_sorted PyProof.Rows.plain_sorted PyProof.Rows.entry_sorted (PyProof.Rows.args_sorted1 _) ?_
  unfold Builtin.«sorted»
  refine wpAny_bind (m := checkCount "sorted" 1 1 _) (wpAny_pure ?_)
  refine wpAny_bind (collect_set (A := X.A.in1) (I.ok.hd hc) ⟨o, ho, hex.1, hd⟩ hf hb hr hl fun s1 vs k1 hz g1 o1 pv => ?_)
  have hI : StrsAre vs (vs.map tx) := strsAre_map _ fun v hv => by
    obtain ⟨e, he, e1⟩ := List.mem_map.mp (pv.mem_iff.mp hv)
    obtain ⟨x, k, e2, _⟩ := g e he
    exact ⟨x, k, by rw [← e1]; exact e2⟩
  have pk : (vs.map tx).Perm xs := by
    have p2 := pv.map tx
    rw [List.map_map] at p2
    exact p2.trans pm
  have hvl : vs.length ≤ sizeLine := by
    rw [pv.length_eq, List.length_map, Array.length_toList]
    exact fits_of_scanBound hb
  refine wpAny_bind (wpAny_newList ?_ hvl)
  have hoL : (s1.heap.push (seqObj "list" vs.toArray 0)).get? s1.heap.objs.size = some (seqObj "list" vs.toArray 0) := Heap.get?_push_size _ rfl
  refine wpAny_bind (wpAny_holding (wpAny_call_entry PyProof.Rows.slot_list_sort ⟨_, hoL, rfl⟩ PyProof.Rows.entry_list_sort
    (SrtO.list_sort_ord swoT hoL hvl (fun h2 => t_able hI h2) fun out c1 c2 => ⟨_, rfl, ?_⟩) (PyProof.Rows.args_list_sort _)))
  obtain ⟨j1, j2, j3⟩ := t_out hI c1 c2
  obtain ⟨e', he'⟩ := PyProof.Rows.sortedHeap_at (vs := vs) (out := out.toArray) hoL
  have hn : H s1.heap.objs.size = none := I.hok.fresh hz
  have hlen : ((out.map tx).map V.str).length ≤ sizeLine := by
    rw [List.length_map, (j2.trans pk).length_eq, ← pm.length_eq, List.length_map, Array.length_toList]
    exact fits_of_scanBound hb
  have keep : ∀ b u, s.heap.get? b = some u → (sortedHeap (s1.heap.push (seqObj "list" vs.toArray 0)) s1.heap.objs.size vs out.toArray).get? b = some u := fun b u e => by
    have e1 := k1 b u e
    have hlt := Heap.lt_size e1
    rw [sortedHeap_old (Nat.ne_of_lt hlt) (by rw [size_push']; exact Nat.lt_succ_of_lt hlt)]
    exact Heap.get?_push_of_some _ e1
  refine wpAny_pure ⟨_, rfl, .ref s1.heap.objs.size, upd H s1.heap.objs.size (.lst ((out.map tx).map V.str)), ?_, rfl, q _ _ (j2.trans pk) j3 hn⟩
  exact I.call' (ch := []) o1 (Un.laid keep hz hn) (I.hok.laid keep hz ⟨hlen, out, e', vals_of_strs j1, he'⟩) (by rw [show _ = s.gens from g1]; exact I.bare) (fun _ z => nomatch z)
end
/-! ### the same, told of texts of signs 0 and 1 -/
section
variable {X : Cx} {K : PySem.W.Frag} {w : World} {H : Hp} {Q : VK}
theorem cSetT (h : X.K = K) (hw : X.w = w) (hc : X.calm = true) : CallR X (.type "set") (rSetT K w) := by
  subst h hw
  exact cr_setT hc
theorem cSortSetT (hw : X.w = w) (hc : X.calm = true) : CallR X (.builtin "sorted") (rSortSetT w) := by
  subst hw
  exact cr_sortSetT hc
/-- rising, not strictly -/
def RiseE (ls : List (List Bool)) : Prop := ls.Pairwise fun a b => blt b a = false
theorem w_setT {a : Addr} {ls : List (List Bool)} (h : SqL K H a (bvs ls)) (hz : ls.length ≤ 4000) (k : ∀ (ms : List (List Bool)) (p : Addr) (H' : Hp), ms.Nodup → (∀ z, z ∈ ms ↔ z ∈ ls) → H p = none → Ext H H' → H' p = some (SetS w p (ms.map B)) → Q (.ref p) H') : rSetT K w [.ref a] H Q := by
  refine ⟨a, ls.map B, rfl, by rw [← bvs_strs]; exact h, by rw [List.length_map]; exact hz, fun xs p nd hm hn => ?_⟩
  have hx : ∀ x ∈ xs, ∃ l, x = B l := fun x hx => by
    obtain ⟨l, _, e⟩ := List.mem_map.mp ((hm x).mp hx)
    exact ⟨l, e.symm⟩
  obtain ⟨ms, rfl⟩ : ∃ ms : List (List Bool), xs = ms.map B := by
    clear nd hm
    induction xs with
    | nil => exact ⟨[], rfl⟩
    | cons x xs ih =>
      obtain ⟨l, rfl⟩ := hx x List.mem_cons_self
      obtain ⟨ms, rfl⟩ := ih fun y hy => hx y (List.mem_cons_of_mem _ hy)
      exact ⟨l :: ms, rfl⟩
  refine k ms p _ (List.Pairwise.of_map B (fun a b h e => h (by rw [e])) nd) (fun z => ?_) hn (Ext.new hn) upd_same
  have := hm (B z)
  rw [List.mem_map, List.mem_map] at this
  constructor
  · intro hz
    obtain ⟨y, hy, e⟩ := this.mp ⟨z, hz, rfl⟩
    rw [← B_inj e]
    exact hy
  · intro hz
    obtain ⟨y, hy, e⟩ := this.mpr ⟨z, hz, rfl⟩
    rw [← B_inj e]
    exact hy
theorem w_sortSetT {a : Addr} {ms : List (List Bool)} (h : H a = some (SetS w a (ms.map B))) (nd : ms.Nodup) (k : ∀ (us : List (List Bool)) (p : Addr) (H' : Hp), us.Perm ms → Rise us → H p = none → Ext H H' → H' p = some (.lst (bvs us)) → Q (.ref p) H') : rSortSetT w [.ref a] H Q := by
  refine ⟨a, ms.map B, rfl, h, fun ys p hp hs hn => ?_⟩
  obtain ⟨us, rfl, hm⟩ := perm_B hp
  exact k us p _ hm (rise_of hs (hm.nodup_iff.mpr nd)) hn (Ext.new hn) (by rw [upd_same, bvs_strs])
end
end Lu
end

section
/-! sorted keys of a dict, any number; what rounds tell of a still wire -/
namespace Lw
open PySem L2
theorem cSortDT {X : Cx} (hc : X.calm = true) : CallR X (.builtin "sorted") Lu.rSortDT := Lu.cr_sortDT hc
theorem w_sortDT {H : Hp} {Q : VK} {α : Type} {g : α → V} {ts : List (Bits × α)} {d : Addr} (h : Rd H d (.dK (tK g ts))) (hn : ts.length ≤ 100000) (nd : (ts.map (·.1)).Nodup)
    (k : ∀ ms p H', ms.Perm (ts.map (·.1)) → Rise ms → H p = none → Ext H H' → H' p = some (.lst (bvs ms)) → Q (.ref p) H') : Lu.rSortDT [.ref d] H Q := by
  refine ⟨d, _, (ts.map (·.1)).map B, rfl, h, tK_keys, by simp; exact hn, fun ys p hp hs hn => ?_⟩
  obtain ⟨ms, rfl, hm⟩ := perm_B hp
  exact k ms p _ hm (rise_of hs (hm.nodup_iff.mpr nd)) hn (Ext.new hn) (by rw [upd_same, bvs_strs])
/-- one more True in a dict of these -/
theorem liK_put (ks : List Bits) (u : Bits) : ∃ ks2, aput (liK ks) u true = liK ks2 ∧ (∀ b, b ∈ ks2 ↔ b ∈ ks ∨ b = u) ∧ (ks.Nodup → ks2.Nodup) ∧ ks2.length ≤ ks.length + 1 := by
  by_cases h : u ∈ ks
  · exact ⟨ks, liK_old h, fun b => ⟨.inl, fun q => q.elim id fun e => e ▸ h⟩, id, Nat.le_succ _⟩
  · refine ⟨ks ++ [u], liK_new h, fun b => by simp, fun nd => List.nodup_append.mpr ⟨nd, by simp, fun x hx y hy e => ?_⟩, by simp⟩
    rw [List.mem_singleton.mp hy] at e
    exact h (e ▸ hx)
/-! ### rounds on a still wire -/
theorem low_seg : ∀ {ds ns : List Bits}, Rise ds → Rise ns → (∀ x ∈ ns, x ∈ ds) → (∀ y ∈ ds, y ∈ ns ∨ ∀ x ∈ ns, blt x y = true) → ns = ds.take ns.length
  | ds, [], _, _, _, _ => by simp
  | [], n :: ns, _, _, h, _ => absurd (h n List.mem_cons_self) (by simp)
  | d :: ds, n :: ns, hd, hn, hs, hl => by
    obtain ⟨d1, d2⟩ := List.pairwise_cons.mp hd
    obtain ⟨n1, n2⟩ := List.pairwise_cons.mp hn
    have e : d = n := by
      rcases List.mem_cons.mp (hs n List.mem_cons_self) with h | h
      · exact h.symm
      · have h1 := d1 n h
        rcases hl d List.mem_cons_self with q | q
        · rcases List.mem_cons.mp q with q | q
          · exact q
          · have := n1 d q
            rw [blt_asymm h1] at this
            cases this
        · have := q n List.mem_cons_self
          rw [blt_asymm h1] at this
          cases this
    subst e
    rw [List.length_cons, List.take_succ_cons]
    congr 1
    have ndd := (List.nodup_cons.mp (rise_nodup hd)).1
    have ndn := (List.nodup_cons.mp (rise_nodup hn)).1
    refine low_seg d2 n2 (fun x hx => ?_) fun y hy => ?_
    · rcases List.mem_cons.mp (hs x (List.mem_cons_of_mem _ hx)) with h | h
      · exact absurd (h ▸ hx) ndn
      · exact h
    · rcases hl y (List.mem_cons_of_mem _ hy) with q | q
      · rcases List.mem_cons.mp q with q | q
        · exact absurd (q ▸ hy) ndd
        · exact .inl q
      · exact .inr fun x hx => q x (List.mem_cons_of_mem _ hx)
section
variable {L : List Bits} {c : Bool} {M : WM} {N : KM}
/-- what was found so far of those that answer, rising -/
theorem KS.seg {due : List Bits} (h : KS L c M N) (hd : Rise due) (hp : due.Perm L) : N.names = due.take N.names.length := by
  refine low_seg hd h.ki.nr (fun x hx => hp.mem_iff.mpr (h.names x hx)) fun y hy => ?_
  have hyL := hp.mem_iff.mp hy
  rcases h.kw.a y (.inr ⟨y, hyL, List.prefix_refl _⟩) with q | ⟨g, hg, hp⟩
  · exact .inl (q.2 (by rw [h.len y hyL]; exact Nat.lt_irrefl _))
  · exact .inr fun x hx => ((h.ki.nn x hx g hg).pre hp).blt
/-- somebody answers at all that is pending -/
def Ans (L : List Bits) (N : KM) : Prop := ∀ g ∈ N.pend, ∃ x ∈ L, g <+: x
theorem Ans.kstep (h : KS L c M N) (ho : N.over = false) (a : Ans L N) : Ans L (kstep M N).2.1 ∧ (kstep M N).2.2 ≠ .lost := by
  cases hs : N.said with
  | none =>
    have hr : N.rest ≠ [] := fun e => by simp [KM.over, hs, e] at ho
    refine ⟨fun g hg => ?_, fun hl => ?_⟩
    · rw [kstep_none hs] at hg
      unfold stepB at hg
      rcases ended_pend hg with hg | hg
      · exact a g (by rw [pend_none hs]; exact (List.dropLast_sublist _).subset hg)
      · exact a g (by rw [pend_none hs, hg]; exact getLastD_mem hr)
    · rw [kstep_none hs] at hl
      unfold stepB at hl
      exact ended_lost hl
  | some b =>
    obtain ⟨x, hx, hbx⟩ := a b (by rw [pend_said hs]; simp)
    have hbl := (h.ki.ps b hs).1
    have hxl := h.len x hx
    have hlis := h.kw.l b hs x hx hbx
    obtain ⟨t, ht⟩ : ∃ t, lookZ M.lis b t = true := by
      obtain ⟨s, rfl⟩ := hbx
      cases s with
      | nil => simp at hxl; omega
      | cons t s => exact ⟨t, lookZ_ex.mpr ⟨_, hlis, ⟨s, by simp⟩⟩⟩
    have hin : ∀ t, lookZ M.lis b t = true → ∃ x ∈ L, b ++ [t] <+: x := fun t ht => by
      obtain ⟨l, hl, hp⟩ := lookZ_ex.mp ht
      exact ⟨l, h.ll (by rw [hs]; exact fun q => nomatch q) l hl, hp⟩
    have hzo : ¬ (!lookZ M.lis b false && !lookZ M.lis b true) = true := fun q => by
      rw [Bool.and_eq_true] at q
      cases t
      · rw [ht] at q; exact absurd q.1 (by decide)
      · rw [ht] at q; exact absurd q.2 (by decide)
    have hc : lookZ M.lis b (!lookZ M.lis b false) = true := by
      cases e : lookZ M.lis b false with
      | true => exact e
      | false =>
        cases t
        · rw [e] at ht; cases ht
        · exact ht
    refine ⟨fun g hg => ?_, fun hl => ?_⟩
    · rw [kstep_some hs] at hg
      unfold stepL at hg
      simp only at hg
      rw [if_neg hzo] at hg
      rcases ended_pend hg with hg | hg
      · split at hg
        · rename_i hb2
          rcases List.mem_append.mp hg with hg | hg
          · exact a g (by rw [pend_said hs]; exact List.mem_append_left _ hg)
          · rw [List.mem_singleton.mp hg]
            exact hin true (Bool.and_eq_true_iff.mp hb2).2
        · exact a g (by rw [pend_said hs]; exact List.mem_append_left _ hg)
      · rw [hg]
        exact hin _ hc
    · rw [kstep_some hs] at hl
      unfold stepL at hl
      simp only at hl
      rw [if_neg hzo] at hl
      exact ended_lost hl
theorem Ans.round {j : Nat} {M1 : WM} {N1 : KM} {r : Res} (h : KS L c M N) (ho : N.over = false) (a : Ans L N) (t : KRound j M N M1 N1 r) : Ans L N1 ∧ r ≠ .lost := by
  induction t with
  | last h2 => exact Ans.kstep h ho a
  | more h2 t ih => exact ih (h.kstep ho) (kstep_gap h.kp h2).2 (Ans.kstep h ho a).1
theorem Ans.new {c : Bool} (h : L ≠ []) : Ans L ⟨c, [[]], none, [], []⟩ := fun g hg => by
  have hg : g = [] := by simpa [KM.pend] using hg
  obtain ⟨x, l, e⟩ := List.exists_cons_of_ne_nil h
  exact ⟨x, by rw [e]; exact List.mem_cons_self, by rw [hg]; exact List.nil_prefix⟩
theorem KD.sround {j : Nat} {D : List Bits} {M1 : WM} {N1 : KM} {r : Res} (d : KD (Beg L) D N) (h : KS L c M N) (ho : N.over = false) (t : KRound j M N M1 N1 r) : ∃ D', KD (Beg L) D' N1 ∧ D'.length = D.length + 1 := by
  induction t generalizing D with
  | last h2 =>
    rename_i M N
    have k2 := (h.kstep ho).ki
    rw [(kstep_width M N).1] at k2
    obtain ⟨D', a, b⟩ := d.kstep ho h.ki k2
    rw [if_neg h2] at b
    exact ⟨D', a, b⟩
  | more h2 t ih =>
    rename_i n M M' N N' r
    have k2 := (h.kstep ho).ki
    rw [(kstep_width M N).1] at k2
    obtain ⟨D', a, b⟩ := d.kstep ho h.ki k2
    rw [if_pos h2] at b
    obtain ⟨D2, e1, e2⟩ := ih a (h.kstep ho) (kstep_gap h.kp h2).2
    exact ⟨D2, e1, by omega⟩
end
/-- between two rounds of a walk on a still wire: m0 looks ahead of it, j rounds so far -/
structure WS (due : List Bits) (c : Bool) (M0 : WM) (M : WM) (N : KM) (j : Nat) : Prop where
  ks : KS (kindL M0 c) c M N
  sn : N.said = none
  th : M.things = M0.things
  wd : M.width = M0.width
  mn : M.many = M0.many + N.seen.length
  kd : ∃ D, KD (Beg (kindL M0 c)) D N ∧ D.length = j
  an : due ≠ [] → Ans (kindL M0 c) N ∧ N.names.length = j
  nl : due = [] → N.names = []
  j0 : j = 0 → N.rest ≠ []
section
variable {due : List Bits} {c : Bool} {M0 M : WM} {N : KM} {j : Nat}
theorem WS.new (ok : WOk M0) (hp : due.Perm (kindL M0 c)) : WS due c M0 M0 ⟨c, [[]], none, [], []⟩ 0 where
  ks := KS.new ok
  sn := rfl
  th := rfl
  wd := rfl
  mn := rfl
  kd := ⟨[], KD.new, rfl⟩
  an := fun h => ⟨Ans.new fun e => h (by
    have := hp.length_eq
    rw [e] at this
    exact List.length_eq_zero_iff.mp this), rfl⟩
  nl := fun _ => rfl
  j0 := fun _ => by simp
theorem WS.le (h : WS due c M0 M N j) (hp : due.Perm (kindL M0 c)) : j + N.rest.length ≤ max 1 due.length := by
  obtain ⟨D, d1, d2⟩ := h.kd
  have := d1.le h.ks.ki (fun b hb => hb)
  rw [pend_none h.sn, d2, ← hp.length_eq] at this
  exact this
theorem WS.round {i : Nat} {M1 : WM} {N1 : KM} {r : Res} (h : WS due c M0 M N j) (hd : Rise due) (hp : due.Perm (kindL M0 c)) (ho : N.rest ≠ []) (t : KRound i M N M1 N1 r) :
    WS due c M0 M1 N1 (j + 1) ∧ (if due = [] then r = .lost else ∃ x, due[j]? = some x ∧ r = .found x) := by
  have hov : N.over = false := by simp [KM.over, h.sn, ho]
  have k1 := h.ks.round hov t
  obtain ⟨D, d1, d2⟩ := h.kd
  obtain ⟨D2, e1, e2⟩ := d1.sround h.ks hov t
  obtain ⟨_, _, _, f1, f2, f3⟩ := kround_sz t
  have hm := kround_many t
  have hmn := h.mn
  have hn := kround_names t
  have hsn := kround_done t
  have hnl : due = [] → N1.names = [] := fun e => List.eq_nil_iff_forall_not_mem.mpr fun x hx => by
    have := hp.mem_iff.mpr (k1.names x hx)
    rw [e] at this
    cases this
  have han : due ≠ [] → Ans (kindL M0 c) N1 ∧ r ≠ .lost := fun e => Ans.round h.ks hov (h.an e).1 t
  have hfound : due ≠ [] → ∃ x, r = .found x := fun e => by
    cases r with
    | none => exact absurd rfl f3
    | lost => exact absurd rfl (han e).2
    | found x => exact ⟨x, rfl⟩
  refine ⟨⟨k1, hsn, f2.trans h.th, f1.trans h.wd, by omega, ⟨D2, e1, by omega⟩, fun e => ⟨(han e).1, ?_⟩, hnl, fun e => by omega⟩, ?_⟩
  · obtain ⟨x, rfl⟩ := hfound e
    rw [hn]
    simp [resN, (h.an e).2]
  · by_cases e : due = []
    · rw [if_pos e]
      cases r with
      | none => exact absurd rfl f3
      | lost => rfl
      | found x =>
        have := hnl e
        rw [hn] at this
        simp [resN] at this
    · rw [if_neg e]
      obtain ⟨x, rfl⟩ := hfound e
      refine ⟨x, ?_, rfl⟩
      have h1 := k1.seg hd hp
      have h2 : N1.names.length = j + 1 := by rw [hn]; simp [resN, (h.an e).2]
      have h3 : N1.names[j]? = some x := by
        rw [hn, List.getElem?_append_right (by rw [(h.an e).2]; exact Nat.le_refl _), (h.an e).2]
        simp [resN]
      rw [h1, h2, List.getElem?_take] at h3
      simpa using h3
/-- where it has nowhere to go -/
theorem WS.still (h : WS due c M0 M N j) (hd : Rise due) (hp : due.Perm (kindL M0 c)) (hz : due.length ≤ 40) (hr : N.rest = []) : Still (kindL M0 c) M0 M N ∧ N.names = due ∧ j = max 1 due.length := by
  have ho : N.over = true := over_iff.mpr ⟨h.sn, hr⟩
  have S := h.ks.still (j := 0) ho (by rw [← hp.length_eq]; exact hz) h.th h.wd h.mn
  have hnm := S.sorted hd hp
  refine ⟨S, hnm, ?_⟩
  have hle := h.le hp
  rw [hr] at hle
  by_cases e : due = []
  · have hj : j ≠ 0 := fun e => h.j0 e hr
    rw [e] at hle ⊢
    simp at hle ⊢
    omega
  · have h1 := (h.an e).2
    rw [hnm] at h1
    have : 0 < due.length := List.length_pos_iff.mpr e
    omega
end
theorem KS.sz {L : List Bits} {c : Bool} {M : WM} {N : KM} (h : KS L c M N) (hz : L.length ≤ 40) : N.names.length ≤ 40 ∧ N.seen.length ≤ 441 := by
  refine ⟨Nat.le_trans (nodup_le _ L (rise_nodup h.ki.nr) h.names) hz, ?_⟩
  have h1 := nodup_le (N.seen.map (·.1)) (begs M.width L) h.ki.sd fun b hb => by
    obtain ⟨e, he, rfl⟩ := List.mem_map.mp hb
    obtain ⟨a1, a2⟩ := h.ki.pe e he
    exact beg_mem a2 a1
  rw [List.length_map, begs_len] at h1
  have h2 : L.length * (M.width - 1) ≤ 40 * 11 := Nat.mul_le_mul hz (by have := h.ok.w2; omega)
  omega
/-- three pairs of a kind and a list -/
def oKinds (z t1 t2 t3 p q : Addr) : Own where
  S := fun H => H z = some (.lst [.ref t1, .ref t2, .ref t3]) ∧ H t1 = some (.tup [.str "all", .ref p]) ∧ H t2 = some (.tup [.str "alarm", .ref q]) ∧ H t3 = some (.tup [.str "all", .ref p])
  F := [z, t1, t2, t3]
  loc := fun h s => ⟨h z (by simp) _ s.1, h t1 (by simp) _ s.2.1, h t2 (by simp) _ s.2.2.1, h t3 (by simp) _ s.2.2.2⟩
  al := fun s b hb => by
    simp only [List.mem_cons, List.not_mem_nil, or_false] at hb
    rcases hb with rfl | rfl | rfl | rfl
    · exact ⟨_, s.1, own_refs [t1, t2, t3]⟩
    · exact ⟨_, s.2.1, own_tup⟩
    · exact ⟨_, s.2.2.1, own_tup⟩
    · exact ⟨_, s.2.2.2, own_tup⟩
end Lw
end

section
/-! looks, and what they show: plain part -/
namespace Lw
open PySem L2
abbrev Look := Bits × Bool × Bool
def askedB (L : List Look) (q : Bits) : Bool := L.any fun e => decide (q <+: e.1)
/-- a look at q tells that something, or nothing, is behind it with this bit -/
def yesB (L : List Look) (q : Bits) (c : Bool) : Bool := L.any fun e => decide (e.1 = q) && (if c then e.2.2 else e.2.1)
def noB (L : List Look) (q : Bits) (c : Bool) : Bool := L.any fun e => decide (e.1 = q) && !(if c then e.2.2 else e.2.1)
def bareB (L : List Look) (q : Bits) : Bool := L.any fun e => (!e.2.1 && decide (q = e.1 ++ [false])) || (!e.2.2 && decide (q = e.1 ++ [true]))
def fullB (L : List Look) (q : Bits) : Bool := !q.isEmpty && L.any fun e => (e.2.1 && decide (q <+: e.1 ++ [false])) || (e.2.2 && decide (q <+: e.1 ++ [true]))
/-- how many numbers may begin with q, two for more; h: bits behind q -/
def cnt (L : List Look) : Nat → Bits → Nat
  | 0, q => if bareB L q then 0 else 1
  | h + 1, q => if bareB L q then 0 else if askedB L q then min 2 (cnt L h (q ++ [false]) + cnt L h (q ++ [true])) else 2
def cin (L : List Look) : Nat → Bits → Nat
  | 0, _ => 1
  | h + 1, q => if askedB L q then min 2 (cnt L h (q ++ [false]) + cnt L h (q ++ [true])) else 2
def both : Option (List Bits) → Option (List Bits) → Option (List Bits)
  | some x, some y => some (x ++ y)
  | _, _ => none
/-- all numbers that begin with q, none if they may be these or others -/
def frc (L : List Look) : Nat → Bits → Bool → Option (List Bits)
  | 0, q, f => if cnt L 0 q = 0 then some [] else if f || (decide (cnt L 0 q = 1) && fullB L q) then some [q] else none
  | h + 1, q, f => if cnt L (h + 1) q = 0 then some [] else if askedB L q then both (frc L h (q ++ [false]) (f || (decide (cnt L (h + 1) q = 1) && fullB L q))) (frc L h (q ++ [true]) (f || (decide (cnt L (h + 1) q = 1) && fullB L q))) else none
def fin_ (L : List Look) : Nat → Bits → Bool → Option (List Bits)
  | 0, q, f => if f then some [q] else none
  | h + 1, q, f => if askedB L q then both (frc L h (q ++ [false]) f) (frc L h (q ++ [true]) f) else none
section
variable {L : List Look} {h : Nat} {q p : Bits} {c f : Bool}
theorem cin_succ : cin L (h + 1) q = if askedB L q then min 2 (cnt L h (q ++ [false]) + cnt L h (q ++ [true])) else 2 := rfl
theorem fin_succ : fin_ L (h + 1) q f = if askedB L q then both (frc L h (q ++ [false]) f) (frc L h (q ++ [true]) f) else none := rfl
theorem cnt_cin : cnt L h q = if bareB L q then 0 else cin L h q := by cases h <;> rfl
theorem cin_le : cin L h q ≤ 2 := by
  cases h with
  | zero => exact (by decide : 1 ≤ 2)
  | succ h =>
    rw [cin_succ]
    split
    · exact Nat.min_le_left _ _
    · exact Nat.le_refl _
theorem cnt_le : cnt L h q ≤ 2 := by
  rw [cnt_cin]
  split
  · exact Nat.zero_le _
  · exact cin_le
theorem frc_fin : frc L h q f = if cnt L h q = 0 then some [] else fin_ L h q (f || (decide (cnt L h q = 1) && fullB L q)) := by cases h <;> rfl
theorem both_some {x y : Option (List Bits)} : (both x y).isSome = (x.isSome && y.isSome) := by cases x <;> cases y <;> rfl
/-- within q, behind it, something must hang -/
def HF (L : List Look) (q : Bits) : Bool := fullB L (q ++ [false]) || fullB L (q ++ [true])
/-- .. where nothing may -/
def TI (L : List Look) : Nat → Bits → Bool
  | 0, _ => false
  | h + 1, q => (fullB L (q ++ [false]) && decide (cnt L h (q ++ [false]) = 0)) || (fullB L (q ++ [true]) && decide (cnt L h (q ++ [true]) = 0)) || TI L h (q ++ [false]) || TI L h (q ++ [true])
theorem full_up {d : Bool} (h : fullB L (q ++ [c] ++ [d]) = true) : fullB L (q ++ [c]) = true := by
  unfold fullB at h ⊢
  rw [Bool.and_eq_true, List.any_eq_true] at h ⊢
  obtain ⟨_, e, he, h2⟩ := h
  refine ⟨by simp, e, he, ?_⟩
  rw [Bool.or_eq_true, Bool.and_eq_true, Bool.and_eq_true, decide_eq_true_eq, decide_eq_true_eq] at h2 ⊢
  have up : ∀ {x : Bits}, q ++ [c] ++ [d] <+: x → q ++ [c] <+: x := fun h => (List.prefix_append _ _).trans h
  exact h2.imp (fun ⟨a, b⟩ => ⟨a, up b⟩) (fun ⟨a, b⟩ => ⟨a, up b⟩)
theorem full_asked (h : fullB L (q ++ [c]) = true) : askedB L q = true := by
  unfold fullB at h
  rw [Bool.and_eq_true, List.any_eq_true] at h
  obtain ⟨_, e, he, h2⟩ := h
  unfold askedB
  rw [List.any_eq_true]
  refine ⟨e, he, decide_eq_true ?_⟩
  have key : ∀ {d : Bool}, q ++ [c] <+: e.1 ++ [d] → q <+: e.1 := fun {d} h => by
    rcases List.prefix_concat_iff.mp h with h | h
    · have := congrArg List.length h
      obtain ⟨h3, _⟩ := List.append_inj h (by simpa using this)
      rw [h3]
      exact List.prefix_refl _
    · exact (List.prefix_append _ _).trans h
  rw [Bool.or_eq_true, Bool.and_eq_true, Bool.and_eq_true, decide_eq_true_eq, decide_eq_true_eq] at h2
  exact h2.elim (fun ⟨_, b⟩ => key b) (fun ⟨_, b⟩ => key b)
theorem full_len {w : Nat} (hl : ∀ e ∈ L, e.1.length < w) (h : fullB L q = true) : q.length ≤ w := by
  unfold fullB at h
  rw [Bool.and_eq_true, List.any_eq_true] at h
  obtain ⟨_, e, he, h2⟩ := h
  have := hl e he
  rw [Bool.or_eq_true, Bool.and_eq_true, Bool.and_eq_true, decide_eq_true_eq, decide_eq_true_eq] at h2
  rcases h2 with ⟨_, b⟩ | ⟨_, b⟩
  all_goals
    have := b.length_le
    rw [List.length_append] at this
    simp only [List.length_cons, List.length_nil] at this
    omega
theorem full_ne (h : fullB L q = true) : q ≠ [] := by
  rintro rfl
  cases h
theorem bare_is : bareB L (q ++ [c]) = noB L q c := by
  unfold bareB noB
  congr 1
  funext e
  have k : ∀ d : Bool, decide (q ++ [c] = e.1 ++ [d]) = (decide (e.1 = q) && decide (c = d)) := fun d => by
    rw [Bool.eq_iff_iff, Bool.and_eq_true, decide_eq_true_eq, decide_eq_true_eq, decide_eq_true_eq]
    constructor
    · intro h
      obtain ⟨h1, h2⟩ := List.append_inj' h rfl
      exact ⟨h1.symm, by simpa using h2⟩
    · rintro ⟨rfl, rfl⟩
      rfl
  rw [k, k]
  cases c <;> cases decide (e.1 = q) <;> simp
theorem full_is : fullB L (q ++ [c]) = (yesB L q c || HF L (q ++ [c])) := by
  rw [Bool.eq_iff_iff, Bool.or_eq_true]
  constructor
  · intro h
    unfold fullB at h
    rw [Bool.and_eq_true, List.any_eq_true] at h
    obtain ⟨_, e, he, h2⟩ := h
    rw [Bool.or_eq_true, Bool.and_eq_true, Bool.and_eq_true, decide_eq_true_eq, decide_eq_true_eq] at h2
    have key : ∀ {d : Bool}, (if d then e.2.2 else e.2.1) = true → q ++ [c] <+: e.1 ++ [d] → yesB L q c = true ∨ HF L (q ++ [c]) = true := fun {d} hd h => by
      obtain ⟨r, hr⟩ := h
      cases r with
      | nil =>
        rw [List.append_nil] at hr
        obtain ⟨h1, h2⟩ := List.append_inj' hr rfl
        have h2 : c = d := by simpa using h2
        subst h2
        refine .inl ?_
        unfold yesB
        rw [List.any_eq_true]
        exact ⟨e, he, by rw [Bool.and_eq_true, decide_eq_true_eq]; exact ⟨h1.symm, hd⟩⟩
      | cons x r =>
        refine .inr ?_
        have hx : fullB L (q ++ [c] ++ [x]) = true := by
          unfold fullB
          rw [Bool.and_eq_true, List.any_eq_true]
          refine ⟨by simp, e, he, ?_⟩
          rw [Bool.or_eq_true, Bool.and_eq_true, Bool.and_eq_true, decide_eq_true_eq, decide_eq_true_eq]
          have hp : q ++ [c] ++ [x] <+: e.1 ++ [d] := ⟨r, by rw [← hr]; simp⟩
          cases d
          · exact .inl ⟨hd, hp⟩
          · exact .inr ⟨hd, hp⟩
        unfold HF
        rw [Bool.or_eq_true]
        cases x
        · exact .inl hx
        · exact .inr hx
    exact h2.elim (fun ⟨a, b⟩ => key (d := false) a b) (fun ⟨a, b⟩ => key (d := true) a b)
  · rintro (h | h)
    · unfold yesB at h
      rw [List.any_eq_true] at h
      obtain ⟨e, he, h2⟩ := h
      rw [Bool.and_eq_true, decide_eq_true_eq] at h2
      obtain ⟨rfl, h2⟩ := h2
      unfold fullB
      rw [Bool.and_eq_true, List.any_eq_true]
      refine ⟨by simp, e, he, ?_⟩
      rw [Bool.or_eq_true, Bool.and_eq_true, Bool.and_eq_true, decide_eq_true_eq, decide_eq_true_eq]
      cases c
      · exact .inl ⟨h2, List.prefix_refl _⟩
      · exact .inr ⟨h2, List.prefix_refl _⟩
    · unfold HF at h
      rw [Bool.or_eq_true] at h
      exact h.elim full_up full_up
theorem HF_asked (h : HF L q = true) : askedB L q = true := by
  unfold HF at h
  rw [Bool.or_eq_true] at h
  exact h.elim full_asked full_asked
theorem HF_leaf {w : Nat} (hl : ∀ e ∈ L, e.1.length < w) (hq : q.length = w) : HF L q = false := by
  cases e : HF L q with
  | false => rfl
  | true =>
    unfold HF at e
    rw [Bool.or_eq_true] at e
    rcases e with h | h
    all_goals
      have := full_len hl h
      rw [List.length_append] at this
      simp only [List.length_cons, List.length_nil] at this
      omega
theorem TI_HF : ∀ {h : Nat} {q : Bits}, TI L h q = true → HF L q = true
  | 0, q, h => by cases h
  | n + 1, q, h => by
    unfold TI at h
    unfold HF
    rw [Bool.or_eq_true]
    simp only [Bool.or_eq_true, Bool.and_eq_true] at h
    rcases h with ((h | h) | h) | h
    · exact .inl h.1
    · exact .inr h.1
    · have := TI_HF h
      rw [full_is, this, Bool.or_true]
      exact .inl rfl
    · have := TI_HF h
      rw [full_is (c := true), this, Bool.or_true]
      exact .inr rfl
/-- something must hang where nothing may -/
theorem HF_zero {w : Nat} (hl : ∀ e ∈ L, e.1.length < w) (hh : h + q.length = w) (h1 : HF L q = true) (h2 : cin L h q = 0) : TI L h q = true := by
  cases h with
  | zero => cases h2
  | succ h =>
    rw [cin_succ, if_pos (HF_asked h1)] at h2
    have e0 : cnt L h (q ++ [false]) = 0 := by omega
    have e1 : cnt L h (q ++ [true]) = 0 := by omega
    unfold TI
    unfold HF at h1
    rw [Bool.or_eq_true] at h1
    rcases h1 with h | h
    · simp [h, e0]
    · simp [h, e1]
theorem fin_true : ∀ {h : Nat} {q : Bits}, cin L h q = 1 → (fin_ L h q true).isSome = true
  | 0, q, _ => rfl
  | n + 1, q, h => by
    rw [cin_succ] at h
    split at h
    · rename_i ha
      rw [fin_succ, if_pos ha, both_some]
      have key : ∀ c, cnt L n (q ++ [c]) = 0 ∨ cnt L n (q ++ [c]) = 1 → (frc L n (q ++ [c]) true).isSome = true := fun c hc => by
        rw [frc_fin]
        rcases hc with hc | hc
        · rw [if_pos hc]
          rfl
        · rw [if_neg (by omega)]
          have : cin L n (q ++ [c]) = 1 := by
            rw [cnt_cin] at hc
            split at hc
            · cases hc
            · exact hc
          exact fin_true this
      have a0 := key false (by omega)
      have a1 := key true (by omega)
      rw [a0, a1]
      rfl
    · cases h
theorem fin_noHF {w : Nat} (hl : ∀ e ∈ L, e.1.length < w) : ∀ {h : Nat} {q : Bits}, HF L q = false → cin L h q ≠ 0 → fin_ L h q false = none
  | 0, q, _, _ => rfl
  | n + 1, q, hf, hc => by
    rw [cin_succ] at hc
    rw [fin_succ]
    split at hc
    · rename_i ha
      rw [if_pos ha]
      unfold HF at hf
      rw [Bool.or_eq_false_iff] at hf
      have key : ∀ c, fullB L (q ++ [c]) = false → cnt L n (q ++ [c]) ≠ 0 → frc L n (q ++ [c]) false = none := fun c hc h0 => by
        rw [frc_fin, if_neg h0, hc, Bool.and_false, Bool.false_or]
        have h2 : HF L (q ++ [c]) = false := by
          rw [full_is, Bool.or_eq_false_iff] at hc
          exact hc.2
        refine fin_noHF hl h2 fun h => h0 ?_
        rw [cnt_cin, h]
        split <;> rfl
      by_cases h0 : cnt L n (q ++ [false]) = 0
      · rw [key true hf.2 (by omega)]
        cases frc L n (q ++ [false]) false <;> rfl
      · rw [key false hf.1 h0]
        rfl
    · rename_i ha
      rw [if_neg ha]
theorem fin_one (h1 : cin L (h + 1) q = 1) (h2 : HF L q = true) (h3 : TI L (h + 1) q = false) : (fin_ L (h + 1) q false).isSome = true := by
    rw [cin_succ, if_pos (HF_asked h2)] at h1
    rw [fin_succ, if_pos (HF_asked h2), both_some]
    unfold TI at h3
    simp only [Bool.or_eq_false_iff, Bool.and_eq_false_iff, decide_eq_false_iff_not] at h3
    unfold HF at h2
    rw [Bool.or_eq_true] at h2
    have z : ∀ c, cnt L h (q ++ [c]) = 0 → (frc L h (q ++ [c]) false).isSome = true := fun c hc => by
      rw [frc_fin, if_pos hc]
      rfl
    have o : ∀ c, fullB L (q ++ [c]) = true → cnt L h (q ++ [c]) = 1 → (frc L h (q ++ [c]) false).isSome = true := fun c hf hc => by
      rw [frc_fin, if_neg (by omega), hf, decide_eq_true hc]
      have : cin L h (q ++ [c]) = 1 := by
        rw [cnt_cin] at hc
        split at hc
        · cases hc
        · exact hc
      exact fin_true this
    rcases h2 with h2 | h2
    · have : ¬ cnt L h (q ++ [false]) = 0 := fun e => by
        rcases h3.1.1.1 with h | h
        · rw [h2] at h; cases h
        · exact h e
      rw [o false h2 (by omega), z true (by omega)]
      rfl
    · have : ¬ cnt L h (q ++ [true]) = 0 := fun e => by
        rcases h3.1.1.2 with h | h
        · rw [h2] at h; cases h
        · exact h e
      rw [o true h2 (by omega), z false (by omega)]
      rfl
end
/-! ### the law's counting -/
def ansB (L : List Look) (q : Bits) (z o : Bool) : Bool := L.all fun e => !decide (e.1 = q) || (decide (e.2.1 = z) && decide (e.2.2 = o))
def pk (p : Nat × Nat) (z : Bool) : Nat := if z then p.2 else p.1
def wsum (L : List Look) (q : Bits) (a b : Nat × Nat) (z o : Bool) : Nat := if ansB L q z o then pk a z * pk b o else 0
def ways (L : List Look) : Nat → Bits → Nat × Nat
  | 0, _ => (1, 1)
  | h + 1, q => if askedB L q then (min 2 (wsum L q (ways L h (q ++ [false])) (ways L h (q ++ [true])) false false),
      min 2 (wsum L q (ways L h (q ++ [false])) (ways L h (q ++ [true])) false true + wsum L q (ways L h (q ++ [false])) (ways L h (q ++ [true])) true false + wsum L q (ways L h (q ++ [false])) (ways L h (q ++ [true])) true true)) else (1, 2)
def those (L : List Look) : Nat → Bits → List Bits
  | 0, q => [q]
  | h + 1, q => if 0 < wsum L q (ways L h (q ++ [false])) (ways L h (q ++ [true])) false true then those L h (q ++ [true])
      else if 0 < wsum L q (ways L h (q ++ [false])) (ways L h (q ++ [true])) true false then those L h (q ++ [false])
      else if 0 < wsum L q (ways L h (q ++ [false])) (ways L h (q ++ [true])) true true then those L h (q ++ [false]) ++ those L h (q ++ [true]) else []
section
variable {L : List Look} {h : Nat} {q p : Bits} {c f z o : Bool}
def okB (L : List Look) (q : Bits) (c z : Bool) : Bool := if z then !noB L q c else !yesB L q c
theorem TI_succ : TI L (h + 1) q = ((fullB L (q ++ [false]) && decide (cnt L h (q ++ [false]) = 0)) || (fullB L (q ++ [true]) && decide (cnt L h (q ++ [true]) = 0)) || TI L h (q ++ [false]) || TI L h (q ++ [true])) := rfl
/-- what a child brings: nothing of it, something of it -/
def wE (L : List Look) (h : Nat) (q : Bits) (c : Bool) : Nat := if yesB L q c then 0 else (ways L h (q ++ [c])).1
def wX (L : List Look) (h : Nat) (q : Bits) (c : Bool) : Nat := if noB L q c then 0 else (ways L h (q ++ [c])).2
def wayF (L : List Look) (h : Nat) (q : Bits) : Nat × Nat := (if HF L q then 0 else 1, if TI L h q then 0 else if HF L q then (if (fin_ L h q false).isSome then 1 else 2) else cin L h q)
/-- a child, by its formula -/
theorem child {w : Nat} (hl : ∀ e ∈ L, e.1.length < w) (hh : h + 1 + q.length = w) (e : ways L h (q ++ [c]) = wayF L h (q ++ [c])) :
    (fullB L (q ++ [c]) = true ∧ wE L h q c = 0 ∧ wX L h q c = if cnt L h (q ++ [c]) = 0 ∨ TI L h (q ++ [c]) = true then 0 else if (frc L h (q ++ [c]) false).isSome then 1 else 2) ∨
    (fullB L (q ++ [c]) = false ∧ wE L h q c = 1 ∧ wX L h q c = cnt L h (q ++ [c]) ∧ (frc L h (q ++ [c]) false).isSome = decide (cnt L h (q ++ [c]) = 0) ∧ TI L h (q ++ [c]) = false) := by
  have hl1 : h + (q ++ [c]).length = w := by
    rw [List.length_append]
    simp only [List.length_cons, List.length_nil]
    omega
  unfold wE wX
  rw [e]
  unfold wayF
  have hb : bareB L (q ++ [c]) = noB L q c := bare_is
  have hc : cnt L h (q ++ [c]) = if noB L q c then 0 else cin L h (q ++ [c]) := by rw [cnt_cin, hb]
  cases hF : fullB L (q ++ [c]) with
  | true =>
    refine .inl ⟨rfl, ?_, ?_⟩
    · rw [full_is] at hF
      cases hy : yesB L q c with
      | true => rfl
      | false =>
        rw [hy, Bool.false_or] at hF
        simp [hF]
    · cases hn : noB L q c with
      | true =>
        rw [hn] at hc
        simp only [if_true] at hc ⊢
        rw [if_pos (.inl hc)]
      | false =>
        rw [hn] at hc
        simp only [Bool.false_eq_true, if_false] at hc ⊢
        cases hT : TI L h (q ++ [c]) with
        | true => simp
        | false =>
          simp only [Bool.false_eq_true, if_false, or_false]
          by_cases h0 : cnt L h (q ++ [c]) = 0
          · rw [if_pos h0]
            cases hH : HF L (q ++ [c]) with
            | true =>
              have := HF_zero hl hl1 hH (by omega)
              rw [hT] at this
              cases this
            | false =>
              simp only [Bool.false_eq_true, if_false]
              omega
          · rw [if_neg h0, frc_fin, if_neg h0, hF, Bool.and_true, Bool.false_or]
            have hle := cin_le (L := L) (h := h) (q := q ++ [c])
            by_cases h1 : cnt L h (q ++ [c]) = 1
            · rw [decide_eq_true h1, fin_true (by omega)]
              cases hH : HF L (q ++ [c]) with
              | true =>
                simp only [if_true]
                have : (fin_ L h (q ++ [c]) false).isSome = true := by
                  cases h with
                  | zero =>
                    rw [HF_leaf hl (by omega)] at hH
                    cases hH
                  | succ h => exact fin_one (by omega) hH hT
                rw [this]
                rfl
              | false =>
                simp only [Bool.false_eq_true, if_false, if_true]
                omega
            · rw [decide_eq_false h1]
              cases hH : HF L (q ++ [c]) with
              | true => rfl
              | false =>
                rw [fin_noHF hl hH (by omega)]
                simp only [Bool.false_eq_true, if_false, Option.isSome_none]
                omega
  | false =>
    have hF2 := hF
    rw [full_is, Bool.or_eq_false_iff] at hF2
    have hT : TI L h (q ++ [c]) = false := by
      cases hT : TI L h (q ++ [c]) with
      | false => rfl
      | true =>
        have := TI_HF hT
        rw [hF2.2] at this
        cases this
    refine .inr ⟨rfl, ?_, ?_, ?_, hT⟩
    · rw [hF2.1, hF2.2]
      rfl
    · rw [hT, hF2.2, hc]
      cases noB L q c <;> rfl
    · rw [frc_fin]
      by_cases h0 : cnt L h (q ++ [c]) = 0
      · rw [if_pos h0, decide_eq_true h0]
        rfl
      · rw [if_neg h0, decide_eq_false h0, hF, Bool.and_false, Bool.false_or, fin_noHF hl hF2.2 (fun e => h0 (by rw [hc, e]; split <;> rfl))]
        rfl
end
theorem TI_of {L : List Look} {w : Nat} (hl : ∀ e ∈ L, e.1.length < w) : ∀ {r p : Bits} {h : Nat}, r ≠ [] → h + p.length = w → fullB L (p ++ r) = true → cnt L (w - (p ++ r).length) (p ++ r) = 0 → TI L h p = true
  | [], _, _, h, _, _, _ => absurd rfl h
  | c :: r, p, h, _, hh, h1, h2 => by
    have hlen := full_len hl h1
    rw [List.length_append, List.length_cons] at hlen
    obtain ⟨n, rfl⟩ : ∃ n, h = n + 1 := ⟨h - 1, by omega⟩
    have hn : n + (p ++ [c]).length = w := by
      rw [List.length_append]
      simp only [List.length_cons, List.length_nil]
      omega
    have e : p ++ c :: r = p ++ [c] ++ r := by simp
    rw [e] at h1 h2
    rw [TI_succ]
    by_cases hr : r = []
    · subst hr
      rw [List.append_nil] at h1 h2
      have : w - (p ++ [c]).length = n := by omega
      rw [this] at h2
      cases c <;> simp [h1, h2]
    · have := TI_of hl hr hn h1 h2
      cases c <;> simp [this]
theorem TI_ex {L : List Look} {w : Nat} : ∀ {h : Nat} {p : Bits}, h + p.length = w → TI L h p = true → ∃ q, fullB L q = true ∧ cnt L (w - q.length) q = 0
  | 0, p, _, h => by cases h
  | n + 1, p, hh, h => by
    have hn : ∀ c, n + (p ++ [c]).length = w := fun c => by
      rw [List.length_append]
      simp only [List.length_cons, List.length_nil]
      omega
    have he : ∀ c, w - (p ++ [c]).length = n := fun c => by have := hn c; omega
    rw [TI_succ] at h
    simp only [Bool.or_eq_true, Bool.and_eq_true, decide_eq_true_eq] at h
    rcases h with ((h | h) | h) | h
    · exact ⟨_, h.1, by rw [he]; exact h.2⟩
    · exact ⟨_, h.1, by rw [he]; exact h.2⟩
    · exact TI_ex (hn false) h
    · exact TI_ex (hn true) h
theorem torn_iff {L : List Look} {w : Nat} (hl : ∀ e ∈ L, e.1.length < w) : (∃ q, fullB L q = true ∧ cnt L (w - q.length) q = 0) ↔ TI L w [] = true :=
  ⟨fun ⟨q, h1, h2⟩ => TI_of (r := q) (p := []) hl (full_ne h1) (by simp) h1 h2, TI_ex (by simp)⟩
/-! ### the law's counting, as it goes -/
def ansA (L : List Look) (q : Bits) : List (Bool × Bool) := ([(false, false), (false, true), (true, false), (true, true)] : List (Bool × Bool)).filter fun p => ansB L q p.1 p.2
def accS (a b : Nat × Nat) (s : Nat × Nat) (p : Bool × Bool) : Nat × Nat := if p.1 || p.2 then (s.1, s.2 + pk a p.1 * pk b p.2) else (s.1 + pk a p.1 * pk b p.2, s.2)
def accW (a b : Nat × Nat) (A : List (Bool × Bool)) : Nat × Nat := A.foldl (accS a b) (0, 0)
end Lw
end

section
/-! a paper in the heap -/
namespace Lw
open PySem L2
def vN (n : Nat) : V := .int (n : Int)
def pfl (w : Nat) (f b s k : Addr) : List (Str × V) := [("width", .int (w : Int)), ("full", .ref f), ("bare", .ref b), ("asked", .ref s), ("known", .ref k)]
structure ClPa (K : PySem.W.Frag) (CP : Addr) : Prop where
  cl : Cls K CP
  n_width : NoAttr K CP "width"
  n_full : NoAttr K CP "full"
  n_bare : NoAttr K CP "bare"
  n_asked : NoAttr K CP "asked"
  n_known : NoAttr K CP "known"
section
variable {K : PySem.W.Frag} {CP a dx f b s k : Addr} {w : Nat} {H : Hp} {Q : VK}
end
/-- what was reckoned -/
structure KnOk (w : Nat) (L : List Look) (kn : List (Bits × Nat)) : Prop where
  nd : (kn.map (·.1)).Nodup
  ok : ∀ p ∈ kn, askedB L p.1 = true ∧ bareB L p.1 = false ∧ p.1.length < w ∧ p.2 = cnt L (w - p.1.length) p.1
/-- a paper, as far as it is asked -/
structure PCt (CP a dx f b s k : Addr) (w : Nat) (L : List Look) (H : Hp) : Prop where
  ob : H a = some (.ins CP dx (pfl w f b s k))
  ba : ∃ ks, H b = some (.dK (tK V.bl (liK ks))) ∧ ∀ q, q ∈ ks ↔ bareB L q = true
  as_ : ∃ ks, H s = some (.dK (tK V.bl (liK ks))) ∧ (∀ q, q ∈ ks ↔ askedB L q = true) ∧ ks.length ≤ 3000
  kn : ∃ kn, H k = some (.dK (tK vN kn)) ∧ KnOk w L kn
  w1 : 1 ≤ w
  w2 : w ≤ 12
  hl : ∀ e ∈ L, e.1.length < w
  nb : k ≠ b
  ns : k ≠ s
  nf : k ≠ f
  fb : f ≠ b
  fs : f ≠ s
def Full (f : Addr) (L : List Look) (H : Hp) : Prop := ∃ ks, H f = some (.dK (tK V.bl (liK ks))) ∧ (∀ q, q ∈ ks ↔ fullB L q = true) ∧ ks.length ≤ 3000
section
variable {CP a dx f b s k : Addr} {w : Nat} {L : List Look} {H H' : Hp}
theorem PCt.ext (h : PCt CP a dx f b s k w L H) (e : Ext H H') : PCt CP a dx f b s k w L H' := by
  obtain ⟨ks, h1, h2⟩ := h.ba
  obtain ⟨ks2, h3, h4⟩ := h.as_
  obtain ⟨kn, h5, h6⟩ := h.kn
  exact ⟨e.st _ _ h.ob nsh_ins, ⟨ks, e.st _ _ h1 nsh_dK, h2⟩, ⟨ks2, e.st _ _ h3 nsh_dK, h4⟩, ⟨kn, e.st _ _ h5 nsh_dK, h6⟩, h.w1, h.w2, h.hl, h.nb, h.ns, h.nf, h.fb, h.fs⟩
theorem Full.ext (h : Full f L H) (e : Ext H H') : Full f L H' := by
  obtain ⟨ks, h1, h2⟩ := h
  exact ⟨ks, e.st _ _ h1 nsh_dK, h2⟩
theorem Full.step {F' : List Addr} (h : Full f L H) (n : k ≠ f) (e : Step [k] F' H H') : Full f L H' := by
  obtain ⟨ks, h1, h2⟩ := h
  exact ⟨ks, e.st _ _ h1 (by simpa using fun e => n e.symm) nsh_dK, h2⟩
theorem PCt.na (h : PCt CP a dx f b s k w L H) : k ≠ a := by
  obtain ⟨kn, h5, _⟩ := h.kn
  rintro rfl
  rw [h.ob] at h5
  cases h5
end
/-- a comprehension whose turns write known places; r: of the list that is made, of the place, of what is made so far, of the heap -/
theorem lcW {σ : L2.St} {H : Hp} {Q : VK} {g : TG} {tt : TT} {te : TE} {vs : List Nat} {J : It} {n : Nat} {Y : Nat → V → Prop} (r : Addr → Nat → List V → Hp → Prop)
    (src : ∀ D i acc H', i ≤ n → r D i acc H' → (i < n → J.go i H' ∧ ∀ x H2, J.yld i H' x H2 → H2 = H' ∧ Y i x) ∧ (i = n → J.stop i H'))
    (h0 : ∀ D H1, H D = none → Ext H H1 → r D 0 [] H1) (hu : ∀ D i acc H1 xs ys, H D = none → H1 D = some (.lst xs) → r D i acc H1 → r D i acc (upd H1 D (.lst ys))) (hz : n ≤ 100000)
    (hs : ∀ i x acc H' D (NT : Bool → Hp → Prop) (NE : VK), i < n → Y i x → H D = none → H' D = some (.lst acc) → r D i acc H' → (∀ H2, H2 D = some (.lst acc) → r D (i + 1) acc H2 → NT false H2) →
      (∀ y H2, H2 D = some (.lst acc) → r D (i + 1) (acc ++ [y]) H2 → NE y H2) → g x (wipe σ vs) H' fun σ2 H2 => wipe σ2 vs = wipe σ vs ∧ tt σ2 H2 fun b H3 => if b = true then te σ2 H3 NE else NT false H3)
    (hd : ∀ D acc H', r D n acc H' → H D = none → H' D = some (.lst acc) → acc.length ≤ n → Q (.ref D) H') : LcB J g tt te vs σ H Q := by
  intro D hD
  refine ⟨fun i m H' => m = n - i ∧ i ≤ n ∧ ∃ acc, r D i acc H' ∧ acc.length ≤ i ∧ H' D = some (.lst acc), ⟨n, by simp, Nat.zero_le _, [], h0 _ _ hD (Ext.new hD), Nat.le_refl _, upd_same⟩, ?_⟩
  rintro i m H' ⟨rfl, hi, acc, ha, hl, hDa⟩
  obtain ⟨s1, s2⟩ := src D i acc H' hi ha
  by_cases hlt : i < n
  · obtain ⟨go, hy⟩ := s1 hlt
    refine .inr ⟨go, fun H2 => i + 1 ≤ n ∧ ∃ acc, r D (i + 1) acc H2 ∧ acc.length ≤ i + 1 ∧ H2 D = some (.lst acc), fun H2 ⟨a, b⟩ => ⟨n - (i + 1), by omega, rfl, a, b⟩, fun x H2 y => ?_⟩
    obtain ⟨e2, y2⟩ := hy x H2 y
    subst e2
    exact hs i x acc _ D (fun b H3 => i + 1 ≤ n ∧ ∃ acc, r D (i + 1) acc H3 ∧ acc.length ≤ i + 1 ∧ H3 D = some (.lst acc)) _ hlt y2 hD hDa ha (fun H3 h1 h3 => ⟨hlt, acc, h3, by omega, h1⟩) fun v H3 h1 h3 =>
      ⟨acc, h1, Nat.lt_of_lt_of_le (Nat.lt_of_le_of_lt (Nat.le_trans hl (Nat.le_trans hi hz)) (by decide : 100000 < 16777216)) (by decide), hlt, _, hu _ _ _ _ _ _ hD h1 h3, by simp; omega, upd_same⟩
  · have e1 : i = n := by omega
    subst e1
    exact .inl ⟨s2 rfl, hd D acc H' ha hD hDa hl⟩
theorem PCt.congr {CP a dx f b s k : Addr} {w : Nat} {L : List Look} {H H' : Hp} (h : PCt CP a dx f b s k w L H) (e : ∀ x, x = a ∨ x = b ∨ x = s ∨ x = k → H' x = H x) : PCt CP a dx f b s k w L H' := by
  obtain ⟨ks, h1, h2⟩ := h.ba
  obtain ⟨ks2, h3, h4⟩ := h.as_
  obtain ⟨kn, h5, h6⟩ := h.kn
  exact ⟨by rw [e a (by simp)]; exact h.ob, ⟨ks, by rw [e b (by simp)]; exact h1, h2⟩, ⟨ks2, by rw [e s (by simp)]; exact h3, h4⟩, ⟨kn, by rw [e k (by simp)]; exact h5, h6⟩, h.w1, h.w2, h.hl, h.nb, h.ns, h.nf, h.fb, h.fs⟩
/-- no list stands where a paper does -/
theorem PCt.notlst {CP a dx f b s k : Addr} {w : Nat} {L : List Look} {H : Hp} (h : PCt CP a dx f b s k w L H) {D : Addr} {xs : List V} (hD : H D = some (.lst xs)) : D ≠ a ∧ D ≠ b ∧ D ≠ s ∧ D ≠ k := by
  obtain ⟨ks, h1, h2⟩ := h.ba
  obtain ⟨ks2, h3, h4⟩ := h.as_
  obtain ⟨kn, h5, h6⟩ := h.kn
  refine ⟨?_, ?_, ?_, ?_⟩
  · rintro rfl
    rw [h.ob] at hD
    cases hD
  · rintro rfl
    rw [h1] at hD
    cases hD
  · rintro rfl
    rw [h3] at hD
    cases hD
  · rintro rfl
    rw [h5] at hD
    cases hD
theorem PCt.updL {CP a dx f b s k : Addr} {w : Nat} {L : List Look} {H : Hp} (h : PCt CP a dx f b s k w L H) {D : Addr} {xs : List V} {o : HO} (hD : H D = some (.lst xs)) : PCt CP a dx f b s k w L (upd H D o) := by
  obtain ⟨n1, n2, n3, n4⟩ := h.notlst hD
  exact h.congr fun x hx => upd_ne (by rcases hx with rfl | rfl | rfl | rfl <;> exact fun e => by first | exact n1 e.symm | exact n2 e.symm | exact n3 e.symm | exact n4 e.symm)
theorem KnOk.len {w : Nat} {L : List Look} {kn : List (Bits × Nat)} (h : KnOk w L kn) {ks : List Bits} (hs : ∀ q, q ∈ ks ↔ askedB L q = true) (hz : ks.length ≤ 3000) : kn.length ≤ 3000 := by
  have := nodup_le (kn.map (·.1)) ks h.nd fun x hx => by
    obtain ⟨p, hp, rfl⟩ := List.mem_map.mp hx
    exact (hs _).mpr (h.ok p hp).1
  rw [List.length_map] at this
  omega
theorem KnOk.get {w : Nat} {L : List Look} {kn : List (Bits × Nat)} (h : KnOk w L kn) {q : Bits} (hq : q ∈ kn.map (·.1)) : alook kn q = some (cnt L (w - q.length) q) := by
  obtain ⟨p, hp, rfl⟩ := List.mem_map.mp hq
  obtain ⟨p1, p2⟩ := p
  have := (h.ok _ hp).2.2.2
  have this : p2 = cnt L (w - p1.length) p1 := this
  subst this
  exact alook_of h.nd hp
theorem oNotInD {X : Cx} {K : PySem.W.Frag} (h : X.K = K) (hu : X.A.units + 65 < cLine) : OpR X (compareOp .NotIn) (rNotInD K) := h ▸ op_notInD hu
theorem room65 {k : Nat} {A : Around} (r : Room k A) : A.units + 65 < cLine := by have := r.un; omega
/-! ### a look in a list -/
def lookV (e : Look) : List V := [.str (B e.1), .bl e.2.1, .bl e.2.2]
/-- a text, a number or a truth -/
def FlatB (v : V) : Prop := FlatV v ∨ ∃ c, v = .bl c
def lkOk (w : Nat) : List V → Bool
  | [.str x, .bl _, .bl _] => bitsS x && decide (x.length < w)
  | _ => false
def badLk (w : Nat) (n : Nat) : List (List V) → Option Nat
  | [] => none
  | xs :: r => if 100 ≤ n ∨ lkOk w xs = false then some n else badLk w (n + 1) r
def toDB : V → PyData
  | .bl c => .bool c
  | v => toD v
theorem FlatB.dq {K : PySem.W.Frag} {H : Hp} {v : V} (h : FlatB v) : Dq K H v (toDB v) := by
  rcases h with (⟨x, rfl, _, _⟩ | ⟨i, rfl⟩) | ⟨c, rfl⟩
  · exact .str x
  · exact .int i
  · exact .bl c
theorem FlatB.ok {v : V} (h : FlatB v) : PyData.canLay0 (toDB v) = true ∧ ∀ x, toDB v = .str x → x.length ≤ 100000 := by
  rcases h with (⟨x, rfl, h, hz⟩ | ⟨i, rfl⟩) | ⟨c, rfl⟩
  · exact ⟨h, fun y e => by cases e; exact hz⟩
  · exact ⟨rfl, fun y e => by cases e⟩
  · exact ⟨rfl, fun y e => by cases e⟩
/-! ### what one look brings -/
/-! ### sequences beside what is written -/
section
variable {K : PySem.W.Frag} {F F' : List Addr} {H H' : Hp} {p : Addr} {xs : List V}
end
/-- fewer places changed than told -/
theorem Step.sub {F G : List Addr} {H H' : Hp} (s : Step F F H H') (h : ∀ x ∈ F, x ∈ G) : Step G G H H' := ⟨fun b o hb n ns => s.st b o hb (fun q => n (h b q)) ns, fun b a i m z hb n hi => s.rw_ b a i m z hb (fun q => n (h b q)) hi, s.th, fun b hb => .inl hb⟩
/-! ### looks as data -/
def lookD (e : Look) : PyData := .tuple [db e.1, .bool e.2.1, .bool e.2.2]
theorem dq_look {K : PySem.W.Frag} {H : Hp} {t : Addr} {e : Look} (h : SqT K H t (lookV e)) : Dq K H (.ref t) (lookD e) := .tup h (show 3 ≤ 100000 by decide) (.cons (.str _) (.cons (.bl _) (.cons (.bl _) .nil)))
theorem dqAll_looks {K : PySem.W.Frag} {H : Hp} : ∀ {ts : List Addr} {L : List Look}, Paired (fun t e => SqT K H t (lookV e)) ts L → DqAll K H (ts.map V.ref) (L.map lookD)
  | _, _, .nil => .nil
  | _, _, .cons h t => .cons (dq_look h) (dqAll_looks t)
theorem dq_looks {K : PySem.W.Frag} {H : Hp} {a : Addr} {ts : List Addr} {L : List Look} (h : SqL K H a (ts.map V.ref)) (p : Paired (fun t e => SqT K H t (lookV e)) ts L) (hz : ts.length ≤ 100000) : Dq K H (.ref a) (.list (L.map lookD)) :=
  .lst h (nsh_refs _) (by rw [List.length_map]; exact hz) (dqAll_looks p)
theorem paired_map {α β γ : Type} {r : α → γ → Prop} {f : β → γ} : ∀ {l : List α} {m : List β}, Paired r l (m.map f) ↔ Paired (fun a b => r a (f b)) l m
  | [], [] => ⟨fun _ => .nil, fun _ => .nil⟩
  | [], b :: m => ⟨fun h => (by cases h), fun h => (by cases h)⟩
  | a :: l, [] => ⟨fun h => (by cases h), fun h => (by cases h)⟩
  | a :: l, b :: m => by
    rw [List.map_cons]
    constructor
    · intro h
      cases h with
      | cons h t => exact .cons h (paired_map.mp t)
    · intro h
      cases h with
      | cons h t => exact .cons h (paired_map.mpr t)
/-- a list of looks in the heap -/
def LooksAt (K : PySem.W.Frag) (H : Hp) (a : Addr) (L : List Look) : Prop := ∃ ts : List Addr, SqL K H a (ts.map V.ref) ∧ Paired (fun t e => SqT K H t (lookV e)) ts L
theorem LooksAt.steps {K : PySem.W.Frag} {H : Hp} {a : Addr} {L : List Look} (h : LooksAt K H a L) : StepsAt K H a (L.map lookV) := by
  obtain ⟨ts, h1, h2⟩ := h
  exact ⟨ts, h1, paired_map.mpr h2⟩
theorem LooksAt.ext {K : PySem.W.Frag} {H H1 : Hp} {a : Addr} {L : List Look} (h : LooksAt K H a L) (e : Ext H H1) : LooksAt K H1 a L := by
  obtain ⟨ts, h1, h2⟩ := h
  exact ⟨ts, e.seq (nsh_refs _) h1, paired_mono (fun t xs h => e.tup h) h2⟩
theorem LooksAt.dq {K : PySem.W.Frag} {H : Hp} {a : Addr} {L : List Look} (h : LooksAt K H a L) (hz : L.length ≤ 100000) : Dq K H (.ref a) (.list (L.map lookD)) := by
  obtain ⟨ts, h1, h2⟩ := h
  exact dq_looks h1 h2 (by rw [paired_len h2]; exact hz)
end Lw
end

section
/-! what looks show, told of the sets of numbers that tell so -/
namespace Lw
open PySem L2
def ansE (e : Look) (c : Bool) : Bool := if c then e.2.2 else e.2.1
/-- this set tells so -/
def Cons (L : List Look) (w : Nat) (X : Bits → Prop) : Prop := (∀ x, X x → x.length = w) ∧ ∀ e ∈ L, ∀ c, (ansE e c = true ↔ ∃ x, X x ∧ e.1 ++ [c] <+: x)
/-- a number that begins with q and may hang there -/
def Al (L : List Look) (w : Nat) (q x : Bits) : Prop := q <+: x ∧ x.length = w ∧ ∀ p, q <+: p → p <+: x → bareB L p = false
section
variable {L : List Look} {w : Nat} {q x y p : Bits} {c : Bool}
theorem bare_iff : bareB L p = true ↔ ∃ e ∈ L, ∃ c, ansE e c = false ∧ p = e.1 ++ [c] := by
  unfold bareB
  rw [List.any_eq_true]
  constructor
  · rintro ⟨e, he, h⟩
    rw [Bool.or_eq_true, Bool.and_eq_true, Bool.and_eq_true, Bool.not_eq_true', Bool.not_eq_true', decide_eq_true_eq, decide_eq_true_eq] at h
    rcases h with ⟨h1, h2⟩ | ⟨h1, h2⟩
    · exact ⟨e, he, false, h1, h2⟩
    · exact ⟨e, he, true, h1, h2⟩
  · rintro ⟨e, he, c, h1, h2⟩
    refine ⟨e, he, ?_⟩
    rw [Bool.or_eq_true, Bool.and_eq_true, Bool.and_eq_true, Bool.not_eq_true', Bool.not_eq_true', decide_eq_true_eq, decide_eq_true_eq]
    cases c
    · exact .inl ⟨h1, h2⟩
    · exact .inr ⟨h1, h2⟩
theorem full_iff : fullB L p = true ↔ p ≠ [] ∧ ∃ e ∈ L, ∃ c, ansE e c = true ∧ p <+: e.1 ++ [c] := by
  unfold fullB
  rw [Bool.and_eq_true, List.any_eq_true]
  refine and_congr (by cases p <;> simp) ⟨?_, ?_⟩
  · rintro ⟨e, he, h⟩
    rw [Bool.or_eq_true, Bool.and_eq_true, Bool.and_eq_true, decide_eq_true_eq, decide_eq_true_eq] at h
    rcases h with ⟨h1, h2⟩ | ⟨h1, h2⟩
    · exact ⟨e, he, false, h1, h2⟩
    · exact ⟨e, he, true, h1, h2⟩
  · rintro ⟨e, he, c, h1, h2⟩
    refine ⟨e, he, ?_⟩
    rw [Bool.or_eq_true, Bool.and_eq_true, Bool.and_eq_true, decide_eq_true_eq, decide_eq_true_eq]
    cases c
    · exact .inl ⟨h1, h2⟩
    · exact .inr ⟨h1, h2⟩
theorem bare_nil : bareB L [] = false := by
  cases e : bareB L [] with
  | false => rfl
  | true =>
    obtain ⟨e, _, c, _, h⟩ := bare_iff.mp e
    exact absurd h (by simp)
theorem full_pre (h : fullB L p = true) (hq : q <+: p) (hn : q ≠ []) : fullB L q = true := by
  obtain ⟨_, e, he, c, h1, h2⟩ := full_iff.mp h
  exact full_iff.mpr ⟨hn, e, he, c, h1, hq.trans h2⟩
theorem al_next (hq : q.length < w) (hb : bareB L q = false) : Al L w q x ↔ ∃ c, Al L w (q ++ [c]) x := by
  constructor
  · rintro ⟨h1, h2, h3⟩
    obtain ⟨r, rfl⟩ := h1
    cases r with
    | nil =>
      rw [List.append_nil] at h2
      omega
    | cons c r =>
      refine ⟨c, ⟨r, by simp⟩, h2, fun p hp hx => h3 p ((List.prefix_append _ _).trans hp) hx⟩
  · rintro ⟨c, h1, h2, h3⟩
    refine ⟨(List.prefix_append _ _).trans h1, h2, fun p hp hx => ?_⟩
    by_cases e : p = q
    · rw [e]
      exact hb
    · refine h3 p ?_ hx
      have hlt : q.length < p.length := by
        have := hp.length_le
        rcases Nat.lt_or_ge q.length p.length with h | h
        · exact h
        · exact absurd (List.IsPrefix.eq_of_length hp (by omega)).symm e
      have : (q ++ [c]).length ≤ p.length := by rw [List.length_append]; show q.length + 1 ≤ _; omega
      exact List.prefix_of_prefix_length_le h1 hx this
theorem al_apart (h1 : Al L w (q ++ [false]) x) (h2 : Al L w (q ++ [true]) y) : x ≠ y := by
  rintro rfl
  have := List.prefix_of_prefix_length_le h1.1 h2.1 (by simp)
  have := List.IsPrefix.eq_of_length this (by simp)
  have := List.append_cancel_left this
  simp at this
theorem al_free (hn : askedB L q = false) (hb : bareB L q = false) (h1 : q <+: x) (h2 : x.length = w) : Al L w q x := by
  refine ⟨h1, h2, fun p hp hx => ?_⟩
  cases hbp : bareB L p with
  | false => rfl
  | true =>
    obtain ⟨e, he, c, _, rfl⟩ := bare_iff.mp hbp
    rcases List.prefix_concat_iff.mp hp with h | h
    · rw [← h, hb] at hbp
      cases hbp
    · have : askedB L q = true := by
        unfold askedB
        rw [List.any_eq_true]
        exact ⟨e, he, decide_eq_true h⟩
      rw [hn] at this
      cases this
theorem cnt_sem (hl : ∀ e ∈ L, e.1.length < w) : ∀ {h : Nat} {q : Bits}, h + q.length = w → (cnt L h q = 0 → ∀ x, ¬ Al L w q x) ∧ (cnt L h q = 1 → ∃ x, Al L w q x ∧ ∀ y, Al L w q y → y = x) ∧ (cnt L h q = 2 → ∃ x y, x ≠ y ∧ Al L w q x ∧ Al L w q y)
  | 0, q, hh => by
    have hq : q.length = w := by omega
    unfold cnt
    cases hb : bareB L q with
    | true =>
      simp only [if_true]
      refine ⟨fun _ x hx => ?_, fun h => (by cases h), fun h => (by cases h)⟩
      have := hx.2.2 q (List.prefix_refl _) hx.1
      rw [hb] at this
      cases this
    | false =>
      simp only [Bool.false_eq_true, if_false]
      refine ⟨fun h => (by cases h), fun _ => ⟨q, ⟨List.prefix_refl _, hq, fun p h1 h2 => ?_⟩, fun y hy => ?_⟩, fun h => (by cases h)⟩
      · have := List.IsPrefix.eq_of_length h1 (by have := h1.length_le; have := h2.length_le; omega)
        rw [← this]
        exact hb
      · exact (List.IsPrefix.eq_of_length hy.1 (by rw [hq, hy.2.1])).symm
  | n + 1, q, hh => by
    have hn : ∀ c, n + (q ++ [c]).length = w := fun c => by
      rw [List.length_append]
      simp only [List.length_cons, List.length_nil]
      omega
    unfold cnt
    cases hb : bareB L q with
    | true =>
      simp only [if_true]
      refine ⟨fun _ x hx => ?_, fun h => (by cases h), fun h => (by cases h)⟩
      have := hx.2.2 q (List.prefix_refl _) hx.1
      rw [hb] at this
      cases this
    | false =>
      simp only [Bool.false_eq_true, if_false]
      have hnx := fun x => al_next (x := x) (show q.length < w by omega) hb
      cases ha : askedB L q with
      | false =>
        simp only [Bool.false_eq_true, if_false]
        refine ⟨fun h => (by cases h), fun h => (by cases h), fun _ => ⟨q ++ List.replicate (n + 1) false, q ++ List.replicate (n + 1) true, fun e => ?_, al_free ha hb (List.prefix_append _ _) (by simp; omega), al_free ha hb (List.prefix_append _ _) (by simp; omega)⟩⟩
        have := List.append_cancel_left e
        simp [List.replicate_succ] at this
      | true =>
        simp only [if_true]
        obtain ⟨a0, a1, a2⟩ := cnt_sem hl (hn false)
        obtain ⟨b0, b1, b2⟩ := cnt_sem hl (hn true)
        have l0 := cnt_le (L := L) (h := n) (q := q ++ [false])
        have l1 := cnt_le (L := L) (h := n) (q := q ++ [true])
        generalize cnt L n (q ++ [false]) = k0 at *
        generalize cnt L n (q ++ [true]) = k1 at *
        refine ⟨fun h x hx => ?_, fun h => ?_, fun h => ?_⟩
        · obtain ⟨c, hc⟩ := (hnx x).mp hx
          cases c
          · exact a0 (by omega) x hc
          · exact b0 (by omega) x hc
        · have : (k0 = 1 ∧ k1 = 0) ∨ (k0 = 0 ∧ k1 = 1) := by omega
          rcases this with ⟨rfl, rfl⟩ | ⟨rfl, rfl⟩
          · obtain ⟨x, hx, hu⟩ := a1 rfl
            refine ⟨x, (hnx x).mpr ⟨false, hx⟩, fun y hy => ?_⟩
            obtain ⟨c, hc⟩ := (hnx y).mp hy
            cases c
            · exact hu y hc
            · exact absurd hc (b0 rfl y)
          · obtain ⟨x, hx, hu⟩ := b1 rfl
            refine ⟨x, (hnx x).mpr ⟨true, hx⟩, fun y hy => ?_⟩
            obtain ⟨c, hc⟩ := (hnx y).mp hy
            cases c
            · exact absurd hc (a0 rfl y)
            · exact hu y hc
        · by_cases h0 : k0 = 2
          · obtain ⟨x, y, hne, hx, hy⟩ := a2 h0
            exact ⟨x, y, hne, (hnx x).mpr ⟨false, hx⟩, (hnx y).mpr ⟨false, hy⟩⟩
          · by_cases h1 : k1 = 2
            · obtain ⟨x, y, hne, hx, hy⟩ := b2 h1
              exact ⟨x, y, hne, (hnx x).mpr ⟨true, hx⟩, (hnx y).mpr ⟨true, hy⟩⟩
            · obtain ⟨x, hx, _⟩ := a1 (by omega)
              obtain ⟨y, hy, _⟩ := b1 (by omega)
              exact ⟨x, y, al_apart hx hy, (hnx x).mpr ⟨false, hx⟩, (hnx y).mpr ⟨true, hy⟩⟩
theorem cons_iff {X : Bits → Prop} : Cons L w X ↔ (∀ x, X x → Al L w [] x) ∧ ∀ q, fullB L q = true → ∃ x, X x ∧ q <+: x := by
  constructor
  · rintro ⟨h1, h2⟩
    refine ⟨fun x hx => ⟨List.nil_prefix, h1 x hx, fun p _ hp => ?_⟩, fun q hq => ?_⟩
    · cases hb : bareB L p with
      | false => rfl
      | true =>
        obtain ⟨e, he, c, ha, rfl⟩ := bare_iff.mp hb
        have := (h2 e he c).mpr ⟨x, hx, hp⟩
        rw [ha] at this
        cases this
    · obtain ⟨_, e, he, c, ha, hp⟩ := full_iff.mp hq
      obtain ⟨x, hx, hxp⟩ := (h2 e he c).mp ha
      exact ⟨x, hx, hp.trans hxp⟩
  · rintro ⟨h1, h2⟩
    refine ⟨fun x hx => (h1 x hx).2.1, fun e he c => ⟨fun ha => ?_, fun ⟨x, hx, hp⟩ => ?_⟩⟩
    · exact h2 _ (full_iff.mpr ⟨by simp, e, he, c, ha, List.prefix_refl _⟩)
    · cases ha : ansE e c with
      | true => rfl
      | false =>
        have := (h1 x hx).2.2 _ List.nil_prefix hp
        rw [bare_iff.mpr ⟨e, he, c, ha, rfl⟩] at this
        cases this
/-- where nothing is torn, what may hang below is not barred above -/
theorem al_root (hl : ∀ e ∈ L, e.1.length < w) (hT : TI L w [] = false) (hf : fullB L q = true) (hx : Al L w q x) : Al L w [] x := by
  refine ⟨List.nil_prefix, hx.2.1, fun p _ hp => ?_⟩
  rcases Nat.lt_or_ge p.length q.length with h | h
  · have hpq : p <+: q := List.prefix_of_prefix_length_le hp hx.1 (by omega)
    cases hb : bareB L p with
    | false => rfl
    | true =>
      have hn : p ≠ [] := fun e => by rw [e, bare_nil] at hb; cases hb
      have : TI L w [] = true := (torn_iff hl).mp ⟨p, full_pre hf hpq hn, by rw [cnt_cin, hb]; rfl⟩
      rw [hT] at this
      cases this
  · exact hx.2.2 p (List.prefix_of_prefix_length_le hx.1 hp h) hp
theorem blt_pre2 : ∀ {q x y : Bits}, q ++ [false] <+: x → q ++ [true] <+: y → blt x y = true
  | [], x, y, h1, h2 => by
    obtain ⟨r, rfl⟩ := h1
    obtain ⟨s, rfl⟩ := h2
    simp [blt]
  | a :: q, x, y, h1, h2 => by
    obtain ⟨r, rfl⟩ := h1
    obtain ⟨s, rfl⟩ := h2
    have := blt_pre2 (q := q) (List.prefix_append (q ++ [false]) r) (List.prefix_append (q ++ [true]) s)
    simpa [blt] using this
theorem frc_spec (hl : ∀ e ∈ L, e.1.length < w) : ∀ {h : Nat} {q : Bits} {f : Bool} {ns : List Bits}, h + q.length = w → frc L h q f = some ns → (∀ x, x ∈ ns ↔ Al L w q x) ∧ Rise ns ∧
    ∀ x ∈ ns, f = true ∨ ∃ p, q <+: p ∧ p <+: x ∧ fullB L p = true ∧ cnt L (w - p.length) p = 1 := by
  intro h
  induction h with
  | zero =>
    intro q f ns hh hf
    have hq : q.length = w := by omega
    rw [frc_fin] at hf
    by_cases h0 : cnt L 0 q = 0
    · rw [if_pos h0] at hf
      cases hf
      exact ⟨fun x => ⟨fun h => (by cases h), fun h => absurd h ((cnt_sem hl hh).1 h0 x)⟩, List.Pairwise.nil, fun x hx => (by cases hx)⟩
    · rw [if_neg h0] at hf
      have hb : bareB L q = false := by
        cases hb : bareB L q with
        | false => rfl
        | true => exact absurd (by rw [cnt_cin, hb]; rfl) h0
      have h1 : cnt L 0 q = 1 := by rw [cnt_cin, hb]; rfl
      have ez : ∀ f, fin_ L 0 q f = if f then some [q] else none := fun f => rfl
      rw [ez] at hf
      split at hf
      · rename_i hg
        cases hf
        obtain ⟨x0, hx0, hu⟩ := (cnt_sem hl hh).2.1 h1
        have e0 : x0 = q := (List.IsPrefix.eq_of_length hx0.1 (by rw [hq, hx0.2.1])).symm
        subst e0
        refine ⟨fun x => ⟨fun h => by rw [List.mem_singleton.mp h]; exact hx0, fun h => by rw [hu x h]; exact List.mem_singleton.mpr rfl⟩, List.pairwise_singleton _ _, fun x hx => ?_⟩
        rw [List.mem_singleton.mp hx]
        rw [Bool.or_eq_true, Bool.and_eq_true] at hg
        refine hg.imp id fun hg => ⟨x0, List.prefix_refl _, List.prefix_refl _, hg.2, ?_⟩
        rw [hq, Nat.sub_self]
        exact h1
      · cases hf
  | succ n ih =>
    intro q f ns hh hf
    have hn : ∀ c, n + (q ++ [c]).length = w := fun c => by
      rw [List.length_append]
      simp only [List.length_cons, List.length_nil]
      omega
    rw [frc_fin] at hf
    by_cases h0 : cnt L (n + 1) q = 0
    · rw [if_pos h0] at hf
      cases hf
      exact ⟨fun x => ⟨fun h => (by cases h), fun h => absurd h ((cnt_sem hl hh).1 h0 x)⟩, List.Pairwise.nil, fun x hx => (by cases hx)⟩
    · rw [if_neg h0, fin_succ] at hf
      have hb : bareB L q = false := by
        cases hb : bareB L q with
        | false => rfl
        | true => exact absurd (by rw [cnt_cin, hb]; rfl) h0
      split at hf
      · obtain ⟨g, hg⟩ : ∃ g, g = (f || (decide (cnt L (n + 1) q = 1) && fullB L q)) := ⟨_, rfl⟩
        rw [← hg] at hf
        cases e0 : frc L n (q ++ [false]) g with
        | none => rw [e0] at hf; cases hf
        | some v0 =>
          cases e1 : frc L n (q ++ [true]) g with
          | none => rw [e0, e1] at hf; cases hf
          | some v1 =>
            rw [e0, e1] at hf
            cases hf
            obtain ⟨a1, a2, a3⟩ := ih (hn false) e0
            obtain ⟨b1, b2, b3⟩ := ih (hn true) e1
            refine ⟨fun x => ?_, ?_, fun x hx => ?_⟩
            · rw [List.mem_append, a1, b1, al_next (by omega) hb]
              constructor
              · rintro (h | h)
                · exact ⟨_, h⟩
                · exact ⟨_, h⟩
              · rintro ⟨c, h⟩
                cases c
                · exact .inl h
                · exact .inr h
            · exact List.pairwise_append.mpr ⟨a2, b2, fun x hx y hy => blt_pre2 ((a1 x).mp hx).1 ((b1 y).mp hy).1⟩
            · have key : g = true ∨ ∃ p, q <+: p ∧ p <+: x ∧ fullB L p = true ∧ cnt L (w - p.length) p = 1 := by
                rcases List.mem_append.mp hx with h | h
                · exact (a3 x h).imp id fun ⟨p, h1, h2⟩ => ⟨p, (List.prefix_append _ _).trans h1, h2⟩
                · exact (b3 x h).imp id fun ⟨p, h1, h2⟩ => ⟨p, (List.prefix_append _ _).trans h1, h2⟩
              rcases key with h | h
              · rw [hg, Bool.or_eq_true, Bool.and_eq_true, decide_eq_true_eq] at h
                rcases h with h | h
                · exact .inl h
                · refine .inr ⟨q, List.prefix_refl _, ?_, h.2, ?_⟩
                  · rcases List.mem_append.mp hx with h | h
                    · exact (List.prefix_append _ _).trans ((a1 x).mp h).1
                    · exact (List.prefix_append _ _).trans ((b1 x).mp h).1
                  · rw [show w - q.length = n + 1 by omega]
                    exact h.1
              · exact .inr h
      · cases hf
theorem frc_loose (hl : ∀ e ∈ L, e.1.length < w) : ∀ {h : Nat} {q : Bits}, h + q.length = w → frc L h q false = none → ∃ x, Al L w q x ∧ ∀ p, q <+: p → p <+: x → fullB L p = true → ∃ y, y ≠ x ∧ Al L w p y := by
  intro h
  induction h with
  | zero =>
    intro q hh hf
    have hq : q.length = w := by omega
    rw [frc_fin] at hf
    by_cases h0 : cnt L 0 q = 0
    · rw [if_pos h0] at hf
      cases hf
    · rw [if_neg h0] at hf
      have h1 : cnt L 0 q = 1 := by
        have ec : cnt L 0 q = if bareB L q then 0 else 1 := rfl
        rw [ec] at h0 ⊢
        split at h0
        · exact absurd rfl h0
        · rename_i hb
          rw [if_neg hb]
      obtain ⟨x, hx, hu⟩ := (cnt_sem hl hh).2.1 h1
      refine ⟨x, hx, fun p hp hpx hfp => ?_⟩
      have e : p = q := (List.IsPrefix.eq_of_length hp (by have := hp.length_le; have := hpx.length_le; have := hx.2.1; omega)).symm
      rw [e] at hfp
      rw [hfp, decide_eq_true h1] at hf
      cases hf
  | succ n ih =>
    intro q hh hf
    have hn : ∀ c, n + (q ++ [c]).length = w := fun c => by
      rw [List.length_append]
      simp only [List.length_cons, List.length_nil]
      omega
    rw [frc_fin] at hf
    by_cases h0 : cnt L (n + 1) q = 0
    · rw [if_pos h0] at hf
      cases hf
    · rw [if_neg h0, Bool.false_or] at hf
      have hb : bareB L q = false := by
        cases hb : bareB L q with
        | false => rfl
        | true => exact absurd (by rw [cnt_cin, hb]; rfl) h0
      have hle := cnt_le (L := L) (h := n + 1) (q := q)
      have hg : (decide (cnt L (n + 1) q = 1) && fullB L q) = false := by
        cases hg : (decide (cnt L (n + 1) q = 1) && fullB L q) with
        | false => rfl
        | true =>
          rw [hg] at hf
          rw [Bool.and_eq_true, decide_eq_true_eq] at hg
          have h1 := hg.1
          rw [cnt_cin, hb] at h1
          have := fin_true (L := L) (h := n + 1) (q := q) h1
          rw [hf] at this
          cases this
      rw [hg] at hf
      have two : fullB L q = true → ∃ x y, x ≠ y ∧ Al L w q x ∧ Al L w q y := fun hfq => by
        rw [hfq, Bool.and_true, decide_eq_false_iff_not] at hg
        exact (cnt_sem hl hh).2.2 (by omega)
      have other : ∀ x, fullB L q = true → ∃ y, y ≠ x ∧ Al L w q y := fun x hfq => by
        obtain ⟨a, b, hab, ha, hb'⟩ := two hfq
        by_cases e : a = x
        · exact ⟨b, fun e2 => hab (by rw [e, e2]), hb'⟩
        · exact ⟨a, e, ha⟩
      have split_ : ∀ {p x : Bits}, q <+: p → p <+: x → p = q ∨ ∃ c, q ++ [c] <+: p := fun {p x} hp _ => by
        obtain ⟨r, rfl⟩ := hp
        cases r with
        | nil => exact .inl (List.append_nil q)
        | cons c r => exact .inr ⟨c, ⟨r, by simp⟩⟩
      rw [fin_succ] at hf
      cases ha : askedB L q with
      | false =>
        refine ⟨q ++ List.replicate (n + 1) false, al_free ha hb (List.prefix_append _ _) (by simp; omega), fun p hp hpx hfp => ?_⟩
        rcases split_ hp hpx with rfl | ⟨c, hc⟩
        · exact other _ hfp
        · have := full_asked (full_pre hfp hc (by simp))
          rw [ha] at this
          cases this
      | true =>
        rw [ha] at hf
        simp only [if_true] at hf
        obtain ⟨c, hc⟩ : ∃ c, frc L n (q ++ [c]) false = none := by
          cases e0 : frc L n (q ++ [false]) false with
          | none => exact ⟨false, e0⟩
          | some v0 =>
            cases e1 : frc L n (q ++ [true]) false with
            | none => exact ⟨true, e1⟩
            | some v1 => rw [e0, e1] at hf; cases hf
        obtain ⟨x, hx, hp2⟩ := ih (hn c) hc
        refine ⟨x, (al_next (by omega) hb).mpr ⟨c, hx⟩, fun p hp hpx hfp => ?_⟩
        rcases split_ hp hpx with rfl | ⟨d, hd⟩
        · exact other _ hfp
        · refine hp2 p ?_ hpx hfp
          exact List.prefix_of_prefix_length_le hx.1 hpx (by have := hd.length_le; simpa using this)
/-- what a paper shows, told of the sets that tell so -/
theorem shown_sem (hl : ∀ e ∈ L, e.1.length < w) : (TI L w [] = true → ∀ X, ¬ Cons L w X) ∧
    (∀ ns, TI L w [] = false → frc L w [] false = some ns → Rise ns ∧ Cons L w (· ∈ ns) ∧ ∀ X, Cons L w X → ∀ x, X x ↔ x ∈ ns) ∧
    (TI L w [] = false → frc L w [] false = none → ∃ (X Y : Bits → Prop) (x : Bits), Cons L w X ∧ Cons L w Y ∧ X x ∧ ¬ Y x) := by
  have hall : TI L w [] = false → Cons L w (Al L w []) := fun hT => cons_iff.mpr ⟨fun x hx => hx, fun q hq => by
    have h0 : cnt L (w - q.length) q ≠ 0 := fun h => by
      have := (torn_iff hl).mp ⟨q, hq, h⟩
      rw [hT] at this
      cases this
    have hw : w - q.length + q.length = w := by have := full_len hl hq; omega
    have hle := cnt_le (L := L) (h := w - q.length) (q := q)
    obtain ⟨_, s1, s2⟩ := cnt_sem hl hw
    have : ∃ x, Al L w q x := by
      by_cases h1 : cnt L (w - q.length) q = 1
      · obtain ⟨x, hx, _⟩ := s1 h1
        exact ⟨x, hx⟩
      · obtain ⟨x, _, _, hx, _⟩ := s2 (by omega)
        exact ⟨x, hx⟩
    obtain ⟨x, hx⟩ := this
    exact ⟨x, al_root hl hT hq hx, hx.1⟩⟩
  refine ⟨fun hT X hX => ?_, fun ns hT hf => ?_, fun hT hf => ?_⟩
  · obtain ⟨q, hq, h0⟩ := (torn_iff hl).mpr hT
    obtain ⟨h1, h2⟩ := cons_iff.mp hX
    obtain ⟨x, hx, hp⟩ := h2 q hq
    have hw : w - q.length + q.length = w := by have := full_len hl hq; omega
    exact (cnt_sem hl hw).1 h0 x ⟨hp, (h1 x hx).2.1, fun p _ hpx => (h1 x hx).2.2 p List.nil_prefix hpx⟩
  · obtain ⟨a1, a2, a3⟩ := frc_spec hl (by simp) hf
    have hA := hall hT
    have e : (fun x => x ∈ ns) = Al L w [] := funext fun x => propext (a1 x)
    refine ⟨a2, by rw [e]; exact hA, fun X hX x => ⟨fun hx => (a1 x).mpr ((cons_iff.mp hX).1 x hx), fun hx => ?_⟩⟩
    rcases a3 x hx with h | ⟨p, _, hpx, hfp, hc⟩
    · cases h
    · obtain ⟨h1, h2⟩ := cons_iff.mp hX
      obtain ⟨y, hy, hpy⟩ := h2 p hfp
      have hw : w - p.length + p.length = w := by have := full_len hl hfp; omega
      obtain ⟨z, _, hu⟩ := (cnt_sem hl hw).2.1 hc
      have hxa := (a1 x).mp hx
      have ex : x = z := hu x ⟨hpx, hxa.2.1, fun p' _ h => hxa.2.2 p' List.nil_prefix h⟩
      have ey : y = z := hu y ⟨hpy, (h1 y hy).2.1, fun p' _ h => (h1 y hy).2.2 p' List.nil_prefix h⟩
      rw [ex, ← ey]
      exact hy
  · obtain ⟨x, hx, hp⟩ := frc_loose hl (by simp) hf
    have hA := hall hT
    refine ⟨Al L w [], fun y => Al L w [] y ∧ y ≠ x, x, hA, cons_iff.mpr ⟨fun y hy => hy.1, fun q hq => ?_⟩, hx, fun h => h.2 rfl⟩
    obtain ⟨y, hy, hqy⟩ := (cons_iff.mp hA).2 q hq
    by_cases e : y = x
    · rw [e] at hqy
      obtain ⟨z, hz, hza⟩ := hp q List.nil_prefix hqy hq
      exact ⟨z, ⟨al_root hl hT hq hza, hz⟩, hza.1⟩
    · exact ⟨y, ⟨hy, e⟩, hqy⟩
end
end Lw
end

section
/-! the fewest looks; papers of walks on a still wire -/
namespace Lw
open PySem L2
/-- what a look at b tells of some numbers -/
def trL (S : List Bits) (b : Bits) : Look := (b, lookZ S b false, lookZ S b true)
def Tru (S : List Bits) (L : List Look) : Prop := ∀ e ∈ L, e = trL S e.1
/-- where fewest looks -/
def few (S : List Bits) (w : Nat) (b : Bits) : Bool := !(lookZ S b false && lookZ S b true) || decide (b.length + 1 = w)
section
variable {S : List Bits} {L : List Look} {w : Nat} {b x : Bits} {c : Bool}
theorem ans_tr : ansE (trL S b) c = lookZ S b c := by cases c <;> rfl
theorem cons_tru (hS : ∀ x ∈ S, x.length = w) (hT : Tru S L) : Cons L w (· ∈ S) := ⟨hS, fun e he c => by
  rw [hT e he, ans_tr]
  exact lookZ_ex⟩
theorem beg_pre {a b : Bits} (h : a <+: b) (hb : Beg S b) : Beg S a := by
  rcases hb with rfl | ⟨y, hy, hp⟩
  · exact .inl (List.prefix_nil.mp h)
  · exact .inr ⟨y, hy, h.trans hp⟩
theorem beg_look (h : lookZ S b c = true) : Beg S (b ++ [c]) := by
  obtain ⟨y, hy, hp⟩ := lookZ_ex.mp h
  exact .inr ⟨y, hy, hp⟩
theorem look_beg (h : Beg S (b ++ [c])) : lookZ S b c = true := by
  rcases h with h | ⟨y, hy, hp⟩
  · simp at h
  · exact lookZ_ex.mpr ⟨y, hy, hp⟩
/-- looks wherever fewest looks show just these -/
theorem few_uniq (hw : 1 ≤ w) (hS : ∀ x ∈ S, x.length = w) (hT : Tru S L) (hD : ∀ b, Beg S b → b.length < w → few S w b = true → ∃ e ∈ L, e.1 = b) {X : Bits → Prop} (hX : Cons L w X) (x : Bits) : X x ↔ x ∈ S := by
  obtain ⟨h1, h2⟩ := hX
  constructor
  · intro hx
    have hxl := h1 x hx
    refine Classical.byContradiction fun hn => ?_
    -- the longest beginning of x that some of S have
    have key : ∀ k, k ≤ w → Beg S (x.take k) := by
      intro k
      induction k with
      | zero => exact fun _ => .inl (by simp)
      | succ k ih =>
        intro hk
        have hb := ih (by omega)
        obtain ⟨c, hc⟩ : ∃ c, x.take (k + 1) = x.take k ++ [c] := ⟨x[k]'(by omega), by rw [List.take_succ, List.getElem?_eq_getElem (by omega)]; rfl⟩
        rw [hc]
        refine Classical.byContradiction fun hnb => ?_
        have hlk : lookZ S (x.take k) c = false := by
          cases e : lookZ S (x.take k) c with
          | false => rfl
          | true => exact absurd (beg_look e) hnb
        have hlen : (x.take k).length < w := by rw [List.length_take]; omega
        obtain ⟨e, he, heb⟩ := hD _ hb hlen (by unfold few; cases c <;> simp [hlk])
        have := (h2 e he c).mpr ⟨x, hx, by rw [heb, ← hc]; exact List.take_prefix _ _⟩
        rw [hT e he, ans_tr, heb, hlk] at this
        cases this
    have := key w (Nat.le_refl _)
    rw [List.take_of_length_le (by omega)] at this
    rcases this with h | ⟨y, hy, hp⟩
    · rw [h] at hxl
      simp at hxl
      omega
    · have := List.IsPrefix.eq_of_length hp (by rw [hxl, hS y hy])
      exact hn (this ▸ hy)
  · intro hx
    have hxl := hS x hx
    obtain ⟨c, hc⟩ : ∃ c, x = x.take (w - 1) ++ [c] := ⟨x[w - 1]'(by omega), by
      have : x.take (w - 1 + 1) = x.take (w - 1) ++ [x[w - 1]'(by omega)] := by rw [List.take_succ, List.getElem?_eq_getElem (by omega)]; rfl
      rw [← this, List.take_of_length_le (by omega)]⟩
    have hlen : (x.take (w - 1)).length = w - 1 := by rw [List.length_take]; omega
    have hbeg : Beg S (x.take (w - 1) ++ [c]) := by rw [← hc]; exact .inr ⟨x, hx, List.prefix_refl _⟩
    obtain ⟨e, he, heb⟩ := hD (x.take (w - 1)) (beg_pre (List.prefix_append _ _) hbeg) (by omega) (by unfold few; rw [hlen, decide_eq_true (by omega), Bool.or_true])
    obtain ⟨y, hy, hp⟩ := (h2 e he c).mp (by rw [hT e he, ans_tr, heb]; exact look_beg hbeg)
    rw [heb, ← hc] at hp
    have := List.IsPrefix.eq_of_length hp (by rw [hxl, h1 y hy])
    exact this ▸ hy
/-- none of these may be left out -/
theorem few_need (hw : 1 ≤ w) (hS : ∀ x ∈ S, x.length = w) (hT : Tru S L) (hL : ∀ e ∈ L, Beg S e.1 ∧ e.1.length < w) (hb : Beg S b) (hbl : b.length < w) (hbf : few S w b = true) (hn : ∀ e ∈ L, e.1 ≠ b) : ∃ X, Cons L w X ∧ ¬ ∀ x, X x ↔ x ∈ S := by
  have one : (∃ c, lookZ S b c = false) → ∃ X, Cons L w X ∧ ¬ ∀ x, X x ↔ x ∈ S := fun ⟨c, hc⟩ => by
    have hxl : (b ++ [c] ++ List.replicate (w - b.length - 1) false).length = w := by
      simp only [List.length_append, List.length_cons, List.length_nil, List.length_replicate]
      omega
    refine ⟨fun y => y ∈ S ∨ y = b ++ [c] ++ List.replicate (w - b.length - 1) false, ⟨fun y hy => ?_, fun e he d => ?_⟩, fun h => ?_⟩
    · rcases hy with hy | rfl
      · exact hS y hy
      · exact hxl
    · rw [hT e he, ans_tr]
      constructor
      · intro h
        obtain ⟨y, hy, hp⟩ := lookZ_ex.mp h
        exact ⟨y, .inl hy, hp⟩
      · rintro ⟨y, hy | rfl, hp⟩
        · exact lookZ_ex.mpr ⟨y, hy, hp⟩
        · have hp : e.1 ++ [d] <+: b ++ [c] ++ List.replicate (w - b.length - 1) false := hp
          have hbp : b <+: b ++ [c] ++ List.replicate (w - b.length - 1) false := by rw [List.append_assoc]; exact List.prefix_append _ _
          rcases Nat.lt_or_ge b.length (e.1 ++ [d]).length with h | h
          · have hbe : b <+: e.1 := by
              have h1 : b <+: e.1 ++ [d] := List.prefix_of_prefix_length_le hbp hp (by omega)
              rcases List.prefix_concat_iff.mp h1 with h1 | h1
              · rw [h1] at h
                omega
              · exact h1
            have hlt : b.length < e.1.length := by
              have := hbe.length_le
              rcases Nat.lt_or_ge b.length e.1.length with h | h
              · exact h
              · exact absurd (List.IsPrefix.eq_of_length hbe (by omega)).symm (hn e he)
            have hce : b ++ [c] <+: e.1 := List.prefix_of_prefix_length_le (List.prefix_append _ _) ((List.prefix_append _ _).trans hp) (by rw [List.length_append]; show b.length + 1 ≤ _; omega)
            have := look_beg (beg_pre hce (hL e he).1)
            rw [hc] at this
            cases this
          · exact look_beg (beg_pre (List.prefix_of_prefix_length_le hp hbp h) hb)
    · have := (h _).mp (.inr rfl)
      have h2 : lookZ S b c = true := lookZ_ex.mpr ⟨_, this, List.prefix_append _ _⟩
      rw [hc] at h2
      cases h2
  cases h0 : lookZ S b false with
  | false => exact one ⟨false, h0⟩
  | true =>
    cases h1 : lookZ S b true with
    | false => exact one ⟨true, h1⟩
    | true =>
      have hl : b.length + 1 = w := by
        unfold few at hbf
        rw [h0, h1] at hbf
        simpa using hbf
      have mem : ∀ c, lookZ S b c = true → b ++ [c] ∈ S := fun c hc => by
        obtain ⟨y, hy, hp⟩ := lookZ_ex.mp hc
        have := List.IsPrefix.eq_of_length hp (by rw [hS y hy, List.length_append]; exact hl)
        exact this ▸ hy
      refine ⟨fun y => y ∈ S ∧ y ≠ b ++ [false], ⟨fun y hy => hS y hy.1, fun e he d => ?_⟩, fun h => ((h _).mpr (mem false h0)).2 rfl⟩
      rw [hT e he, ans_tr]
      constructor
      · intro h
        obtain ⟨y, hy, hp⟩ := lookZ_ex.mp h
        by_cases hy2 : y = b ++ [false]
        · refine ⟨b ++ [true], ⟨mem true h1, by simp⟩, ?_⟩
          rw [hy2] at hp
          have hlt : e.1.length < b.length := by
            have h3 := hp.length_le
            rw [List.length_append, List.length_append] at h3
            simp only [List.length_cons, List.length_nil] at h3
            rcases Nat.lt_or_ge e.1.length b.length with h | h
            · exact h
            · have : e.1 = b := by
                have h4 : e.1 ++ [d] = b ++ [false] := List.IsPrefix.eq_of_length hp (by rw [List.length_append, List.length_append]; simp only [List.length_cons, List.length_nil]; omega)
                exact (List.append_inj' h4 rfl).1
              exact absurd this (hn e he)
          have : e.1 ++ [d] <+: b := List.prefix_of_prefix_length_le hp (List.prefix_append _ _) (by rw [List.length_append]; show e.1.length + 1 ≤ _; omega)
          exact this.trans (List.prefix_append _ _)
        · exact ⟨y, ⟨hy, hy2⟩, hp⟩
      · rintro ⟨y, ⟨hy, _⟩, hp⟩
        exact lookZ_ex.mpr ⟨y, hy, hp⟩
/-! ### what shown tells -/
theorem show_one (hw : 1 ≤ w) (hS : ∀ x ∈ S, x.length = w) (hR : Rise S) (hT : Tru S L) (hl : ∀ e ∈ L, e.1.length < w) (hD : ∀ b, Beg S b → b.length < w → few S w b = true → ∃ e ∈ L, e.1 = b) : TI L w [] = false ∧ frc L w [] false = some S := by
  obtain ⟨s1, s2, s3⟩ := shown_sem hl
  have hc := cons_tru hS hT
  have hTI : TI L w [] = false := by
    cases e : TI L w [] with
    | false => rfl
    | true => exact absurd hc (s1 e _)
  refine ⟨hTI, ?_⟩
  cases e : frc L w [] false with
  | none =>
    obtain ⟨X, Y, x, hX, hY, hx, hy⟩ := s3 hTI e
    exact absurd ((few_uniq hw hS hT hD hY x).mpr ((few_uniq hw hS hT hD hX x).mp hx)) hy
  | some ns =>
    obtain ⟨r1, r2, _⟩ := s2 ns hTI e
    rw [rise_ext r1 hR fun x => few_uniq hw hS hT hD r2 x]
theorem show_more (hw : 1 ≤ w) (hS : ∀ x ∈ S, x.length = w) (hT : Tru S L) (hL : ∀ e ∈ L, Beg S e.1 ∧ e.1.length < w) (hb : Beg S b) (hbl : b.length < w) (hbf : few S w b = true) (hn : ∀ e ∈ L, e.1 ≠ b) : TI L w [] = false ∧ frc L w [] false = none := by
  obtain ⟨s1, s2, s3⟩ := shown_sem (L := L) (w := w) fun e he => (hL e he).2
  have hc := cons_tru hS hT
  have hTI : TI L w [] = false := by
    cases e : TI L w [] with
    | false => rfl
    | true => exact absurd hc (s1 e _)
  refine ⟨hTI, ?_⟩
  cases e : frc L w [] false with
  | none => rfl
  | some ns =>
    obtain ⟨_, _, hu⟩ := s2 ns hTI e
    obtain ⟨X, hX, hne⟩ := few_need hw hS hT hL hb hbl hbf hn
    exact absurd (fun x => (hu X hX x).trans (hu _ hc x).symm) hne
theorem show_not (hl : ∀ e ∈ L, e.1.length < w) {e : Look} (he : e ∈ L) (hn : e ≠ trL S e.1) : ¬ (TI L w [] = false ∧ frc L w [] false = some S) := by
  rintro ⟨hT, hf⟩
  obtain ⟨_, s2, _⟩ := shown_sem hl
  obtain ⟨_, ⟨_, r2⟩, _⟩ := s2 S hT hf
  have key : ∀ c, ansE e c = lookZ S e.1 c := fun c => by
    rw [Bool.eq_iff_iff, r2 e he c]
    exact lookZ_ex.symm
  refine hn ?_
  have a := key false
  have b := key true
  obtain ⟨b1, z, o⟩ := e
  simp only [ansE, Bool.false_eq_true, if_false, if_true] at a b
  unfold trL
  simp only
  rw [← a, ← b]
end
/-! ### a walk's paper tells true on a still wire -/
end Lw
namespace Lw
open PySem L2
/-! how many beginnings -/
theorem beg_many {ls us : List Bits} {n : Nat} (hl : ls.length ≤ 40) (hn : n ≤ 12) (hu : us.Nodup) (h : ∀ b ∈ us, Beg ls b ∧ b.length < n) : us.length ≤ 481 := by
  have h1 := nodup_le us ([] :: ls.flatMap fun x => (List.range n).map fun k => x.take k) hu fun b hb => by
    obtain ⟨h1, h2⟩ := h b hb
    rcases h1 with rfl | ⟨x, hx, hp⟩
    · exact List.mem_cons_self
    · refine List.mem_cons_of_mem _ (List.mem_flatMap.mpr ⟨x, hx, List.mem_map.mpr ⟨b.length, List.mem_range.mpr h2, ?_⟩⟩)
      exact (List.prefix_iff_eq_take.mp hp).symm
  rw [List.length_cons, List.length_flatMap] at h1
  have h2 : (ls.map fun x => ((List.range n).map fun k => x.take k).length).sum ≤ ls.length * 12 := by
    clear h1 h hl
    induction ls with
    | nil => simp
    | cons x ls ih =>
      simp only [List.map_cons, List.sum_cons, List.length_cons, List.length_map, List.length_range] at ih ⊢
      omega
  omega
theorem few_ne {S : List Bits} {w : Nat} (hw : 1 ≤ w) (hS : ∀ x ∈ S, x.length = w) : ∃ b, Beg S b ∧ b.length < w ∧ few S w b = true := by
  cases S with
  | nil => exact ⟨[], .inl rfl, by show 0 < w; omega, by simp [few, lookZ]⟩
  | cons x S =>
    have hx := hS x (by simp)
    have hl : (x.take (w - 1)).length = w - 1 := by rw [List.length_take]; omega
    exact ⟨x.take (w - 1), .inr ⟨x, by simp, List.take_prefix _ _⟩, by omega, by unfold few; rw [hl, decide_eq_true (by omega), Bool.or_true]⟩
/-- two bits, told as such a tuple -/
def bbD (p : Bool × Bool) : PyData := .tuple [.bool p.1, .bool p.2]
theorem nice_bb : Nice bbD 1 := nice_tup2 nice_bool nice_bool
end Lw
namespace Lw
open PySem L2
theorem paired_append {α β : Type} {r : α → β → Prop} {l2 : List α} {m2 : List β} (h2 : Paired r l2 m2) : ∀ {l : List α} {m : List β}, Paired r l m → Paired r (l ++ l2) (m ++ m2)
  | _, _, .nil => h2
  | _, _, .cons a h => .cons a (paired_append h2 h)
/-- one set is shown -/
def oneD (ns : List Bits) : PyData := .tuple [.str "one", .list (ns.map db)]
/-- looks just where fewest looks -/
structure FL (S : List Bits) (w : Nat) (fs : List Bits) (L : List Look) : Prop where
  hw : 1 ≤ w
  hS : ∀ x ∈ S, x.length = w
  tr : Tru S L
  nd : (L.map (·.1)).Nodup
  me : ∀ b, b ∈ L.map (·.1) ↔ b ∈ fs
  fm : ∀ b, b ∈ fs ↔ (Beg S b ∧ b.length < w) ∧ few S w b = true
section
variable {S fs : List Bits} {w : Nat} {L : List Look}
theorem FL.at (h : FL S w fs L) {e : Look} (he : e ∈ L) : (Beg S e.1 ∧ e.1.length < w) ∧ few S w e.1 = true := (h.fm _).mp ((h.me _).mp (List.mem_map_of_mem he))
theorem FL.one (h : FL S w fs L) (hR : Rise S) : TI L w [] = false ∧ frc L w [] false = some S := show_one h.hw h.hS hR h.tr (fun e he => (h.at he).1.2) fun b h1 h2 h3 => by
  obtain ⟨e, he, e1⟩ := List.mem_map.mp ((h.me b).mpr ((h.fm b).mpr ⟨⟨h1, h2⟩, h3⟩))
  exact ⟨e, he, e1⟩
theorem mem_cut {α : Type} {L : List α} {k : Nat} {e : α} (h : e ∈ L.take k ++ L.drop (k + 1)) : e ∈ L := (List.mem_append.mp h).elim List.mem_of_mem_take List.mem_of_mem_drop
theorem FL.more (h : FL S w fs L) {k : Nat} {e : Look} (he : L[k]? = some e) : TI (L.take k ++ L.drop (k + 1)) w [] = false ∧ frc (L.take k ++ L.drop (k + 1)) w [] false = none := by
  have hk := (List.getElem?_eq_some_iff.mp he).1
  have hm := List.mem_of_getElem? he
  obtain ⟨⟨a1, a2⟩, a3⟩ := h.at hm
  refine show_more h.hw h.hS (fun x hx => h.tr x (mem_cut hx)) (fun x hx => (h.at (mem_cut hx)).1) a1 a2 a3 fun x hx hxe => ?_
  have hnd := h.nd
  have hL : L = L.take k ++ e :: L.drop (k + 1) := by
    conv => lhs; rw [← List.take_append_drop k L]
    rw [List.drop_eq_getElem_cons hk, (List.getElem?_eq_some_iff.mp he).2]
  rw [hL, List.map_append, List.map_cons] at hnd
  obtain ⟨_, n2, n3⟩ := List.nodup_append.mp hnd
  rcases List.mem_append.mp hx with hx | hx
  · exact n3 x.1 (List.mem_map_of_mem hx) e.1 (by simp) hxe
  · exact (List.nodup_cons.mp n2).1 (hxe ▸ List.mem_map_of_mem hx)
theorem FL.other (h : FL S w fs L) {k : Nat} {e e2 : Look} (he : L[k]? = some e) (hb : e2.1 = e.1) (hn : e2 ≠ e) : ¬ (TI (L.take k ++ [e2] ++ L.drop (k + 1)) w [] = false ∧ frc (L.take k ++ [e2] ++ L.drop (k + 1)) w [] false = some S) := by
  have hm := List.mem_of_getElem? he
  refine show_not (e := e2) (fun x hx => ?_) (by simp) fun q => hn ?_
  · rw [List.append_assoc] at hx
    rcases List.mem_append.mp hx with hx | hx
    · exact (h.at (List.mem_of_mem_take hx)).1.2
    · rcases List.mem_append.mp hx with hx | hx
      · rw [List.mem_singleton.mp hx, hb]
        exact (h.at hm).1.2
      · exact (h.at (List.mem_of_mem_drop hx)).1.2
  · rw [q, h.tr e hm, hb]
/-- the looks of a walk's paper that fewest tells -/
theorem FL.of {L0 : List Look} (hw : 1 ≤ w) (hS : ∀ x ∈ S, x.length = w) (ht : Tru S L0) (hnd : (L0.map (·.1)).Nodup) (hm : ∀ b, b ∈ L0.map (·.1) ↔ Beg S b ∧ b.length < w) (fm : ∀ b, b ∈ fs ↔ (Beg S b ∧ b.length < w) ∧ few S w b = true) :
    FL S w fs (L0.filter fun e => decide (e.1 ∈ fs)) where
  hw := hw
  hS := hS
  tr := fun e he => ht e (List.mem_filter.mp he).1
  nd := hnd.sublist (List.Sublist.map _ List.filter_sublist)
  me := fun b => by
    rw [List.mem_map]
    constructor
    · rintro ⟨e, he, rfl⟩
      exact of_decide_eq_true (List.mem_filter.mp he).2
    · intro hb
      obtain ⟨e, he, e1⟩ := List.mem_map.mp ((hm b).mpr ((fm b).mp hb).1)
      exact ⟨e, List.mem_filter.mpr ⟨he, decide_eq_true (e1 ▸ hb)⟩, e1⟩
  fm := fm
theorem FL.pos (h : FL S w fs L) : 0 < L.length := by
  obtain ⟨b, h1, h2, h3⟩ := few_ne h.hw h.hS
  obtain ⟨e, he, _⟩ := List.mem_map.mp ((h.me b).mpr ((h.fm b).mpr ⟨⟨h1, h2⟩, h3⟩))
  exact List.length_pos_of_mem he
theorem FL.fst (h : FL S w fs L) (hf : Rise fs) {ms : List Bits} (hr : Rise ms) (hp : ms.Perm (L.map (·.1))) : ms = fs := rise_ext hr hf fun b => by rw [hp.mem_iff, h.me b]
end
end Lw
end

section
/-! rows of texts of bits: all of them, their order, sorted -/
namespace Lw
open PySem PySem.Spec PyProof.Rows L2
/-! ### all rows of some -/
def subs (E : List Bits) : List (List Bits) := E.foldl (fun f n => f ++ f.map fun s => s ++ [n]) [[]]
theorem subs_snoc (E : List Bits) (n : Bits) : subs (E ++ [n]) = subs E ++ (subs E).map fun s => s ++ [n] := by unfold subs; rw [List.foldl_append]; rfl
theorem snoc_ind {α : Type} {p : List α → Prop} (h0 : p []) (hs : ∀ l x, p l → p (l ++ [x])) : ∀ l, p l := fun l => by
  have : ∀ m : List α, p m.reverse := fun m => by
    induction m with
    | nil => exact h0
    | cons x m ih => rw [List.reverse_cons]; exact hs _ _ ih
  have q := this l.reverse
  rwa [List.reverse_reverse] at q
theorem mem_subs : ∀ {E : List Bits} {S : List Bits}, S ∈ subs E ↔ S.Sublist E := fun {E} => by
  induction E using snoc_ind with
  | h0 =>
    intro S
    show S ∈ [[]] ↔ _
    rw [List.mem_singleton, List.sublist_nil]
  | hs E n ih =>
    intro S
    rw [subs_snoc, List.mem_append, List.mem_map, List.sublist_append_iff]
    constructor
    · rintro (h | ⟨s, h, rfl⟩)
      · exact ⟨S, [], (List.append_nil S).symm, ih.mp h, List.nil_sublist _⟩
      · exact ⟨s, [n], rfl, ih.mp h, List.Sublist.refl _⟩
    · rintro ⟨a, b, rfl, ha, hb⟩
      cases b with
      | nil =>
        rw [List.append_nil]
        exact .inl (ih.mpr ha)
      | cons x b =>
        have h1 := hb.length_le
        have h2 : b = [] := by
          simp only [List.length_cons, List.length_nil] at h1
          exact List.length_eq_zero_iff.mp (by omega)
        subst h2
        have h3 : x ∈ [n] := hb.subset (by simp)
        rw [List.mem_singleton.mp h3]
        exact .inr ⟨a, ih.mpr ha, rfl⟩
theorem subs_len : ∀ {E : List Bits}, (subs E).length = 2 ^ E.length := fun {E} => by
  induction E using snoc_ind with
  | h0 => rfl
  | hs E n ih =>
    rw [subs_snoc, List.length_append, List.length_map, ih, List.length_append]
    show _ = 2 ^ (E.length + 1)
    rw [Nat.pow_succ]
    omega
theorem subs_nodup : ∀ {E : List Bits}, E.Nodup → (subs E).Nodup := fun {E} => by
  induction E using snoc_ind with
  | h0 => intro _; exact List.nodup_cons.mpr ⟨by simp, List.nodup_nil⟩
  | hs E n ih =>
    intro h
    obtain ⟨h1, _, h3⟩ := List.nodup_append.mp h
    rw [subs_snoc]
    refine List.nodup_append.mpr ⟨ih h1, ?_, fun s hs t ht e => ?_⟩
    · exact List.Pairwise.map _ (fun a b (hab : a ≠ b) (e : a ++ [n] = b ++ [n]) => hab (List.append_cancel_right e)) (ih h1)
    · obtain ⟨u, _, rfl⟩ := List.mem_map.mp ht
      have hn : n ∈ E := (mem_subs.mp hs).subset (by rw [e]; simp)
      exact h3 n hn n (by simp) rfl
theorem subs_head : ∀ (E : List Bits) {S : List Bits} {r : List (List Bits)}, subs E = S :: r → S = [] := fun E => by
  induction E using snoc_ind with
  | h0 => intro S r h; exact (List.cons.inj h).1.symm
  | hs E n ih =>
    intro S r h
    rw [subs_snoc] at h
    cases e : subs E with
    | nil =>
      have := subs_len (E := E)
      rw [e] at this
      have := Nat.two_pow_pos E.length
      simp at *
      omega
    | cons T t =>
      rw [e] at h
      rw [← (List.cons.inj h).1]
      exact ih e
/-! ### their order -/
def slt : List Bits → List Bits → Bool
  | [], [] => false
  | [], _ :: _ => true
  | _ :: _, [] => false
  | x :: xs, y :: ys => if x = y then slt xs ys else blt x y
def rowD (S : List Bits) : PyData := .list (S.map db)
def tupD (S : List Bits) : PyData := .tuple (S.map db)
theorem alike_db : ∀ S T : List Bits, PySem.W.alikeAll (S.map db) (T.map db) = true
  | [], _ => by cases ‹List Bits› <;> rfl
  | _ :: _, [] => rfl
  | x :: S, y :: T => by
    show (true && PySem.W.alikeAll (S.map db) (T.map db)) = true
    rw [alike_db S T]
    rfl
theorem rowLt_bits : ∀ S T : List Bits, PySem.W.rowLt (S.map db) (T.map db) = slt S T
  | [], [] => PyProof.Rows.lex_irrefl (O := PyProof.Rows.itemOrd) _
  | [], y :: T => by
    show PyProof.Rows.lexLt PyProof.Rows.itemOrd (.inl 0 :: []) (.inl 1 :: (PySem.W.keyToks (db y) ++ PySem.W.keyToksAll (T.map db))) = true
    rw [PyProof.Rows.lex_diff (O := PyProof.Rows.itemOrd) (show (Sum.inl 0 : Int ⊕ List Nat) ≠ .inl 1 by intro h; cases h)]
    rfl
  | x :: S, [] => by
    show PyProof.Rows.lexLt PyProof.Rows.itemOrd (.inl 1 :: (PySem.W.keyToks (db x) ++ PySem.W.keyToksAll (S.map db))) (.inl 0 :: []) = false
    rw [PyProof.Rows.lex_diff (O := PyProof.Rows.itemOrd) (show (Sum.inl 1 : Int ⊕ List Nat) ≠ .inl 0 by intro h; cases h)]
    rfl
  | x :: S, y :: T => by
    show PyProof.Rows.lexLt PyProof.Rows.itemOrd (PySem.W.keyToksAll (db x :: S.map db)) (PySem.W.keyToksAll (db y :: T.map db)) = _
    rw [PySem.W.dataLt_cons (show PySem.W.alike (db x) (db y) = true from rfl), nice_bits.eq, PySem.W.dataLt_str, B_list, B_list]
    unfold slt
    by_cases h : x = y
    · rw [if_pos (decide_eq_true h), if_pos h]
      exact rowLt_bits S T
    · rw [decide_eq_false h, if_neg Bool.false_ne_true, if_neg h, ← blt_cps, ltCps_eq]
theorem dataLt_row (S T : List Bits) : PySem.W.dataLt (rowD S) (rowD T) = slt S T := rowLt_bits S T
theorem dataLt_tup (S T : List Bits) : PySem.W.dataLt (tupD S) (tupD T) = slt S T := rowLt_bits S T
theorem slt_irr (S : List Bits) : slt S S = false := by rw [← rowLt_bits]; exact PyProof.Rows.lex_irrefl (O := PyProof.Rows.itemOrd) _
theorem slt_tri {S T : List Bits} (h1 : slt S T = false) (h2 : slt T S = false) : S = T := by
  induction S generalizing T with
  | nil => cases T with
    | nil => rfl
    | cons y T => cases h1
  | cons x S ih => cases T with
    | nil => cases h2
    | cons y T =>
      unfold slt at h1 h2
      by_cases e : x = y
      · rw [if_pos e] at h1
        rw [if_pos e.symm] at h2
        rw [e, ih h1 h2]
      · rw [if_neg e] at h1
        rw [if_neg (Ne.symm e)] at h2
        exact absurd (blt_of_not h2 e) (by rw [h1]; decide)
theorem slt_trans {S T U : List Bits} (h1 : slt S T = true) (h2 : slt T U = true) : slt S U = true := by
  rw [← rowLt_bits] at h1 h2 ⊢
  exact PyProof.Rows.lex_trans (O := PyProof.Rows.itemOrd) _ _ _ h1 h2
theorem slt_neg {S T U : List Bits} (h : slt S U = true) : slt S T = true ∨ slt T U = true := by
  rw [← rowLt_bits] at h
  rw [← rowLt_bits, ← rowLt_bits]
  exact PyProof.Rows.lex_negTrans (O := PyProof.Rows.itemOrd) _ _ _ h
theorem slt_asym {S T : List Bits} (h : slt S T = true) : slt T S = false := by
  cases e : slt T S with
  | false => rfl
  | true => exact absurd (slt_trans h e) (by rw [slt_irr]; decide)
abbrev RiseS (Ss : List (List Bits)) : Prop := Ss.Pairwise fun a b => slt a b = true
theorem riseS_of {Ss : List (List Bits)} (h : Ss.Pairwise fun a b => slt b a = false) (nd : Ss.Nodup) : RiseS Ss := by
  refine (h.and nd).imp fun {a b} ⟨h1, h2⟩ => ?_
  cases e : slt a b with
  | true => rfl
  | false => exact absurd (slt_tri e h1) h2
theorem riseS_ext : ∀ {a b : List (List Bits)}, RiseS a → RiseS b → (∀ x, x ∈ a ↔ x ∈ b) → a = b
  | [], [], _, _, _ => rfl
  | [], y :: b, _, _, h => absurd ((h y).mpr (by simp)) (by simp)
  | x :: a, [], _, _, h => absurd ((h x).mp (by simp)) (by simp)
  | x :: a, y :: b, ha, hb, h => by
    obtain ⟨a1, a2⟩ := List.pairwise_cons.mp ha
    obtain ⟨b1, b2⟩ := List.pairwise_cons.mp hb
    have e : x = y := by
      rcases List.mem_cons.mp ((h x).mp (by simp)) with e | hx
      · exact e
      · rcases List.mem_cons.mp ((h y).mpr (by simp)) with e | hy
        · exact e.symm
        · exact absurd (slt_trans (a1 y hy) (b1 x hx)) (by rw [slt_irr]; decide)
    subst e
    rw [riseS_ext a2 b2 fun z => ?_]
    constructor
    · intro hz
      rcases List.mem_cons.mp ((h z).mp (List.mem_cons_of_mem _ hz)) with e | hz2
      · subst e
        exact absurd (a1 z hz) (by rw [slt_irr]; decide)
      · exact hz2
    · intro hz
      rcases List.mem_cons.mp ((h z).mpr (List.mem_cons_of_mem _ hz)) with e | hz2
      · subst e
        exact absurd (b1 z hz) (by rw [slt_irr]; decide)
      · exact hz2
theorem riseS_nodup {Ss : List (List Bits)} (h : RiseS Ss) : Ss.Nodup := h.imp fun {a b} h e => by
  rw [e, slt_irr] at h
  cases h
/-! ### sorted of rows that stand -/
abbrev Row1 := Addr × List Bits
def rSortR (K : PySem.W.Frag) : List V → Hp → VK → Prop := fun vs H Q => ∃ (a : Addr) (bs : List Row1), vs = [.ref a] ∧ SqL K H a (bs.map fun b => V.ref b.1) ∧ (∀ b ∈ bs, SqL K H b.1 (bvs b.2)) ∧
  ∀ (cs : List Row1) (p : Addr), cs.Perm bs → cs.Pairwise (fun b c => slt c.2 b.2 = false) → H p = none → Q (.ref p) (upd H p (.lst (cs.map fun b => V.ref b.1)))
theorem dataLe_rows1 : PySem.W.dataLe false (fun b : Row1 => rowD b.2) = fun a b => !slt b.2 a.2 := by
  rw [PySem.W.dataLe_eq]
  funext a b
  show (!PySem.W.dataLt (rowD b.2) (rowD a.2)) = _
  rw [dataLt_row]
theorem le_sorted (bs : List Row1) : (bs.mergeSort fun a b => !slt b.2 a.2).Pairwise fun b c => slt c.2 b.2 = false := by
  refine (List.pairwise_mergeSort (le := fun a b : Row1 => !slt b.2 a.2) (fun a b c h1 h2 => ?_) (fun a b => ?_) bs).imp fun {a b} h => by simpa using h
  · simp only [Bool.not_eq_true'] at h1 h2 ⊢
    cases e : slt c.2 a.2 with
    | false => rfl
    | true => rcases slt_neg (T := b.2) e with q | q
              · rw [h2] at q; cases q
              · rw [h1] at q; cases q
  · cases e : slt b.2 a.2 with
    | false => rfl
    | true => rw [slt_asym e]; rfl
theorem vals_each {bs : List Row1} : ∀ {us : List Value}, Vals (bs.map fun b => V.ref b.1) us → PySem.W.EachIs (fun v (b : Row1) => v = Value.ref b.1) us bs := fun {us} h => by
  induction bs generalizing us with
  | nil => cases h; exact .nil
  | cons b bs ih =>
    cases h with
    | cons r h => exact .cons r (ih h)
theorem each_vals {bs : List Row1} : ∀ {us : List Value}, PySem.W.EachIs (fun v (b : Row1) => v = Value.ref b.1) us bs → Vals (bs.map fun b => V.ref b.1) us := fun {us} h => by
  induction bs generalizing us with
  | nil => cases h; exact .nil
  | cons b bs ih =>
    cases h with
    | cons r h => exact .cons r (ih h)
theorem each_and {α β : Type} {R : α → β → Prop} {p : β → Prop} : ∀ {as : List α} {bs : List β}, PySem.W.EachIs R as bs → (∀ b ∈ bs, p b) → PySem.W.EachIs (fun a b => R a b ∧ p b) as bs
  | _, _, .nil, _ => .nil
  | _, _, .cons r h, q => .cons ⟨r, q _ (by simp)⟩ (each_and h fun b hb => q b (List.mem_cons_of_mem _ hb))
theorem cr_sortR {X : Cx} (hu : X.A.units + 65 < cLine) : CallR X (.builtin "sorted") (rSortR X.K) := by
  intro pins s σ H vs us Q I r h
  obtain ⟨a, bs, rfl, hs, hb, q⟩ := h
  obtain ⟨its, rv, hl, hz⟩ := I.list hs
  rw [Vals.ref1 r]
  have e := vals_each rv
  have er : PySem.W.EachIs (fun v (b : Row1) => ∃ as, Reads s.heap v (rowD b.2) as) its bs := (each_and (p := fun b : Row1 => SqL X.K H b.1 (bvs b.2)) e hb).mono fun v b ⟨e1, e2⟩ => Dp.reads I (rowD b.2) (.ref b.1) v (dp_bits e2) e1
  have hzb : bs.length ≤ sizeLine := by rw [List.length_map] at hz; exact hz
  refine PySem.W.sorted_data hl.isList e er (PySem.W.AllAlike.of fun b c => alike_db b.2 c.2) (PySem.W.Sortable.others fun b => ⟨by simp [rowD], by simp [rowD]⟩) hzb (fun b _ => ?_) fun out hlo eo => ?_
  · have hd : (rowD b.2).depth ≤ 1 := (nice_list nice_bits).dep b.2
    omega
  · rw [dataLe_rows1] at eo
    obtain ⟨ep, hat⟩ := PyProof.Rows.sortedAll_at s.heap its out.toArray
    have hp := List.mergeSort_perm bs fun a b : Row1 => !slt b.2 a.2
    refine ⟨.ref _, upd H (s.heap.objs.size + 1) (.lst ((bs.mergeSort fun a b : Row1 => !slt b.2 a.2).map fun b => V.ref b.1)), I.laid (t' := s.toks) (fun _ _ => PyProof.Rows.sortedAll_old) (Nat.le_succ _) ⟨?_, out, ep, each_vals eo, hat⟩, rfl, q _ _ hp (le_sorted bs) (I.hok.fresh (Nat.le_succ _))⟩
    rw [List.length_map, hp.length_eq]
    exact hzb
theorem cSortR {X : Cx} {K : PySem.W.Frag} (h : X.K = K) (hu : X.A.units + 65 < cLine) : CallR X (.builtin "sorted") (rSortR K) := h ▸ cr_sortR hu
/-- rows at places -/
def RowsAt (H : Hp) (ps : List Addr) (Ss : List (List Bits)) : Prop := Paired (fun p S => H p = some (.lst (bvs S))) ps Ss
theorem RowsAt.ext {H H' : Hp} {ps : List Addr} {Ss : List (List Bits)} (h : RowsAt H ps Ss) (e : Ext H H') : RowsAt H' ps Ss := paired_mono (fun p S h => e.st _ _ h (nsh_bvs _)) h
theorem rows_upd {H : Hp} {D : Addr} {o : HO} : ∀ {ps : List Addr} {Ss : List (List Bits)}, RowsAt H ps Ss → (∀ a ∈ ps, a ≠ D) → RowsAt (upd H D o) ps Ss
  | _, _, .nil, _ => .nil
  | _, _, .cons a h, n => .cons ((upd_ne (n _ (by simp))).trans a) (rows_upd h fun b hb => n b (List.mem_cons_of_mem _ hb))
theorem rows_zip : ∀ {H : Hp} {ps : List Addr} {Ss : List (List Bits)}, RowsAt H ps Ss → ∃ bs : List Row1, ps = bs.map (·.1) ∧ Ss = bs.map (·.2) ∧ ∀ b ∈ bs, H b.1 = some (.lst (bvs b.2))
  | _, _, _, .nil => ⟨[], rfl, rfl, fun b hb => (by cases hb)⟩
  | _, p :: _, S :: _, .cons a h => by
    obtain ⟨bs, rfl, rfl, h2⟩ := rows_zip h
    exact ⟨(p, S) :: bs, rfl, rfl, fun b hb => by
      rcases List.mem_cons.mp hb with rfl | hb
      · exact a
      · exact h2 b hb⟩
theorem rows_of {H : Hp} : ∀ {bs : List Row1}, (∀ b ∈ bs, H b.1 = some (.lst (bvs b.2))) → RowsAt H (bs.map (·.1)) (bs.map (·.2))
  | [], _ => .nil
  | b :: bs, h => .cons (h b (by simp)) (rows_of fun c hc => h c (List.mem_cons_of_mem _ hc))
theorem w_sortR {K : PySem.W.Frag} {H : Hp} {Q : VK} {a : Addr} {ps : List Addr} {Ss : List (List Bits)} (h : SqL K H a (ps.map V.ref)) (hr : RowsAt H ps Ss) (nd : Ss.Nodup)
    (k : ∀ (qs : List Addr) (Ts : List (List Bits)) (p : Addr) (H' : Hp), Ts.Perm Ss → (∀ q ∈ qs, q ∈ ps) → RiseS Ts → H p = none → Ext H H' → H' p = some (.lst (qs.map V.ref)) → RowsAt H' qs Ts → Q (.ref p) H') : rSortR K [.ref a] H Q := by
  obtain ⟨bs, rfl, rfl, hb⟩ := rows_zip hr
  refine ⟨a, bs, rfl, by rw [List.map_map] at h; exact h, fun b hb' => SqL.of (hb b hb'), fun cs p hp hs hn => ?_⟩
  have e := Ext.new (o := .lst (cs.map fun b => V.ref b.1)) hn
  refine k (cs.map (·.1)) (cs.map (·.2)) p _ (hp.map _) (fun q hq => ?_) (riseS_of (List.pairwise_map.mpr hs) ((hp.map fun b : Row1 => b.2).nodup_iff.mpr nd)) hn e ?_ (rows_of fun b hb' => e.st _ _ (hb b (hp.mem_iff.mp hb')) (nsh_bvs _))
  · obtain ⟨b, h1, rfl⟩ := List.mem_map.mp hq
    exact List.mem_map.mpr ⟨b, hp.mem_iff.mp h1, rfl⟩
  · rw [List.map_map]
    exact upd_same
/-! data -/
theorem niceT : Nice tupD 1 := nice_tupl nice_bits
theorem mtIndexD {X : Cx} {K : PySem.W.Frag} (h : X.K = K) (hu : X.A.units + 65 < cLine) : MtR X "list.index" (rIndexD K) := h ▸ mt_indexD hu
end Lw
end

section
/-! what looks show, by trying all sets -/
namespace Lw
open PySem L2
def every : Nat → List Bits
  | 0 => [[]]
  | k + 1 => (every k).flatMap fun t => [t ++ [false], t ++ [true]]
theorem mem_every : ∀ {k : Nat} {x : Bits}, x ∈ every k ↔ x.length = k
  | 0, x => by
    show x ∈ [[]] ↔ _
    rw [List.mem_singleton, List.length_eq_zero_iff]
  | k + 1, x => by
    show x ∈ (every k).flatMap _ ↔ _
    rw [List.mem_flatMap]
    constructor
    · rintro ⟨t, ht, hx⟩
      have := mem_every.mp ht
      simp only [List.mem_cons, List.not_mem_nil, or_false] at hx
      rcases hx with rfl | rfl <;> simp [this]
    · intro hx
      obtain ⟨c, hc⟩ : ∃ c, x = x.take k ++ [c] := ⟨x[k]'(by omega), by
        have : x.take (k + 1) = x.take k ++ [x[k]'(by omega)] := by rw [List.take_succ, List.getElem?_eq_getElem (by omega)]; rfl
        rw [← this, List.take_of_length_le (by omega)]⟩
      refine ⟨x.take k, mem_every.mpr (by rw [List.length_take]; omega), ?_⟩
      generalize x.take k = u at hc ⊢
      rw [hc]
      cases c <;> simp
theorem every_len : ∀ {k : Nat}, (every k).length = 2 ^ k
  | 0 => rfl
  | k + 1 => by
    show ((every k).flatMap _).length = _
    rw [List.length_flatMap]
    have : ∀ l : List Bits, (l.map fun t => ([t ++ [false], t ++ [true]] : List Bits).length).sum = 2 * l.length := fun l => by
      induction l with
      | nil => rfl
      | cons a l ih => rw [List.map_cons, List.sum_cons, ih, List.length_cons]; simp only [List.length_cons, List.length_nil]; omega
    rw [this, every_len, Nat.pow_succ]
    omega
theorem blt_app {t u : Bits} (a b : Bits) (hl : t.length = u.length) (h : blt t u = true) : blt (t ++ a) (u ++ b) = true := by
  induction t generalizing u with
  | nil =>
    cases u with
    | nil => cases h
    | cons y u => cases hl
  | cons x t ih =>
    cases u with
    | nil => cases hl
    | cons y u =>
      have hl : t.length = u.length := by simpa using hl
      simp only [blt, List.cons_append] at h ⊢
      split at h
      · rename_i e
        rw [if_pos e]
        exact ih hl h
      · rename_i e
        rw [if_neg e]
        exact h
theorem blt_same (t : Bits) : blt (t ++ [false]) (t ++ [true]) = true := by
  induction t with
  | nil => rfl
  | cons x t ih => simp only [blt, List.cons_append, if_true]; exact ih
theorem every_rise : ∀ {k : Nat}, Rise (every k)
  | 0 => List.pairwise_singleton _ _
  | k + 1 => by
    show Rise ((every k).flatMap _)
    refine List.pairwise_flatMap.mpr ⟨fun t _ => List.pairwise_cons.mpr ⟨fun y hy => ?_, List.pairwise_singleton _ _⟩, ?_⟩
    · rw [List.mem_singleton.mp hy]
      exact blt_same t
    · refine List.Pairwise.imp_of_mem (fun {a b} ha hb h x hx y hy => ?_) (every_rise (k := k))
      have e : a.length = b.length := (mem_every.mp ha).trans (mem_every.mp hb).symm
      simp only [List.mem_cons, List.not_mem_nil, or_false] at hx hy
      rcases hx with rfl | rfl <;> rcases hy with rfl | rfl <;> exact blt_app _ _ e h
/-- all sets of numbers of a width -/
structure AllS (w : Nat) (Ss : List (List Bits)) : Prop where
  nd : Ss.Nodup
  me : ∀ S, S ∈ Ss ↔ Rise S ∧ ∀ x ∈ S, x.length = w
/-- whether a set tells so -/
def consB (L : List Look) (S : List Bits) : Bool := L.all fun e => decide ((lookZ S e.1 false, lookZ S e.1 true) = e.2)
section
variable {w : Nat} {L : List Look} {S : List Bits} {Ss : List (List Bits)}
open Classical in
/-- the rising list of what is so -/
theorem set_list (w : Nat) (X : Bits → Prop) (hX : ∀ x, X x → x.length = w) : ∃ S : List Bits, Rise S ∧ (∀ x ∈ S, x.length = w) ∧ ∀ x, x ∈ S ↔ X x := by
  refine ⟨(every w).filter fun x => decide (X x), List.Pairwise.sublist List.filter_sublist every_rise, fun x hx => mem_every.mp (List.mem_filter.mp hx).1, fun x => ?_⟩
  rw [List.mem_filter, decide_eq_true_eq]
  exact ⟨fun h => h.2, fun h => ⟨mem_every.mpr (hX x h), h⟩⟩
end
end Lw
end

section
/-! the fewest looks are the first of the shortest that show -/
namespace Lw
open PySem L2
/-! ### rows of places -/
def nxt (p : List Nat) : Nat := match p.getLast? with
  | some k => k + 1
  | none => 0
def rowsF (n : Nat) : Nat → List (List Nat)
  | 0 => [[]]
  | m + 1 => (rowsF n m).flatMap fun p => (List.range' (nxt p) (n - nxt p)).map fun k => p ++ [k]
def Inc (p : List Nat) : Prop := p.Pairwise (· < ·)
def LexN (p q : List Nat) : Prop := ∃ (c : List Nat) (a b : Nat) (u v : List Nat), p = c ++ a :: u ∧ q = c ++ b :: v ∧ a < b
/-! ### looks that show -/
section
variable {S T P fs us : List Bits} {w : Nat} {b p : Bits} {Ss : List (List Bits)}
/-- looks at P tell of T what they tell of S -/
def Same (S T : List Bits) (P : List Bits) : Prop := ∀ p ∈ P, ∀ c, lookZ T p c = lookZ S p c
/-- where a look must be, for b's sake -/
def InT (S : List Bits) (b p : Bits) : Prop := p = b ∨ ∃ c, lookZ S b c = false ∧ b ++ [c] <+: p
theorem InT.pre (h : InT S b p) : b <+: p := by
  rcases h with rfl | ⟨c, _, h⟩
  · exact List.prefix_refl _
  · exact (List.prefix_append _ _).trans h
theorem below {c : Bool} {b' : Bits} (hb : Beg S b') (hc : lookZ S b c = false) : ¬ b ++ [c] <+: b' := fun h => by
  rcases hb with rfl | ⟨s, hs, hbs⟩
  · have := h.length_le
    simp at this
  · rw [lookZ_ex.mpr ⟨s, hs, h.trans hbs⟩] at hc
    cases hc
/-! ### the first of all -/
/-- a row of places at which T tells as S -/
def agree (us : List Bits) (S : List Bits) (p : List Nat) (T : List Bits) : Bool := p.all fun k => decide ((lookZ T (us.getD k []) false, lookZ T (us.getD k []) true) = (lookZ S (us.getD k []) false, lookZ S (us.getD k []) true))
def succP (Ss : List (List Bits)) (us : List Bits) (S : List Bits) (p : List Nat) : Bool := decide ((Ss.filter (agree us S p)).length = 1)
end
/-! rows as tuples -/
theorem w_catA {K : PySem.W.Frag} {H : Hp} {Q : VK} {p q : Addr} {xs ys : List V} (h1 : SqT K H p xs) (h2 : SqT K H q ys) (hl : xs.length + ys.length ≤ 100000) (k : ∀ r H', Ext H H' → SqT K H' r (xs ++ ys) → Q (.ref r) H') : rCatA K (.ref p) (.ref q) H Q :=
  ⟨p, q, xs, ys, rfl, rfl, h1, h2, Nat.le_trans hl (by decide), fun e => k q H (Ext.refl _) (by rw [e]; exact h2), fun _ e => k p H (Ext.refl _) (by rw [e, List.append_nil]; exact h1), fun _ _ r hr => k r _ (Ext.new hr) (SqT.of upd_same)⟩
def TupsAt (K : PySem.W.Frag) (H : Hp) (ts : List Addr) (ps : List (List Nat)) : Prop := Paired (fun t p => SqT K H t (p.map vN)) ts ps
theorem TupsAt.ext {K : PySem.W.Frag} {H H' : Hp} {ts : List Addr} {ps : List (List Nat)} (h : TupsAt K H ts ps) (e : Ext H H') : TupsAt K H' ts ps := paired_mono (fun t p h => e.tup h) h
def natD (p : List Nat) : PyData := .tuple (p.map fun k : Nat => PyData.int (k : Int))
theorem dp_nat {K : PySem.W.Frag} {H : Hp} {t : Addr} {p : List Nat} (h : SqT K H t (p.map vN)) : Dp K H (.ref t) (natD p) := .tup h (dpAll_map (fun x => .int _) p)
theorem nice_nat : Nice (fun k : Nat => PyData.int (k : Int)) 0 where
  lay k := nice_int.lay (k : Int)
  dep k := nice_int.dep (k : Int)
  eq a b := by
    rw [nice_int.eq, Bool.eq_iff_iff, decide_eq_true_eq, decide_eq_true_eq]
    omega
theorem nice_nats : Nice natD 1 := nice_tupl nice_nat
/-- what a set tells at beginnings, a row of pairs -/
def TellsAt (K : PySem.W.Frag) (us : List Bits) (H : Hp) (r : Addr) (T : List Bits) : Prop := ∃ ts : List Addr, SqL K H r (ts.map V.ref) ∧ Paired (fun t b => SqT K H t [.bl (lookZ T b false), .bl (lookZ T b true)]) ts us
theorem TellsAt.ext {K : PySem.W.Frag} {us : List Bits} {H H' : Hp} {r : Addr} {T : List Bits} (h : TellsAt K us H r T) (e : Ext H H') : TellsAt K us H' r T := by
  obtain ⟨ts, h1, h2⟩ := h
  exact ⟨ts, e.seq (nsh_refs _) h1, paired_mono (fun t b h => e.tup h) h2⟩
theorem TellsAt.at {K : PySem.W.Frag} {us : List Bits} {H : Hp} {r : Addr} {T : List Bits} (h : TellsAt K us H r T) {k : Nat} (hk : k < us.length) : ∃ (ts : List Addr) (t : Addr), SqL K H r (ts.map V.ref) ∧ (ts.map V.ref)[k]? = some (.ref t) ∧ SqT K H t [.bl (lookZ T (us.getD k []) false), .bl (lookZ T (us.getD k []) true)] := by
  obtain ⟨ts, h1, h2⟩ := h
  have hl := paired_len h2
  obtain ⟨t, ht⟩ : ∃ t, ts[k]? = some t := ⟨_, List.getElem?_eq_getElem (by omega)⟩
  obtain ⟨b, hb, hp⟩ := paired_at h2 ht
  refine ⟨ts, t, h1, by rw [List.getElem?_map, ht]; rfl, ?_⟩
  rw [List.getD_eq_getElem?_getD, hb]
  exact hp
theorem nsh_nats (l : List Nat) : ¬ RowSh (.lst (l.map vN)) := by
  have : l.map vN = (l.map fun k : Nat => (k : Int)).map V.int := by rw [List.map_map]; rfl
  rw [this]
  exact nsh_ints _
theorem dp_bbT {K : PySem.W.Frag} {H : Hp} {t : Addr} {x y : Bool} (h : SqT K H t [.bl x, .bl y]) : Dp K H (.ref t) (bbD (x, y)) := .tup h (.cons (.bl _) (.cons (.bl _) .nil))
def natlD (p : List Nat) : PyData := .list (p.map fun k : Nat => PyData.int (k : Int))
end Lw
end

section
/-! comprehensions whose items are new objects; what is known of them is told with the list that is made -/
namespace Lw
open PySem L2
section
variable {σ : L2.St} {H : Hp} {Q : VK} {g : TG} {tt : TT} {te : TE} {vs : List Nat} {j : Nat} {J : It} {n : Nat} {Y : Nat → V → Prop}
theorem lcE (src : Src J n Y H) (r : Addr → Nat → List V → Hp → Prop) (hm : ∀ D i acc H1 H2, r D i acc H1 → Ext H1 H2 → r D i acc H2)
    (hu : ∀ D i acc H1 xs ys, H D = none → H1 D = some (.lst xs) → r D i acc H1 → r D i acc (upd H1 D (.lst ys))) (h0 : ∀ D H1, H D = none → Ext H H1 → r D 0 [] H1) (hn : ∀ D i acc H1, r D i acc H1 → ¬ RowSh (.lst acc)) (hz : n ≤ 100000)
    (hs : ∀ i x acc H' D (NT : Hp → Prop) (NE : VK), i < n → Y i x → H D = none → H' D = some (.lst acc) → r D i acc H' → Ext H H' → (∀ H2, Ext H' H2 → r D (i + 1) acc H2 → NT H2) → (∀ y H2, Ext H' H2 → r D (i + 1) (acc ++ [y]) H2 → NE y H2) →
      g x (wipe σ vs) H' fun σ2 H2 => wipe σ2 vs = wipe σ vs ∧ tt σ2 H2 fun b H3 => if b = true then te σ2 H3 NE else NT H3)
    (hd : ∀ D acc H', r D n acc H' → H D = none → Ext H H' → H' D = some (.lst acc) → acc.length ≤ n → Q (.ref D) H') : LcB J g tt te vs σ H Q := by
  intro D hD
  refine ⟨fun i m H' => m = n - i ∧ i ≤ n ∧ ∃ acc, r D i acc H' ∧ acc.length ≤ i ∧ Ext H H' ∧ H' D = some (.lst acc), ⟨n, by simp, Nat.zero_le _, [], h0 _ _ hD (Ext.new hD), Nat.le_refl _, Ext.new hD, upd_same⟩, ?_⟩
  rintro i m H' ⟨rfl, hi, acc, ha, hl, e, hDa⟩
  obtain ⟨s1, s2⟩ := src H' e
  by_cases hlt : i < n
  · obtain ⟨go, hy⟩ := s1 i hlt
    refine .inr ⟨go, fun H2 => i + 1 ≤ n ∧ ∃ acc, r D (i + 1) acc H2 ∧ acc.length ≤ i + 1 ∧ Ext H H2 ∧ H2 D = some (.lst acc), fun H2 ⟨a, b⟩ => ⟨n - (i + 1), by omega, rfl, a, b⟩, fun x H2 y => ?_⟩
    obtain ⟨e2, y2⟩ := hy x H2 y
    subst e2
    exact hs i x acc _ D (fun H3 => i + 1 ≤ n ∧ ∃ acc, r D (i + 1) acc H3 ∧ acc.length ≤ i + 1 ∧ Ext H H3 ∧ H3 D = some (.lst acc)) _ hlt y2 hD hDa ha e (fun H3 e3 h3 => ⟨hlt, acc, h3, by omega, e.trans e3, e3.st _ _ hDa (hn _ _ _ _ ha)⟩) fun v H3 e3 h3 =>
      have hD3 := e3.st _ _ hDa (hn _ _ _ _ ha)
      ⟨acc, hD3, Nat.lt_of_lt_of_le (Nat.lt_of_le_of_lt (Nat.le_trans hl (Nat.le_trans hi hz)) (by decide : 100000 < 16777216)) (by decide), hlt, _, hu _ _ _ _ _ _ hD hD3 h3, by simp; omega, (e.trans e3).mut hD, upd_same⟩
  · have e1 : i = n := by omega
    subst e1
    exact .inl ⟨s2, hd D acc H' ha hD e hDa hl⟩
/-- .. the target a name, no test -/
theorem lcEN (src : Src J n Y H) (r : Addr → Nat → List V → Hp → Prop) (hm : ∀ D i acc H1 H2, r D i acc H1 → Ext H1 H2 → r D i acc H2)
    (hu : ∀ D i acc H1 xs ys, H D = none → H1 D = some (.lst xs) → r D i acc H1 → r D i acc (upd H1 D (.lst ys))) (h0 : ∀ D H1, H D = none → Ext H H1 → r D 0 [] H1) (hn : ∀ D i acc H1, r D i acc H1 → ¬ RowSh (.lst acc)) (hz : n ≤ 100000) (hw : ∀ x, wipe ((wipe σ vs).set j (some x)) vs = wipe σ vs)
    (hs : ∀ i x acc H' D (NE : VK), i < n → Y i x → H D = none → H' D = some (.lst acc) → r D i acc H' → Ext H H' → (∀ y H2, Ext H' H2 → r D (i + 1) (acc ++ [y]) H2 → NE y H2) → te ((wipe σ vs).set j (some x)) H' NE)
    (hd : ∀ D acc H', r D n acc H' → H D = none → Ext H H' → H' D = some (.lst acc) → acc.length ≤ n → Q (.ref D) H') : LcB J (gName j) tYes te vs σ H Q :=
  lcE src r hm hu h0 hn hz (fun i x acc H' D NT NE hi y hD hDa ha e _ kE => ⟨hw x, by
    show (if true = true then te ((wipe σ vs).set j (some x)) H' NE else NT H')
    rw [if_pos rfl]
    exact hs i x acc H' D NE hi y hD hDa ha e kE⟩) hd
/-- .. the items that pass a test -/
theorem lcFy {β : Type} {gv : β → V} {bs : List β} (f : β → Bool) (src : Src J bs.length (fun i x => (bs.map gv)[i]? = some x) H) (nsh : ∀ l : List β, ¬ RowSh (.lst (l.map gv))) (hz : bs.length ≤ 100000) (hw : ∀ x, wipe ((wipe σ vs).set j (some x)) vs = wipe σ vs)
    (hs : ∀ b H' (NF : Hp → Prop) (NE : VK), b ∈ bs → Ext H H' → (f b = false → ∀ H2, Ext H' H2 → NF H2) → (f b = true → ∀ H2, Ext H' H2 → NE (gv b) H2) →
      tt ((wipe σ vs).set j (some (gv b))) H' fun c H3 => if c = true then te ((wipe σ vs).set j (some (gv b))) H3 NE else NF H3)
    (hd : ∀ D H', H D = none → Ext H H' → H' D = some (.lst ((bs.filter f).map gv)) → Q (.ref D) H') : LcB J (gName j) tt te vs σ H Q := by
  refine lcF src (fun i acc => acc = ((bs.take i).filter f).map gv) rfl (fun i acc h => by rw [h]; exact nsh _) hz hw (fun i x acc H' NF NE hi hY ha e kF kE => ?_) fun D acc H' ha hD e hDa _ => ?_
  · rw [List.getElem?_map] at hY
    cases hb : bs[i]? with
    | none => rw [hb] at hY; cases hY
    | some b =>
      rw [hb] at hY
      cases hY
      have htk : bs.take (i + 1) = bs.take i ++ [b] := by rw [List.take_succ, hb]; rfl
      refine hs b H' NF NE (List.mem_of_getElem? hb) e (fun hf H2 e2 => kF H2 e2 ?_) fun hf H2 e2 => kE _ H2 e2 ?_
      · rw [ha, htk, List.filter_append]
        simp [hf]
      · rw [ha, htk, List.filter_append]
        simp [hf]
  · refine hd D H' hD e ?_
    rw [hDa, ha, List.take_length]
theorem lcFx {K : PySem.W.Frag} {β : Type} {a : Addr} {gv : β → V} {bs : List β} (f : β → Bool) (hseq : SqL K H a (bs.map gv)) (nsh : ∀ l : List β, ¬ RowSh (.lst (l.map gv))) (hz : bs.length ≤ 100000) (hw : ∀ x, wipe ((wipe σ vs).set j (some x)) vs = wipe σ vs)
    (hs : ∀ b H' (NF : Hp → Prop) (NE : VK), b ∈ bs → Ext H H' → (f b = false → ∀ H2, Ext H' H2 → NF H2) → (f b = true → ∀ H2, Ext H' H2 → NE (gv b) H2) →
      tt ((wipe σ vs).set j (some (gv b))) H' fun c H3 => if c = true then te ((wipe σ vs).set j (some (gv b))) H3 NE else NF H3)
    (hd : ∀ D H', H D = none → Ext H H' → H' D = some (.lst ((bs.filter f).map gv)) → Q (.ref D) H') : LcB (Itl K a) (gName j) tt te vs σ H Q :=
  lcFy f (by have := src_lst hseq (nsh bs); rwa [List.length_map] at this) nsh hz hw hs hd
/-- .. each item's value, flat or at a place that stands -/
theorem lcMy {β : Type} {gv : β → V} {gw : β → V} {bs : List β} (src : Src J bs.length (fun i x => (bs.map gv)[i]? = some x) H) (nsh : ∀ l : List β, ¬ RowSh (.lst (l.map gw))) (hz : bs.length ≤ 100000) (hw : ∀ x, wipe ((wipe σ vs).set j (some x)) vs = wipe σ vs)
    (hs : ∀ b H' (NE : VK), b ∈ bs → Ext H H' → (∀ H2, Ext H' H2 → NE (gw b) H2) → te ((wipe σ vs).set j (some (gv b))) H' NE)
    (hd : ∀ D H', H D = none → Ext H H' → H' D = some (.lst (bs.map gw)) → Q (.ref D) H') : LcB J (gName j) tYes te vs σ H Q := by
  refine lcN src (fun i acc => acc = (bs.take i).map gw) rfl (fun i acc h => by rw [h]; exact nsh _) hz hw (fun i x acc H' NE hi hY ha e kE => ?_) fun D acc H' ha hD e hDa _ => ?_
  · rw [List.getElem?_map] at hY
    cases hb : bs[i]? with
    | none => rw [hb] at hY; cases hY
    | some b =>
      rw [hb] at hY
      cases hY
      have htk : bs.take (i + 1) = bs.take i ++ [b] := by rw [List.take_succ, hb]; rfl
      refine hs b H' NE (List.mem_of_getElem? hb) e fun H2 e2 => kE _ H2 e2 ?_
      rw [ha, htk, List.map_append]
      rfl
  · refine hd D H' hD e ?_
    rw [hDa, ha, List.take_length]
theorem paired_zip {α β : Type} {r : α → β → Prop} : ∀ {l : List α} {m : List β}, Paired r l m → ∃ bs : List (α × β), l = bs.map (·.1) ∧ m = bs.map (·.2) ∧ ∀ b ∈ bs, r b.1 b.2
  | _, _, .nil => ⟨[], rfl, rfl, fun b hb => (by cases hb)⟩
  | x :: _, y :: _, .cons a h => by
    obtain ⟨bs, rfl, rfl, h2⟩ := paired_zip h
    exact ⟨(x, y) :: bs, rfl, rfl, fun b hb => by
      rcases List.mem_cons.mp hb with rfl | hb
      · exact a
      · exact h2 b hb⟩
theorem map_ref {β : Type} (bs : List β) (f : β → Addr) : (bs.map fun b => V.ref (f b)) = (bs.map f).map V.ref := by rw [List.map_map]; rfl
theorem nsh_mapref {β : Type} (f : β → Addr) (l : List β) : ¬ RowSh (.lst (l.map fun b => V.ref (f b))) := by rw [map_ref]; exact nsh_refs _
end
end Lw
end

section
/-! rosters: <= of texts, max of a tuple, what is walked a list or a tuple -/
namespace Lw
open PySem PySem.Spec PyProof.Rows L2
def iOr (a b : L2.TI) : L2.TI := fun σ H R => a σ H R ∨ b σ H R
theorem pi_or {X : Cx} {tg l : Expr} {a b : L2.TI} (h1 : PI X tg l a) (h2 : PI X tg l b) : PI X tg l (iOr a b) := ⟨fun pins s σ H R I h => h.elim (fun q => h1.run pins s σ H R I q) fun q => h2.run pins s σ H R I q⟩
def rLeS : R2 := fun x y H Q => ∃ i j, x = .str i ∧ y = .str j ∧ Q (.bl (!decide (j.cps.toList < i.cps.toList))) H
theorem opLeS {X : Cx} (hu : X.A.units + 65 < cLine) : OpR X (compareOp .LtE) rLeS := by
  intro pins s σ H x y v u Q I rx ry h
  obtain ⟨i, j, rfl, rfl, q⟩ := h
  obtain ⟨t, rfl⟩ := rx
  obtain ⟨t', rfl⟩ := ry
  refine PySem.W.le_data (Reads.str i t) (Reads.str j t') rfl (by simp) (by simp [PyData.depth]; omega) ?_
  rw [PySem.W.dataLt_str]
  exact fin_bl I q rfl
theorem w_leB {a b : List Bool} {H : Hp} {Q : VK} (k : Q (.bl (!blt b a)) H) : rLeS (.str (B a)) (.str (B b)) H Q := ⟨B a, B b, rfl, rfl, by
  rw [B_list, B_list, ← ltCps_eq, blt_cps]
  exact k⟩
theorem maxOf_int : ∀ (xs : List Int) (x : Int), PySem.W.maxOf x xs ∈ x :: xs ∧ ∀ y ∈ x :: xs, y ≤ PySem.W.maxOf x xs
  | [], x => ⟨List.mem_cons_self, fun y hy => by rw [List.mem_singleton.mp hy]; exact Int.le_refl _⟩
  | z :: xs, x => by
    have e : PySem.W.maxOf x (z :: xs) = PySem.W.maxOf (if x < z then z else x) xs := by
      unfold PySem.W.maxOf
      rw [List.foldl_cons]
      congr 1
      have hl : PySem.W.DatumOrd.lt x z = decide (x < z) := rfl
      rw [hl]
      by_cases h : x < z
      · rw [if_pos h, if_pos (decide_eq_true h)]
      · rw [if_neg h, if_neg (by intro q; exact h (of_decide_eq_true q))]
    rw [e]
    obtain ⟨h1, h2⟩ := maxOf_int xs (if x < z then z else x)
    generalize PySem.W.maxOf (if x < z then z else x) xs = M at *
    refine ⟨?_, fun y hy => ?_⟩
    · rcases List.mem_cons.mp h1 with h | h
      · rw [h]
        split
        · exact List.mem_cons_of_mem _ List.mem_cons_self
        · exact List.mem_cons_self
      · exact List.mem_cons_of_mem _ (List.mem_cons_of_mem _ h)
    · have h3 := h2 _ List.mem_cons_self
      rcases List.mem_cons.mp hy with rfl | hy
      · split at h3 <;> omega
      · rcases List.mem_cons.mp hy with rfl | hy
        · split at h3 <;> omega
        · exact h2 y (List.mem_cons_of_mem _ hy)
def rMaxT (K : PySem.W.Frag) : List V → Hp → VK → Prop := fun vs H Q => ∃ (a : Addr) (ns : List Int), vs = [V.ref a] ∧ SqT K H a (ns.map V.int) ∧ 0 < ns.length ∧ ∀ m, m ∈ ns → (∀ y, y ∈ ns → y ≤ m) → Q (.int m) H
theorem cr_maxT {X : Cx} (hc : X.calm = true) (hu : X.A.units + 65 < cLine) : CallR X (.builtin "max") (rMaxT X.K) := by
  intro pins s σ H vs us Q I r h
  obtain ⟨a, ns, rfl, hs, hne, q⟩ := h
  obtain ⟨its, rv, hl, _⟩ := I.tuple hs
  rw [Vals.ref1 r]
  obtain ⟨x, xs, rfl⟩ : ∃ x xs, ns = x :: xs := by
    cases ns with
    | nil => exact absurd hne (by simp)
    | cons x xs => exact ⟨x, xs, rfl⟩
  have hh : PySem.W.HoldAll s.heap its.toArray.toList (x :: xs) := by
    obtain ⟨as, hr⟩ := Dp.readsAll I ((x :: xs).map PyData.int) _ its (dpAll_map (fun i => Dp.int i) (x :: xs)) rv
    exact ⟨as, hr⟩
  refine PySem.W.max_tuple_datum (I.ok.hd hc) hl hh (by show X.A.units + 1 + 0 < cLine; omega) fun i v h' tk _ hv hk => ?_
  obtain ⟨as, hr⟩ := hv
  obtain ⟨m1, m2⟩ := maxOf_int xs x
  have hr : Reads h' v (.int (PySem.W.maxOf x xs)) as := hr
  cases hr with
  | int _ t => exact ⟨.int _, H, I.kept (t' := tk) hk, ⟨t, rfl⟩, q _ m1 m2⟩
theorem cMaxT {X : Cx} {K : PySem.W.Frag} (h : X.K = K) (hc : X.calm = true) (hu : X.A.units + 65 < cLine) : CallR X (.builtin "max") (rMaxT K) := h ▸ cr_maxT hc hu
theorem w_maxT {K : PySem.W.Frag} {a : Addr} {ns : List Int} {H : Hp} {Q : VK} (h : SqT K H a (ns.map V.int)) (hz : 0 < ns.length) (k : ∀ m, m ∈ ns → (∀ y, y ∈ ns → y ≤ m) → Q (.int m) H) : rMaxT K [.ref a] H Q := ⟨a, ns, rfl, h, hz, k⟩
theorem w_iorL {a b : L2.TI} {σ : L2.St} {H : Hp} {R : It → Hp → Prop} (h : a σ H R) : iOr a b σ H R := .inl h
theorem w_iorT {a b : L2.TI} {σ : L2.St} {H : Hp} {R : It → Hp → Prop} (h : b σ H R) : iOr a b σ H R := .inr h
theorem src_rngL {lo : Int} {n : Nat} {H : Hp} : Src (Itr lo n) (List.range n).length (fun i x => ((List.range n).map fun j : Nat => V.int (lo + (j : Int)))[i]? = some x) H := fun H' e => by
  rw [List.length_range]
  obtain ⟨a, b⟩ := src_rng (lo := lo) (n := n) (H := H) H' e
  refine ⟨fun i hi => ⟨(a i hi).1, fun x H2 y => ?_⟩, b⟩
  obtain ⟨e2, y2⟩ := (a i hi).2 x H2 y
  refine ⟨e2, ?_⟩
  show ((List.range n).map fun j : Nat => V.int (lo + (j : Int)))[i]? = some x
  rw [List.getElem?_map, List.getElem?_range hi, y2]
  rfl
theorem nsh_mapint {β : Type} (f : β → Int) (l : List β) : ¬ RowSh (.lst (l.map fun b => V.int (f b))) := by
  have := nsh_ints (l.map f)
  rw [List.map_map] at this
  exact this
theorem shaped_texts {xs : List Str} (h : ∀ x ∈ xs, PyData.canLay0 (.str x) = true) : SeqAt.shaped (.list (xs.map PyData.str)) = true := by
  refine shaped_mk (n := 1) ?_ ?_ (by decide)
  · simp only [PyData.canLay0]
    exact lay_all fun y hy => by
      obtain ⟨x, hx, rfl⟩ := List.mem_map.mp hy
      exact h x hx
  · simp only [PyData.depth]
    have := dep_all (n := 0) (xs := xs.map PyData.str) fun y hy => by
      obtain ⟨x, hx, rfl⟩ := List.mem_map.mp hy
      simp [PyData.depth]
    omega
theorem eqv_e {β : Type} (f : β → PyData) (l : List β) : PyData.eqv (.list (l.map f)) (.list []) = decide (l = []) := by
  cases l with
  | nil => simp [PyData.eqv, PyData.eqvAll]
  | cons x l => simp [PyData.eqv, PyData.eqvAll]
theorem shaped_e : SeqAt.shaped (.list []) = true := shaped_mk (n := 1) (by simp [PyData.canLay0, PyData.canLayAll0]) (by simp [PyData.depth, PyData.depthAll]) (by decide)
theorem dp_e {K : PySem.W.Frag} {H : Hp} {q : Addr} (h : SqL K H q []) : Dp K H (.ref q) (.list []) := .lst h .nil
theorem dp_texts {K : PySem.W.Frag} {H : Hp} {q : Addr} {xs : List Str} (h : SqL K H q (xs.map V.str)) : Dp K H (.ref q) (.list (xs.map PyData.str)) := .lst h (dpAll_map (fun x => .str _) xs)
theorem dp_intl {K : PySem.W.Frag} {H : Hp} {q : Addr} {β : Type} {f : β → Int} {l : List β} (h : SqL K H q (l.map fun b => V.int (f b))) : Dp K H (.ref q) (.list (l.map fun b => PyData.int (f b))) := .lst h (dpAll_map (fun x => .int _) l)
theorem shaped_intl {β : Type} (f : β → Int) (l : List β) : SeqAt.shaped (.list (l.map fun b => PyData.int (f b))) = true := by
  have := (nice_list nice_int).shaped (by decide) (l.map f)
  rw [List.map_map] at this
  exact this
/-- a rising list of numbers -/
def IsRise (w : Nat) (xs : List Str) : Prop := ∃ ls : List Bits, xs = ls.map B ∧ (∀ l ∈ ls, l.length = w) ∧ Rise ls
theorem isRise_bits {w : Nat} {ls : List Bits} (h : ∀ l ∈ ls, l.length = w) : IsRise w (ls.map B) ↔ Rise ls := by
  constructor
  · rintro ⟨ms, h1, _, h3⟩
    have e : ls = ms := by
      have inj : ∀ (a b : List Bits), a.map B = b.map B → a = b := fun a => by
        induction a with
        | nil => intro b h; cases b with
          | nil => rfl
          | cons y b => cases h
        | cons x a ih => intro b h; cases b with
          | nil => cases h
          | cons y b =>
            rw [List.map_cons, List.map_cons] at h
            obtain ⟨q1, q2⟩ := List.cons.inj h
            rw [B_inj q1, ih b q2]
      exact inj _ _ h1
    rw [e]
    exact h3
  · exact fun q => ⟨ls, rfl, h, q⟩
theorem rise_chain {ls : List Bits} (h : ∀ k, k + 1 < ls.length → blt (ls.getD k []) (ls.getD (k + 1) []) = true) : Rise ls := by
  induction ls with
  | nil => exact List.Pairwise.nil
  | cons x ls ih =>
    have i := ih fun k hk => by
      have := h (k + 1) (by simpa using hk)
      simpa using this
    refine List.pairwise_cons.mpr ⟨fun y hy => ?_, i⟩
    cases ls with
    | nil => cases hy
    | cons z ls =>
      have hz : blt x z = true := by
        have := h 0 (by simp)
        simpa using this
      rcases List.mem_cons.mp hy with rfl | hy
      · exact hz
      · exact blt_trans hz ((List.pairwise_cons.mp i).1 y hy)
theorem rise_chain_iff {ls : List Bits} : ((List.range (ls.length - 1)).filter fun j => !blt (ls.getD j []) (ls.getD (j + 1) [])) = [] ↔ Rise ls := by
  rw [List.filter_eq_nil_iff]
  constructor
  · intro h
    refine rise_chain fun k hk => ?_
    have := h k (List.mem_range.mpr (by omega))
    simpa using this
  · intro h j hj
    have hj := List.mem_range.mp hj
    have e1 : ls.getD j [] = ls[j] := by simp [List.getD_eq_getElem?_getD, List.getElem?_eq_getElem (show j < ls.length by omega)]
    have e2 : ls.getD (j + 1) [] = ls[j + 1] := by simp [List.getD_eq_getElem?_getD, List.getElem?_eq_getElem (show j + 1 < ls.length by omega)]
    rw [e1, e2, List.pairwise_iff_getElem.mp h j (j + 1) (by omega) (by omega) (by omega)]
    simp
theorem w_rg1 {ta : TE} {σ : L2.St} {H : Hp} {Q : Int → Int → Hp → Prop} (k : ta σ H fun x H1 => ∃ n, x = .int n ∧ Q 0 n H1) : tRg1 ta σ H Q := k
theorem rgV_nat (N : Nat) : rgV 0 (N : Int) = (List.range N).map fun i : Nat => V.int (i : Int) := by
  unfold rgV
  rw [show ((N : Int) - 0).toNat = N by omega]
  refine List.map_congr_left fun i _ => ?_
  rw [Int.zero_add]
end Lw
end

section
set_option pp.maxSteps 700
open PySem L2 Lw
local macro_rules | `(tactic| tm_at "s") => `(tactic| first
  | with_reducible refine w_seq ?_ | with_reducible refine w_asg ?_ | with_reducible refine w_gname ?_ | with_reducible refine w_ret ?_ | with_reducible refine w_drop ?_ | with_reducible refine w_ifS ?_ | with_reducible refine w_next ?_ | with_reducible refine w_retN ?_
  | with_reducible refine w_c ?_ | ((with_reducible refine w_var (v := ?vv) ?hh ?kk); (case hh => exact rfl)) | with_reducible refine w_op ?_ | with_reducible refine w_un ?_ | with_reducible refine w_cons ?_ | with_reducible refine w_nil ?_ | with_reducible refine w_test ?_ | with_reducible refine w_B ?_
  | with_reducible refine w_isbl ?_ | with_reducible refine w_not ?_ | with_reducible refine w_and ?_ | with_reducible refine w_or ?_ | with_reducible refine w_andV ?_ | with_reducible refine w_orV ?_ | with_reducible refine w_notV ?_ | with_reducible refine w_if ?_ | with_reducible refine w_chain ?_
  | with_reducible refine w_isN ?_ | with_reducible refine w_notN ?_ | with_reducible refine w_yes ?_ | with_reducible refine w_call ?_ | with_reducible refine w_CB ?_ | with_reducible refine w_tup ?_ | with_reducible refine w_lst ?_ | with_reducible refine w_sl ?_ | with_reducible refine w_noPart ?_
  | with_reducible refine w_part ?_ | with_reducible refine w_isint ?_ | with_reducible refine w_gSub ?_ | with_reducible refine w_break ?_ | with_reducible refine w_cont ?_
  | with_reducible refine w_I0 ?_ | with_reducible refine w_eqI ?_ | with_reducible refine w_neI ?_ | with_reducible refine w_eqS ?_ | with_reducible refine w_neS ?_ | with_reducible refine w_eqB ?_ | with_reducible refine w_neB ?_ | ((with_reducible refine w_isi (d := ?dd) ?hh ?kk); (case hh => assumption))
  | with_reducible refine w_sg ?_ | with_reducible refine w_notSg ?_ | with_reducible refine w_starts ?_ | with_reducible refine w_max2 ?_ | with_reducible refine w_min2 ?_ | with_reducible refine w_intB ?_ | with_reducible refine w_intI ?_ | with_reducible refine w_bm ?_ | with_reducible refine w_bm0 ?_ | with_reducible refine w_m1 ?_ | with_reducible refine w_m0 ?_ | with_reducible refine w_isstr ?_
  | with_reducible refine w_for ?_ | with_reducible refine w_lc ?_ | with_reducible refine w_rng ?_ | with_reducible refine w_rng2 ?_ | with_reducible refine w_ilist ?_ | with_reducible refine w_itup ?_ | with_reducible refine w_istr ?_ | with_reducible refine w_strOk ?_
  | ((with_reducible refine w_rngOk ?hh ?h2 ?kk); (case hh => omega); (case h2 => omega)) | ((with_reducible refine w_lstOk (xs := ?xx) ?hh ?kk); (case hh => assumption))
  | ((with_reducible refine w_alL ?hh ?kk); (case hh => exact Nat.le_of_ble_eq_true rfl)) | ((with_reducible refine w_alT ?hh ?kk); (case hh => exact Nat.le_of_ble_eq_true rfl))
  | ((with_reducible refine w_lenL (xs := ?xx) ?hh ?kk); (case hh => assumption)) | ((with_reducible refine w_lenT (xs := ?xx) ?hh ?kk); (case hh => assumption))
  | ((with_reducible refine w_I ?hh ?kk); (case hh => first | (show _ ≠ (0 : Int); omega) | (show (0 : Int) < _; omega) | exact ⟨by omega, by omega⟩ | exact .inl ⟨by omega, by omega⟩ | exact .inr ⟨by omega, by omega⟩ | exact ⟨by decide, by decide, by decide⟩))
  | with_reducible refine w_din ?_ | with_reducible refine w_dnot ?_ | with_reducible refine w_dget ?_ | with_reducible refine w_dput ?_ | with_reducible refine w_fld ?_ | with_reducible refine w_sto ?_ | with_reducible refine w_meth ?_ | with_reducible refine w_pop1 ?_ | with_reducible refine w_pop2 ?_ | with_reducible refine w_ikeys ?_
  | ((with_reducible refine f_width (CW := ?v1) (dx := ?v2) (t := ?v3) (l := ?v4) (w := ?v5) (told := ?v6) (many := ?v7) ?tw ?hh ?kk); (case tw => assumption); (case hh => assumption))
  | ((with_reducible refine f_things (CW := ?v1) (dx := ?v2) (t := ?v3) (l := ?v4) (w := ?v5) (told := ?v6) (many := ?v7) ?tw ?hh ?kk); (case tw => assumption); (case hh => assumption))
  | ((with_reducible refine f_listening (CW := ?v1) (dx := ?v2) (t := ?v3) (l := ?v4) (w := ?v5) (told := ?v6) (many := ?v7) ?tw ?hh ?kk); (case tw => assumption); (case hh => assumption))
  | ((with_reducible refine f_tolds (CW := ?v1) (dx := ?v2) (t := ?v3) (l := ?v4) (w := ?v5) (b := ?v6) (many := ?v7) ?tw ?hh ?kk); (case tw => assumption); (case hh => assumption))
  | ((with_reducible refine f_told (CW := ?v1) (dx := ?v2) (t := ?v3) (l := ?v4) (w := ?v5) (told := ?v6) (many := ?v7) ?tw ?hh ?kk); (case tw => assumption); (case hh => assumption))
  | ((with_reducible refine f_many (CW := ?v1) (dx := ?v2) (t := ?v3) (l := ?v4) (w := ?v5) (told := ?v6) (many := ?v7) ?tw ?hh ?kk); (case tw => assumption); (case hh => assumption))
  | ((with_reducible refine w_ixL (v := ?vv) (xs := ?xx) ?hh ?h2 ?kk); (case hh => assumption); (case h2 => exact rfl)) | ((with_reducible refine w_ixT (v := ?vv) (xs := ?xx) ?hh ?h2 ?kk); (case hh => assumption); (case h2 => exact rfl)))
local macro_rules | `(tactic| tm_at "r") => `(tactic| repeat tm_at "s")
local macro_rules | `(tactic| tm_at "b") => `(tactic| first | refine w_iteT (by with_reducible rfl) ?_ | refine w_iteF (by with_reducible rfl) ?_ | refine w_iteT (by rfl) ?_ | refine w_iteF (by rfl) ?_)
local macro_rules | `(tactic| tm_at "e") => `(tactic| repeat (first | tm_at "s" | tm_at "b"))
namespace My
abbrev s_law_alike : Stmt := top 39
theorem sc_law_alike : FnScope ["_law_found", "_law_due", "_law_k"] ["_law_found", "_law_due"] (defScope s_law_alike) := ⟨rfl, rfl, rfl, by decide +kernel, rfl, by decide +kernel, by decide +kernel⟩
/-- data are alike just if they are the same -/
def sp_alikeG (K : PySem.W.Frag) (n : Nat) : Sp := fun vs H Q _ => ∃ (x y : V) (d1 d2 : PyData), vs = [x, y] ∧ Dq K H x d1 ∧ Dq K H y d2 ∧ PyData.depth d2 < n ∧ ∀ (b : Bool) (H' : Hp), (b = true ↔ d1 = d2) → Ext H H' → Q (.bl b) H'
theorem u_alikeG {K : PySem.W.Frag} {n : Nat} {H : Hp} {Q : VK} {E : XK} {x y : V} {d1 d2 : PyData} (h1 : Dq K H x d1) (h2 : Dq K H y d2) (h3 : PyData.depth d2 < n) (k : ∀ (b : Bool) (H' : Hp), (b = true ↔ d1 = d2) → Ext H H' → Q (.bl b) H') : sp_alikeG K n ([x, y] ++ []) H Q E := ⟨x, y, d1, d2, rfl, h1, h2, h3, k⟩
theorem u_alikeE {K : PySem.W.Frag} {n : Nat} {H : Hp} {Q : VK} {E : XK} {x y : V} {d : PyData} (h1 : Dq K H x d) (h2 : Dq K H y d) (h3 : PyData.depth d < n) (k : ∀ H', Ext H H' → Q (.bl true) H') : sp_alikeG K n ([x, y] ++ []) H Q E := ⟨x, y, d, d, rfl, h1, h2, h3, fun b H' hb e => by
  obtain rfl : b = true := hb.mpr rfl
  exact k H' e⟩
theorem dq_cases {K : PySem.W.Frag} {H : Hp} {x : V} {d : PyData} (h : Dq K H x d) : (x = .non ∧ d = .none) ∨ (∃ b, x = .bl b ∧ d = .bool b) ∨ (∃ i, x = .int i ∧ d = .int i) ∨ (∃ z, x = .str z ∧ d = .str z) ∨
    (∃ a xs ds, x = .ref a ∧ d = .list ds ∧ SqL K H a xs ∧ ¬ RowSh (.lst xs) ∧ xs.length ≤ 100000 ∧ DqAll K H xs ds) ∨ ∃ a xs ds, x = .ref a ∧ d = .tuple ds ∧ SqT K H a xs ∧ xs.length ≤ 100000 ∧ DqAll K H xs ds := by
  cases h with
  | non => exact .inl ⟨rfl, rfl⟩
  | bl b => exact .inr (.inl ⟨b, rfl, rfl⟩)
  | int i => exact .inr (.inr (.inl ⟨i, rfl, rfl⟩))
  | str z => exact .inr (.inr (.inr (.inl ⟨z, rfl, rfl⟩)))
  | lst h n hz hs => exact .inr (.inr (.inr (.inr (.inl ⟨_, _, _, rfl, rfl, h, n, hz, hs⟩))))
  | tup h hz hs => exact .inr (.inr (.inr (.inr (.inr ⟨_, _, _, rfl, rfl, h, hz, hs⟩))))
section
variable {P : Program} {w : World} {K : PySem.W.Frag} {mg : Str → Option Value} {base : Heap}
theorem ok_alikeG {f : Addr} {fd : FuncData} (F : Fun K "_law_alike" "_law_alike" s_law_alike f fd) (T : TxB mg) (hm : mg "_law_alike" = some (.ref f)) (hb : Binds K fd ["_law_found", "_law_due"] []) : ∀ n : Nat, FnOk P w K mg base (L2.CX P w) n f fd ["_law_found", "_law_due"] (sp_alikeG K n)
  | 0 => by
    have no : ∀ vs H Q E, ¬ sp_alikeG K 0 vs H Q E := fun vs H Q E h => by
      obtain ⟨_, _, _, _, _, _, _, h, _⟩ := h
      omega
    exact ⟨fun vs H Q E h => absurd h (no vs H Q E), fun A outer s H args us vs Q E _ _ _ _ h => absurd h (no vs H Q E)⟩
  | n + 1 => by
    have C_law_alike : Cal P w K mg base n "_law_alike" ["_law_found", "_law_due"] (sp_alikeG K n) := ⟨f, fd, ok_alikeG F T hm hb n, hm, F.kp, hb⟩
    refine F.okX sc_law_alike (fun vs H Q E h => ?_) (fun cdv A outer s H vs Q E hr h => ⟨_, (pss_cons (ps_if (PW.pt (pw_or (pt_val (pe_callB (cIsi (K := K) rfl) (by rfl) T.n_isinstance (by decide +kernel) (pa_cons (pv 1) (pa_cons (pe_bltn (v := .ty "tuple") rfl T.n_tuple (by decide +kernel) rfl) pa_nil)))) (pw_or1 (pt_val (pe_callB (cIsi (K := K) rfl) (by rfl) T.n_isinstance (by decide +kernel) (pa_cons (pv 1) (pa_cons (pe_bltn (v := .ty "list") rfl T.n_list (by decide +kernel) rfl) pa_nil)))))))
 (pss_cons (ps_if (PW.pt (pw_or (pt_cmpR op_ne (pe_callB (cIsi (K := K) rfl) (by rfl) T.n_isinstance (by decide +kernel) (pa_cons (pv 0) (pa_cons (pe_bltn (v := .ty "tuple") rfl T.n_tuple (by decide +kernel) rfl) pa_nil))) (pe_callB (cIsi (K := K) rfl) (by rfl) T.n_isinstance (by decide +kernel) (pa_cons (pv 1) (pa_cons (pe_bltn (v := .ty "tuple") rfl T.n_tuple (by decide +kernel) rfl) pa_nil))) (nomark _)) (pw_or1 (pt_not (pt_val (pe_callB (cIsiT (K := K) rfl) (by rfl) T.n_isinstance (by decide +kernel) (pa_cons (pv 0) (pa_cons (pe_tup (pa_cons (pe_bltn (v := .ty "tuple") rfl T.n_tuple (by decide +kernel) rfl) (pa_cons (pe_bltn (v := .ty "list") rfl T.n_list (by decide +kernel) rfl) pa_nil))) pa_nil))))))))
 (pss_one (ps_ret pe_bl))
 pss_nil)
 (pss_cons (ps_if (pt_cmpR op_ne (pe_callB (cLen (K := K) rfl) (by rfl) T.n_len (by decide +kernel) (pa_cons (pv 0) pa_nil)) (pe_callB (cLen (K := K) rfl) (by rfl) T.n_len (by decide +kernel) (pa_cons (pv 1) pa_nil)) (nomark _))
 (pss_one (ps_ret pe_bl))
 pss_nil)
 (pss_one (ps_ret (pe_cmpR (oEqD (K := K) rfl hr.units) (pe_lc (own := [("_law_k", 2)]) (g := gName 2) rfl sc_law_alike.nd (pi_range1 rfl T.n_range (pa_cons (pe_callB (cLen (K := K) rfl) (by rfl) T.n_len (by decide +kernel) (pa_cons (pv 1) pa_nil)) pa_nil)) (blkOk_by (own := [("_law_k", 2)]) (N := ["_law_found", "_law_due", "_law_k"]) (sc := defScope s_law_alike) (by decide +kernel)) (fun _ _ _ _ _ => pg_name (i := 2) sc_law_alike.nd rfl (Or.inl rfl)) (fun _ _ _ _ _ => pts_one (pt_not (pt_val (pe_cal (E := E0) C_law_alike (hr.mono (by first | decide | omega)) passL (pa_cons (pe_ix (ixA (K := K) rfl) (pv 0) (pv 2) (fun _ _ => rfl)) (pa_cons (pe_ix (ixA (K := K) rfl) (pv 1) (pv 2) (fun _ _ => rfl)) pa_nil)))))) (fun _ _ _ _ _ => (pv 2))) (pe_lst pa_nil) (nomark _))))))
 pss_nil)
 (pss_cons (ps_if (PW.pt (pw_or (pt_cmp (pc_isN (pv 1))) (pw_or1 (pt_cmp (pc_isN (pv 0))))))
 (pss_one (ps_ret (pe_and (pe_cmp (pc_isN (pv 1))) (pe_one (pe_cmp (pc_isN (pv 0)))))))
 pss_nil)
 (pss_cons (ps_if (PW.pt (pw_or (pt_val (pe_callB (cIsi (K := K) rfl) (by rfl) T.n_isinstance (by decide +kernel) (pa_cons (pv 1) (pa_cons (pe_bltn (v := .ty "bool") rfl T.n_bool (by decide +kernel) rfl) pa_nil)))) (pw_or1 (pt_val (pe_callB (cIsi (K := K) rfl) (by rfl) T.n_isinstance (by decide +kernel) (pa_cons (pv 0) (pa_cons (pe_bltn (v := .ty "bool") rfl T.n_bool (by decide +kernel) rfl) pa_nil)))))))
 (pss_one (ps_ret (pe_and (pe_callB (cIsi (K := K) rfl) (by rfl) T.n_isinstance (by decide +kernel) (pa_cons (pv 1) (pa_cons (pe_bltn (v := .ty "bool") rfl T.n_bool (by decide +kernel) rfl) pa_nil))) (pe_and (pe_callB (cIsi (K := K) rfl) (by rfl) T.n_isinstance (by decide +kernel) (pa_cons (pv 0) (pa_cons (pe_bltn (v := .ty "bool") rfl T.n_bool (by decide +kernel) rfl) pa_nil))) (pe_one (pe_cmpR op_eq (pv 0) (pv 1) (nomark _)))))))
 pss_nil)
 (pss_cons (ps_if (pt_val (pe_callB (cIsi (K := K) rfl) (by rfl) T.n_isinstance (by decide +kernel) (pa_cons (pv 1) (pa_cons (pe_bltn (v := .ty "str") rfl T.n_str (by decide +kernel) rfl) pa_nil))))
 (pss_one (ps_ret (pe_and (pe_callB (cIsi (K := K) rfl) (by rfl) T.n_isinstance (by decide +kernel) (pa_cons (pv 0) (pa_cons (pe_bltn (v := .ty "str") rfl T.n_str (by decide +kernel) rfl) pa_nil))) (pe_one (pe_cmpR op_eq (pv 0) (pv 1) (nomark _))))))
 pss_nil)
 (pss_one (ps_ret (pe_and (pe_callB (cIsi (K := K) rfl) (by rfl) T.n_isinstance (by decide +kernel) (pa_cons (pv 0) (pa_cons (pe_bltn (v := .ty "int") rfl T.n_int (by decide +kernel) rfl) pa_nil))) (pe_one (pe_cmpR op_eq (pv 0) (pv 1) (nomark _)))))))))), ?_⟩)
    · obtain ⟨x, y, d1, d2, rfl, _⟩ := h
      rfl
    · obtain ⟨x, y, d1, d2, rfl, hx, hy, hd, k⟩ := h
      have sc : ∀ b, (b = true ↔ d1 = d2) → Q (.bl b) H := fun b hb => k b H hb (Ext.refl _)
      rcases dq_cases hy with ⟨rfl, rfl⟩ | ⟨b2, rfl, rfl⟩ | ⟨i2, rfl, rfl⟩ | ⟨z2, rfl, rfl⟩ | ⟨q, ys, ds2, rfl, rfl, hq, nq, hz2, hs2⟩ | ⟨q, ys, ds2, rfl, rfl, hq, hz2, hs2⟩
      · rcases dq_cases hx with ⟨rfl, rfl⟩ | ⟨b1, rfl, rfl⟩ | ⟨i1, rfl, rfl⟩ | ⟨z1, rfl, rfl⟩ | ⟨p, xs, ds1, rfl, rfl, hp, np, hz, hs⟩ | ⟨p, xs, ds1, rfl, rfl, hp, hz, hs⟩
        all_goals
          tm_at "e"
          exact sc _ (by simp)
      · rcases dq_cases hx with ⟨rfl, rfl⟩ | ⟨b1, rfl, rfl⟩ | ⟨i1, rfl, rfl⟩ | ⟨z1, rfl, rfl⟩ | ⟨p, xs, ds1, rfl, rfl, hp, np, hz, hs⟩ | ⟨p, xs, ds1, rfl, rfl, hp, hz, hs⟩
        all_goals
          tm_at "e"
          exact sc _ (by simp)
      · rcases dq_cases hx with ⟨rfl, rfl⟩ | ⟨b1, rfl, rfl⟩ | ⟨i1, rfl, rfl⟩ | ⟨z1, rfl, rfl⟩ | ⟨p, xs, ds1, rfl, rfl, hp, np, hz, hs⟩ | ⟨p, xs, ds1, rfl, rfl, hp, hz, hs⟩
        all_goals
          tm_at "e"
          exact sc _ (by simp)
      · rcases dq_cases hx with ⟨rfl, rfl⟩ | ⟨b1, rfl, rfl⟩ | ⟨i1, rfl, rfl⟩ | ⟨z1, rfl, rfl⟩ | ⟨p, xs, ds1, rfl, rfl, hp, np, hz, hs⟩ | ⟨p, xs, ds1, rfl, rfl, hp, hz, hs⟩
        all_goals
          tm_at "e"
          exact sc _ (by simp)
      · have ly := hs2.len
        tm_at "e"
        rcases dq_cases hx with ⟨rfl, rfl⟩ | ⟨b1, rfl, rfl⟩ | ⟨i1, rfl, rfl⟩ | ⟨z1, rfl, rfl⟩ | ⟨p, xs, ds1, rfl, rfl, hp, np, hz, hs⟩ | ⟨p, xs, ds1, rfl, rfl, hp, hz, hs⟩
        rotate_right
        · tm_at "e"
          exact sc _ (by simp)
        rotate_right
        · have lx := hs.len
          tm_at "e"
          intro t H1 ht e1 ht1
          tm_at "e"
          refine w_isi2 (hx.ext e1) ht1 ?_
          have hp := e1.seq np hp
          have hq := e1.seq nq hq
          tm_at "e"
          refine w_iteN (fun c => ?_) fun c => ?_
          · tm_at "r"
            refine k _ _ ⟨fun h => (by cases h), fun h => ?_⟩ e1
            cases h
            exact absurd (by omega) c
          have hll : ds1.length = ds2.length := by omega
          tm_at "r"
          have hss := DqAll.ext e1 _ hs
          have hss2 := DqAll.ext e1 _ hs2
          refine lcF src_rng (fun i acc => ∃ ns : List Int, acc = ns.map V.int ∧ (ns = [] ↔ ∀ j, j < i → ds1[j]? = ds2[j]?)) ⟨[], rfl, by simp⟩ (fun i acc ⟨ns, h, _⟩ => by rw [h]; exact nsh_ints ns) (by omega) (fun _ => rfl) (fun i z acc H2 NF NE hi hzz ⟨ns, ha, hiff⟩ e2 kF kE => ?_) fun D acc H2 ⟨ns, ha, hiff⟩ hD e2 hDa hl => ?_
          · subst hzz
            obtain ⟨dd, hdd⟩ : ∃ dd, ds1[i]? = some dd := ⟨ds1[i]'(by omega), List.getElem?_eq_getElem (by omega)⟩
            obtain ⟨ee, hee⟩ : ∃ ee, ds2[i]? = some ee := ⟨ds2[i]'(by omega), List.getElem?_eq_getElem (by omega)⟩
            obtain ⟨v1, hv1, dq1⟩ := hss.get hdd
            obtain ⟨v2, hv2, dq2⟩ := hss2.get hee
            have e0 : (0 : Int) + (i : Int) = (i : Int) := by omega
            rw [e0]
            tm_at "r"
            refine w_ixAL (e2.seq np hp) (atI_k hv1) ?_
            tm_at "r"
            refine w_ixAL (e2.seq nq hq) (atI_k hv2) ?_
            tm_at "r"
            have hdep : PyData.depth ee < n := by
              have := dep_mem (n := n - 1) (xs := ds2) (by simp only [PyData.depth] at hd; omega) ee (List.mem_of_getElem? hee)
              simp only [PyData.depth] at hd
              omega
            refine u_alikeG (dq1.ext e2) (dq2.ext e2) hdep fun b H3 hbb e3 => ?_
            cases b with
            | true =>
              have hsame := hbb.mp rfl
              tm_at "e"
              refine kF _ e3 ⟨ns, ha, hiff.trans ⟨fun h j hj => ?_, fun h j hj => h j (by omega)⟩⟩
              by_cases ej : j = i
              · rw [ej, hdd, hee, hsame]
              · exact h j (by omega)
            | false =>
              have hne : dd ≠ ee := fun h => by have := hbb.mpr h; cases this
              tm_at "e"
              refine kE _ _ e3 ⟨ns ++ [(i : Int)], by rw [ha, List.map_append]; rfl, ⟨fun h => absurd h (by simp), fun h => ?_⟩⟩
              have := h i (by omega)
              rw [hdd, hee] at this
              exact absurd (Option.some.inj this) hne
          · subst ha
            tm_at "r"
            intro t2 H3 ht2 e3 ht3
            refine w_eqDb (b := decide (ns = [])) (d := .list (ns.map PyData.int)) (.lst (e3.seq (nsh_ints ns) (SqL.of hDa)) (dpAll_map (fun x => .int _) ns)) (dp_e (SqL.of ht3)) ((nice_list nice_int).shaped (by decide) ns) shaped_e (eqv_e PyData.int ns) ?_
            refine k _ _ ?_ ((e1.trans e2).trans e3)
            rw [decide_eq_true_eq, hiff]
            constructor
            · intro h
              refine congrArg _ (List.ext_getElem? fun j => ?_)
              by_cases hj : j < xs.length
              · exact h j (by omega)
              · rw [List.getElem?_eq_none (by omega), List.getElem?_eq_none (by omega)]
            · intro h j _
              cases h
              rfl
        all_goals
          tm_at "e"
          intro t H1 ht e1 ht1
          tm_at "e"
          refine w_isi2 (hx.ext e1) ht1 ?_
          tm_at "e"
          exact k _ _ (by simp) e1
      · have ly := hs2.len
        tm_at "e"
        rcases dq_cases hx with ⟨rfl, rfl⟩ | ⟨b1, rfl, rfl⟩ | ⟨i1, rfl, rfl⟩ | ⟨z1, rfl, rfl⟩ | ⟨p, xs, ds1, rfl, rfl, hp, np, hz, hs⟩ | ⟨p, xs, ds1, rfl, rfl, hp, hz, hs⟩
        rotate_right
        · have lx := hs.len
          tm_at "e"
          intro t H1 ht e1 ht1
          tm_at "e"
          refine w_isi2 (hx.ext e1) ht1 ?_
          have hp := e1.tup hp
          have hq := e1.tup hq
          tm_at "e"
          refine w_iteN (fun c => ?_) fun c => ?_
          · tm_at "r"
            refine k _ _ ⟨fun h => (by cases h), fun h => ?_⟩ e1
            cases h
            exact absurd (by omega) c
          have hll : ds1.length = ds2.length := by omega
          tm_at "r"
          have hss := DqAll.ext e1 _ hs
          have hss2 := DqAll.ext e1 _ hs2
          refine lcF src_rng (fun i acc => ∃ ns : List Int, acc = ns.map V.int ∧ (ns = [] ↔ ∀ j, j < i → ds1[j]? = ds2[j]?)) ⟨[], rfl, by simp⟩ (fun i acc ⟨ns, h, _⟩ => by rw [h]; exact nsh_ints ns) (by omega) (fun _ => rfl) (fun i z acc H2 NF NE hi hzz ⟨ns, ha, hiff⟩ e2 kF kE => ?_) fun D acc H2 ⟨ns, ha, hiff⟩ hD e2 hDa hl => ?_
          · subst hzz
            obtain ⟨dd, hdd⟩ : ∃ dd, ds1[i]? = some dd := ⟨ds1[i]'(by omega), List.getElem?_eq_getElem (by omega)⟩
            obtain ⟨ee, hee⟩ : ∃ ee, ds2[i]? = some ee := ⟨ds2[i]'(by omega), List.getElem?_eq_getElem (by omega)⟩
            obtain ⟨v1, hv1, dq1⟩ := hss.get hdd
            obtain ⟨v2, hv2, dq2⟩ := hss2.get hee
            have e0 : (0 : Int) + (i : Int) = (i : Int) := by omega
            rw [e0]
            tm_at "r"
            refine w_ixAT (e2.tup hp) (atI_k hv1) ?_
            tm_at "r"
            refine w_ixAT (e2.tup hq) (atI_k hv2) ?_
            tm_at "r"
            have hdep : PyData.depth ee < n := by
              have := dep_mem (n := n - 1) (xs := ds2) (by simp only [PyData.depth] at hd; omega) ee (List.mem_of_getElem? hee)
              simp only [PyData.depth] at hd
              omega
            refine u_alikeG (dq1.ext e2) (dq2.ext e2) hdep fun b H3 hbb e3 => ?_
            cases b with
            | true =>
              have hsame := hbb.mp rfl
              tm_at "e"
              refine kF _ e3 ⟨ns, ha, hiff.trans ⟨fun h j hj => ?_, fun h j hj => h j (by omega)⟩⟩
              by_cases ej : j = i
              · rw [ej, hdd, hee, hsame]
              · exact h j (by omega)
            | false =>
              have hne : dd ≠ ee := fun h => by have := hbb.mpr h; cases this
              tm_at "e"
              refine kE _ _ e3 ⟨ns ++ [(i : Int)], by rw [ha, List.map_append]; rfl, ⟨fun h => absurd h (by simp), fun h => ?_⟩⟩
              have := h i (by omega)
              rw [hdd, hee] at this
              exact absurd (Option.some.inj this) hne
          · subst ha
            tm_at "r"
            intro t2 H3 ht2 e3 ht3
            refine w_eqDb (b := decide (ns = [])) (d := .list (ns.map PyData.int)) (.lst (e3.seq (nsh_ints ns) (SqL.of hDa)) (dpAll_map (fun x => .int _) ns)) (dp_e (SqL.of ht3)) ((nice_list nice_int).shaped (by decide) ns) shaped_e (eqv_e PyData.int ns) ?_
            refine k _ _ ?_ ((e1.trans e2).trans e3)
            rw [decide_eq_true_eq, hiff]
            constructor
            · intro h
              refine congrArg _ (List.ext_getElem? fun j => ?_)
              by_cases hj : j < xs.length
              · exact h j (by omega)
              · rw [List.getElem?_eq_none (by omega), List.getElem?_eq_none (by omega)]
            · intro h j _
              cases h
              rfl
        all_goals
          tm_at "e"
          exact sc _ (by simp)
end
end My
end

section
open PySem L2 Lw
local macro_rules | `(tactic| tm_at "s") => `(tactic| first
  | with_reducible refine w_seq ?_ | with_reducible refine w_asg ?_ | with_reducible refine w_gname ?_ | with_reducible refine w_ret ?_ | with_reducible refine w_drop ?_ | with_reducible refine w_ifS ?_ | with_reducible refine w_next ?_ | with_reducible refine w_retN ?_
  | with_reducible refine w_c ?_ | ((with_reducible refine w_var (v := ?vv) ?hh ?kk); (case hh => exact rfl)) | with_reducible refine w_op ?_ | with_reducible refine w_un ?_ | with_reducible refine w_cons ?_ | with_reducible refine w_nil ?_ | with_reducible refine w_test ?_ | with_reducible refine w_B ?_
  | with_reducible refine w_isbl ?_ | with_reducible refine w_not ?_ | with_reducible refine w_and ?_ | with_reducible refine w_or ?_ | with_reducible refine w_andV ?_ | with_reducible refine w_orV ?_ | with_reducible refine w_notV ?_ | with_reducible refine w_if ?_ | with_reducible refine w_chain ?_
  | with_reducible refine w_isN ?_ | with_reducible refine w_notN ?_ | with_reducible refine w_yes ?_ | with_reducible refine w_call ?_ | with_reducible refine w_CB ?_ | with_reducible refine w_tup ?_ | with_reducible refine w_lst ?_ | with_reducible refine w_sl ?_ | with_reducible refine w_noPart ?_
  | with_reducible refine w_part ?_ | with_reducible refine w_isint ?_ | with_reducible refine w_gSub ?_ | with_reducible refine w_break ?_ | with_reducible refine w_cont ?_
  | with_reducible refine w_I0 ?_ | with_reducible refine w_eqI ?_ | with_reducible refine w_neI ?_ | with_reducible refine w_eqS ?_ | with_reducible refine w_neS ?_ | with_reducible refine w_eqB ?_ | with_reducible refine w_neB ?_ | ((with_reducible refine w_isi (d := ?dd) ?hh ?kk); (case hh => assumption))
  | with_reducible refine w_sg ?_ | with_reducible refine w_notSg ?_ | with_reducible refine w_starts ?_ | with_reducible refine w_max2 ?_ | with_reducible refine w_min2 ?_ | with_reducible refine w_intB ?_ | with_reducible refine w_intI ?_ | with_reducible refine w_bm ?_ | with_reducible refine w_bm0 ?_ | with_reducible refine w_m1 ?_ | with_reducible refine w_m0 ?_ | with_reducible refine w_isstr ?_
  | with_reducible refine w_for ?_ | with_reducible refine w_lc ?_ | with_reducible refine w_rng ?_ | with_reducible refine w_rng2 ?_ | with_reducible refine w_ilist ?_ | with_reducible refine w_itup ?_ | with_reducible refine w_istr ?_ | with_reducible refine w_strOk ?_
  | ((with_reducible refine w_rngOk ?hh ?h2 ?kk); (case hh => omega); (case h2 => omega)) | ((with_reducible refine w_lstOk (xs := ?xx) ?hh ?kk); (case hh => assumption))
  | ((with_reducible refine w_alL ?hh ?kk); (case hh => exact Nat.le_of_ble_eq_true rfl)) | ((with_reducible refine w_alT ?hh ?kk); (case hh => exact Nat.le_of_ble_eq_true rfl))
  | ((with_reducible refine w_lenL (xs := ?xx) ?hh ?kk); (case hh => assumption)) | ((with_reducible refine w_lenT (xs := ?xx) ?hh ?kk); (case hh => assumption))
  | ((with_reducible refine w_I ?hh ?kk); (case hh => first | (show _ ≠ (0 : Int); omega) | (show (0 : Int) < _; omega) | exact ⟨by omega, by omega⟩ | exact .inl ⟨by omega, by omega⟩ | exact .inr ⟨by omega, by omega⟩ | exact ⟨by decide, by decide, by decide⟩))
  | with_reducible refine w_din ?_ | with_reducible refine w_dnot ?_ | with_reducible refine w_dget ?_ | with_reducible refine w_dput ?_ | with_reducible refine w_fld ?_ | with_reducible refine w_sto ?_ | with_reducible refine w_meth ?_ | with_reducible refine w_pop1 ?_ | with_reducible refine w_pop2 ?_ | with_reducible refine w_ikeys ?_
  | ((with_reducible refine f_width (CW := ?v1) (dx := ?v2) (t := ?v3) (l := ?v4) (w := ?v5) (told := ?v6) (many := ?v7) ?tw ?hh ?kk); (case tw => assumption); (case hh => assumption))
  | ((with_reducible refine f_things (CW := ?v1) (dx := ?v2) (t := ?v3) (l := ?v4) (w := ?v5) (told := ?v6) (many := ?v7) ?tw ?hh ?kk); (case tw => assumption); (case hh => assumption))
  | ((with_reducible refine f_listening (CW := ?v1) (dx := ?v2) (t := ?v3) (l := ?v4) (w := ?v5) (told := ?v6) (many := ?v7) ?tw ?hh ?kk); (case tw => assumption); (case hh => assumption))
  | ((with_reducible refine f_tolds (CW := ?v1) (dx := ?v2) (t := ?v3) (l := ?v4) (w := ?v5) (b := ?v6) (many := ?v7) ?tw ?hh ?kk); (case tw => assumption); (case hh => assumption))
  | ((with_reducible refine f_told (CW := ?v1) (dx := ?v2) (t := ?v3) (l := ?v4) (w := ?v5) (told := ?v6) (many := ?v7) ?tw ?hh ?kk); (case tw => assumption); (case hh => assumption))
  | ((with_reducible refine f_many (CW := ?v1) (dx := ?v2) (t := ?v3) (l := ?v4) (w := ?v5) (told := ?v6) (many := ?v7) ?tw ?hh ?kk); (case tw => assumption); (case hh => assumption))
  | ((with_reducible refine w_ixL (v := ?vv) (xs := ?xx) ?hh ?h2 ?kk); (case hh => assumption); (case h2 => exact rfl)) | ((with_reducible refine w_ixT (v := ?vv) (xs := ?xx) ?hh ?h2 ?kk); (case hh => assumption); (case h2 => exact rfl)))
local macro_rules | `(tactic| tm_at "r") => `(tactic| repeat tm_at "s")
local macro_rules | `(tactic| tm_at "b") => `(tactic| first | refine w_iteT (by with_reducible rfl) ?_ | refine w_iteF (by with_reducible rfl) ?_ | refine w_iteT (by rfl) ?_ | refine w_iteF (by rfl) ?_)
local macro_rules | `(tactic| tm_at "e") => `(tactic| repeat (first | tm_at "s" | tm_at "b"))
namespace My
abbrev s_are_bits : Stmt := top 20
theorem sc_are_bits : FnScope ["part", "sign"] ["part"] (defScope s_are_bits) := ⟨rfl, rfl, rfl, by decide +kernel, rfl, by decide +kernel, by decide +kernel⟩
abbrev s_is_number : Stmt := top 21
theorem sc_is_number : FnScope ["width", "part"] ["width", "part"] (defScope s_is_number) := ⟨rfl, rfl, rfl, by decide +kernel, rfl, by decide +kernel, by decide +kernel⟩
abbrev s_need_width : Stmt := top 19
theorem sc_need_width : FnScope ["width"] ["width"] (defScope s_need_width) := ⟨rfl, rfl, rfl, by decide +kernel, rfl, by decide +kernel, by decide +kernel⟩
abbrev s_look_at : Stmt := top 23
theorem sc_look_at : FnScope ["numbers", "beginning", "some", "number"] ["numbers", "beginning"] (defScope s_look_at) := ⟨rfl, rfl, rfl, by decide +kernel, rfl, by decide +kernel, by decide +kernel⟩
def bitsD : PyData → Bool
  | .str x => bitsS x
  | _ => false
def numD (w : Int) : PyData → Bool
  | .str x => bitsS x && decide ((x.length : Int) = w)
  | _ => false
def OkD (d : PyData) : Prop := PyData.canLay0 d = true ∧ ∀ x, d = .str x → x.length ≤ 100000
theorem numD_bits (l : List Bool) (w : Nat) : numD (w : Int) (.str (B l)) = decide (l.length = w) := by
  simp only [numD, bits_B, Bool.true_and, B_len]
  by_cases h : l.length = w
  · simp [h]
  · rw [decide_eq_false h]
    exact decide_eq_false (by omega)
def sp_are_bits (K : PySem.W.Frag) : Sp := fun vs H Q _ => ∃ (v : V) (d : PyData), vs = [v] ∧ Dq K H v d ∧ OkD d ∧ ∀ H', Ext H H' → Q (.bl (bitsD d)) H'
def sp_is_number (K : PySem.W.Frag) : Sp := fun vs H Q _ => ∃ (w : Int) (v : V) (d : PyData), vs = [.int w, v] ∧ Dq K H v d ∧ OkD d ∧ ∀ H', Ext H H' → Q (.bl (numD w d)) H'
def sp_need_number (K : PySem.W.Frag) (c : Addr) : Sp := fun vs H Q E => ∃ (w : Int) (v : V) (d : PyData), vs = [.int w, v] ∧ Dq K H v d ∧ OkD d ∧ (numD w d = true → ∀ H', Ext H H' → Q .non H') ∧ (numD w d = false → ∀ H', Ext H H' → E (.ref c) none H')
def sp_need_width (c : Addr) : Sp := fun vs H Q E => ∃ (w : Int), vs = [.int w] ∧ (1 ≤ w ∧ w ≤ 12 → Q .non H) ∧ (¬ (1 ≤ w ∧ w ≤ 12) → E (.ref c) none H)
theorem u_are_bits {K : PySem.W.Frag} {H : Hp} {Q : VK} {E : XK} {v : V} {d : PyData} (h : Dq K H v d) (h2 : OkD d) (k : ∀ H', Ext H H' → Q (.bl (bitsD d)) H') : sp_are_bits K ([v] ++ []) H Q E := ⟨v, d, rfl, h, h2, k⟩
theorem u_is_number {K : PySem.W.Frag} {H : Hp} {Q : VK} {E : XK} {w : Int} {v : V} {d : PyData} (h : Dq K H v d) (h2 : OkD d) (k : ∀ H', Ext H H' → Q (.bl (numD w d)) H') : sp_is_number K ([.int w, v] ++ []) H Q E := ⟨w, v, d, rfl, h, h2, k⟩
def sp_look_at (K : PySem.W.Frag) : Sp := fun vs H Q _ => ∃ (a : Addr) (ls : List (List Bool)) (p : List Bool), vs = [.ref a, .str (B p)] ∧ (SqL K H a (bvs ls) ∨ SqT K H a (bvs ls)) ∧ ls.length ≤ 1000 ∧ (∀ l ∈ ls, p.length < l.length ∧ l.length ≤ 1000) ∧
  ∀ (t : Addr) (H' : Hp), H t = none → Ext H H' → H' t = some (.tup [.bl (lookZ ls p false), .bl (lookZ ls p true)]) → Q (.ref t) H'
theorem u_look_atT {K : PySem.W.Frag} {H : Hp} {Q : VK} {E : XK} {a : Addr} {ls : List (List Bool)} {p : List Bool} (h1 : SqT K H a (bvs ls)) (h2 : ls.length ≤ 1000) (h3 : ∀ l ∈ ls, p.length < l.length ∧ l.length ≤ 1000)
    (k : ∀ (t : Addr) (H' : Hp), H t = none → Ext H H' → H' t = some (.tup [.bl (lookZ ls p false), .bl (lookZ ls p true)]) → Q (.ref t) H') : sp_look_at K ([.ref a, .str (B p)] ++ []) H Q E := ⟨a, ls, p, rfl, .inr h1, h2, h3, k⟩
/-- the kinds -/
def sp_need_kind (c : Addr) : Sp := fun vs H Q E => ∃ (x : Str), vs = [.str x] ∧ (x = "all" ∨ x = "alarm" → Q .non H) ∧ (¬ (x = "all" ∨ x = "alarm") → E (.ref c) none H)
section
variable {P : Program} {w : World} {K : PySem.W.Frag} {mg : Str → Option Value} {base : Heap}
theorem ok_are_bits {f : Addr} {fd : FuncData} (F : Fun K "are_bits" "are_bits" s_are_bits f fd) (T : TxB mg) : FnOk P w K mg base (L2.CX P w) 1 f fd ["part"] (sp_are_bits K) := by
  refine F.okX sc_are_bits (fun vs H Q E h => ?_) (fun cdv A outer s H vs Q E hr h => ⟨_, (pss_one (ps_ret (pe_and (pe_callB (cIsi (K := K) rfl) (by rfl) T.n_isinstance (by decide +kernel) (pa_cons (pv 0) (pa_cons (pe_bltn (v := .ty "str") rfl T.n_str (by decide +kernel) rfl) pa_nil))) (pe_one (pe_cmpR (oEqD (K := K) rfl hr.units) (pe_lc (own := [("sign", 1)]) (g := gName 1) rfl sc_are_bits.nd (pi_str (pv 0)) (blkOk_by (own := [("sign", 1)]) (N := ["part", "sign"]) (sc := defScope s_are_bits) (by decide +kernel)) (fun _ _ _ _ _ => pg_name (i := 1) sc_are_bits.nd rfl (Or.inl rfl)) (fun _ _ _ _ _ => pts_one (pt_cmpR o_notSg (pv 1) pe_str rfl)) (fun _ _ _ _ _ => (pv 1))) (pe_lst pa_nil) (nomark _)))))), ?_⟩)
  · obtain ⟨v, d, rfl, _⟩ := h
    rfl
  · obtain ⟨v, d, rfl, hv, hd, k⟩ := h
    cases hv with
    | str x =>
      have hv : Dq K H (.str x) (.str x) := .str x
      tm_at "e"
      refine lcF src_str (fun i acc => acc = ((x.cps.toList.take i).filter fun c => !bitC c).map fun c => V.str ⟨#[c]⟩) rfl (fun i acc e => by
          rw [e]
          have := nsh_strs (((x.cps.toList.take i).filter fun c => !bitC c).map fun c => (⟨#[c]⟩ : Str))
          rw [List.map_map] at this
          exact this) (hd.2 x rfl) (fun _ => rfl) (fun i z acc H2 NF NE hi hz ha e2 kF kE => ?_) fun D acc H2 ha hD e2 hDa hl => ?_
      · obtain ⟨c, hc, rfl⟩ := hz
        have et : x.cps.toList.take (i + 1) = x.cps.toList.take i ++ [c] := by
          rw [List.take_succ, hc]
          rfl
        tm_at "r"
        rw [mem_01]
        tm_at "r"
        refine w_iteB (fun hb => ?_) fun hb => ?_
        · tm_at "r"
          refine kE _ _ (Ext.refl _) ?_
          rw [et, List.filter_append, List.map_append, ha]
          simp [hb]
        · refine kF _ (Ext.refl _) ?_
          rw [et, List.filter_append, List.map_append, ha]
          simp [hb]
      · have el : x.cps.toList.take x.length = x.cps.toList := List.take_of_length_le (by simp [Str.length])
        rw [el] at ha
        tm_at "r"
        intro t H3 ht e3 ht3
        have hb : (decide (((x.cps.toList).filter fun c => !bitC c) = []) : Bool) = bitsS x := by
          unfold bitsS
          rw [Bool.eq_iff_iff, decide_eq_true_iff, List.all_eq_true, List.filter_eq_nil_iff]
          simp
        have hDa3 : SqL K H3 D acc := by
          refine e3.seq ?_ (SqL.of hDa)
          rw [ha]
          have := nsh_strs (((x.cps.toList).filter fun c => !bitC c).map fun c => (⟨#[c]⟩ : Str))
          rw [List.map_map] at this
          exact this
        have hdp : Dp K H3 (.ref D) (.list (((x.cps.toList).filter fun c => !bitC c).map fun c => PyData.str ⟨#[c]⟩)) := by
          refine .lst hDa3 ?_
          rw [ha]
          exact dpAll_map (fun c => .str _) _
        have hlay : ∀ c ∈ x.cps.toList, PyData.canLay0 (.str ⟨#[c]⟩) = true := fun c hc => by
          have h0 := hd.1
          simp only [PyData.canLay0, PyData.strOk] at h0 ⊢
          rw [Array.all_eq_true'] at h0
          have := h0 c (by simpa using hc)
          simpa using this
        refine w_eqD hdp (dp_nil (SqL.of ht3)) (shaped_mk (n := 1) ?_ ?_ (by decide)) (shaped_mk (n := 1) (by simp [PyData.canLay0, PyData.canLayAll0]) (by simp [PyData.depth, PyData.depthAll]) (by decide)) ?_
        · simp only [PyData.canLay0]
          refine lay_all fun y hy => ?_
          obtain ⟨c, hc, rfl⟩ := List.mem_map.mp hy
          exact hlay c (List.mem_filter.mp hc).1
        · simp only [PyData.depth]
          have := dep_all (n := 0) (xs := ((x.cps.toList).filter fun c => !bitC c).map fun c => PyData.str ⟨#[c]⟩) fun y hy => by
            obtain ⟨c, hc, rfl⟩ := List.mem_map.mp hy
            simp [PyData.depth]
          omega
        · have ee : PyData.eqv (.list (((x.cps.toList).filter fun c => !bitC c).map fun c => PyData.str ⟨#[c]⟩)) (.list []) = bitsS x := by
            rw [← hb]
            cases h : (x.cps.toList).filter fun c => !bitC c with
            | nil => simp [PyData.eqv, PyData.eqvAll]
            | cons c cs => simp [PyData.eqv, PyData.eqvAll]
          rw [ee]
          exact k _ (e2.trans e3)
    | non =>
      have hv : Dq K H .non .none := .non
      tm_at "e"
      exact k _ (Ext.refl _)
    | bl b =>
      have hv : Dq K H (.bl b) (.bool b) := .bl b
      tm_at "e"
      exact k _ (Ext.refl _)
    | int i =>
      have hv : Dq K H (.int i) (.int i) := .int i
      tm_at "e"
      exact k _ (Ext.refl _)
    | lst h n hz hs =>
      have hv : Dq K H _ _ := .lst h n hz hs
      tm_at "e"
      exact k _ (Ext.refl _)
    | tup h hz hs =>
      have hv : Dq K H _ _ := .tup h hz hs
      tm_at "e"
      exact k _ (Ext.refl _)
theorem ok_is_number {f : Addr} {fd : FuncData} (F : Fun K "is_number" "is_number" s_is_number f fd) (T : TxB mg) (C_are_bits : Cal P w K mg base 1 "are_bits" ["part"] (sp_are_bits K)) : FnOk P w K mg base (L2.CX P w) 2 f fd ["width", "part"] (sp_is_number K) := by
  refine F.okX sc_is_number (fun vs H Q E h => ?_) (fun cdv A outer s H vs Q E hr h => ⟨_, (pss_one (ps_ret (pe_and (pe_cal (E := E0) C_are_bits (hr.mono (by first | decide | omega)) passL (pa_cons (pv 1) pa_nil)) (pe_one (pe_cmpR op_eq (pe_callB c_lenT (by rfl) T.n_len (by decide +kernel) (pa_cons (pv 1) pa_nil)) (pv 0) (nomark _)))))), ?_⟩)
  · obtain ⟨w, v, d, rfl, _⟩ := h
    rfl
  · obtain ⟨n, v, d, rfl, hv, hd, k⟩ := h
    tm_at "r"
    refine u_are_bits hv hd fun H1 e1 => ?_
    tm_at "r"
    refine w_iteB (fun hb => ?_) fun hb => ?_
    · cases hv with
      | str x =>
        tm_at "r"
        refine w_lenS (hd.2 x rfl) ?_
        tm_at "r"
        have : decide ((x.length : Int) = n) = numD n (.str x) := by
          simp only [bitsD] at hb
          simp only [numD, hb, Bool.true_and]
        rw [this]
        exact k _ e1
      | _ => simp [bitsD] at hb
    · have : false = numD n d := by
        cases d <;> simp_all [bitsD, numD]
      rw [this]
      exact k _ e1
theorem ok_need_width {f c : Addr} {fd : FuncData} {tw : Tok} (F : Fun K "need_width" "need_width" s_need_width f fd) (T : TxB mg) (k_MOST_WIDTH : mg "MOST_WIDTH" = some (.int 12 tw)) (X_BadWidth : ExcC K mg "BadWidth" c) :
    FnOk P w K mg base (L2.CX P w) 1 f fd ["width"] (sp_need_width c) := by
  refine F.okX sc_need_width (fun vs H Q E h => ?_) (fun cdv A outer s H vs Q E hr h => ⟨_, (pss_one (ps_if (PW.pt (pw_or (pt_not (pt_val (pe_callB (cIsi (K := K) rfl) (by rfl) T.n_isinstance (by decide +kernel) (pa_cons (pv 0) (pa_cons (pe_bltn (v := .ty "int") rfl T.n_int (by decide +kernel) rfl) pa_nil))))) (pw_or (pt_val (pe_callB (cIsi (K := K) rfl) (by rfl) T.n_isinstance (by decide +kernel) (pa_cons (pv 0) (pa_cons (pe_bltn (v := .ty "bool") rfl T.n_bool (by decide +kernel) rfl) pa_nil)))) (pw_or1 (pt_not (pt_chain op_le op_le pe_int (pv 0) (pe_glob (v := .int 12) rfl k_MOST_WIDTH ⟨_, rfl⟩)))))))
 (pss_one (ps_raise rfl (takes_of rfl rfl rfl rfl) (pmkC X_BadWidth)))
 pss_nil)), ?_⟩)
  · obtain ⟨w, rfl, _⟩ := h
    rfl
  · obtain ⟨n, rfl, k, k2⟩ := h
    have hv : Dq K H (.int n) (.int n) := .int n
    tm_at "r"
    tm_at "b"
    tm_at "r"
    tm_at "b"
    tm_at "r"
    refine w_iteD (fun c1 => ?_) fun c1 => ?_
    · tm_at "r"
      by_cases c2 : n ≤ 12
      · rw [decide_eq_true c2]
        tm_at "r"
        tm_at "b"
        tm_at "r"
        exact k ⟨c1, c2⟩
      · rw [decide_eq_false c2]
        tm_at "r"
        tm_at "b"
        exact k2 fun h => c2 h.2
    · tm_at "r"
      tm_at "b"
      exact k2 fun h => c1 h.1
theorem ok_look_at {f : Addr} {fd : FuncData} (F : Fun K "look_at" "look_at" s_look_at f fd) (T : TxB mg) : FnOk P w K mg base (L2.CX P w) 1 f fd ["numbers", "beginning"] (sp_look_at K) := by
  refine F.okX sc_look_at (fun vs H Q E h => ?_) (fun cdv A outer s H vs Q E hr h => ⟨_, (pss_cons (ps_setLc (i := 2) (own := [("number", 3)]) (g := gName 3) rfl sc_look_at.nd rfl rfl (sw_true rfl rfl rfl (by decide +kernel)) (pi_or (piL (K := K) rfl (pv 0)) (piT (K := K) rfl (pv 0))) (blkOk_by (own := [("number", 3)]) (N := ["numbers", "beginning", "some", "number"]) (sc := defScope s_look_at) (by decide +kernel)) (fun _ _ _ _ _ => pg_name (i := 3) sc_look_at.nd rfl (Or.inl rfl)) (fun _ _ _ _ _ => pts_one (pt_val (pe_m1 PySem.F.slot_str_startswith PySem.F.type_str_startswith m_starts (pv 3) (pv 1)))) (fun _ _ _ _ _ => (pe_ix ix_str (pv 3) (pe_callB c_lenT (by rfl) T.n_len (by decide +kernel) (pa_cons (pv 1) pa_nil)) (fun _ _ => rfl))))
 (pss_one (ps_ret (pe_tup (pa_cons (pe_cmpR (oIn (K := K) rfl) pe_str (pv 2) (by rfl)) (pa_cons (pe_cmpR (oIn (K := K) rfl) pe_str (pv 2) (by rfl)) pa_nil)))))), ?_⟩)
  · obtain ⟨a, ls, p, rfl, _⟩ := h
    rfl
  · obtain ⟨a, ls, p, rfl, ha, hz, hl, k⟩ := h
    tm_at "r"
    rcases ha with ha | ha
    · refine w_iorL ?_
      tm_at "r"
      refine lcF (src_lst ha (nsh_bvs _)) (fun i acc => acc = bvs (((ls.take i).filter fun l => decide (p <+: l)).map fun l => [l.getD p.length false])) rfl (fun i acc e => by rw [e]; exact nsh_bvs _) (by rw [bvs_len]; omega) (fun _ => rfl) (fun i z acc H2 NF NE hi hx hacc e2 kF kE => ?_) fun D acc H2 hacc hD e2 hDa _ => ?_
      · obtain ⟨l, hl1, rfl⟩ := bvs_get hx
        have et : ls.take (i + 1) = ls.take i ++ [l] := by
          rw [List.take_succ, hl1]
          rfl
        have hlen := hl l (List.mem_of_getElem? hl1)
        tm_at "r"
        rw [starts_B]
        tm_at "r"
        refine w_iteD (fun hb => ?_) fun hb => ?_
        · tm_at "r"
          refine w_lenS (by rw [B_len]; omega) ?_
          rw [B_len]
          obtain ⟨b, hb1⟩ : ∃ b, l[p.length]? = some b := ⟨l[p.length]'hlen.1, List.getElem?_eq_getElem hlen.1⟩
          refine w_ixS (by rw [B_len]; omega) (B_at (atI_k hb1)) ?_
          refine kE _ _ (Ext.refl _) ?_
          rw [et, List.filter_append, List.map_append, hacc, ← bvs_append]
          congr 1
          simp [hb, bvs, bv, List.getD_eq_getElem?_getD, hb1]
          rfl
        · refine kF _ (Ext.refl _) ?_
          rw [et, List.filter_append, List.map_append, hacc]
          simp [hb]
      · rw [bvs_len, List.take_length] at hacc
        subst hacc
        tm_at "r"
        refine w_in (SqL.of hDa) rfl (bvs_flat _) ?_
        rw [B_0, inV_bvs, lookZ_mem _ _ _ fun l hl2 => (hl l hl2).1]
        tm_at "r"
        refine w_in (SqL.of hDa) rfl (bvs_flat _) ?_
        rw [B_1, inV_bvs, lookZ_mem _ _ _ fun l hl2 => (hl l hl2).1]
        tm_at "r"
        intro t H3 ht e3 ht3
        exact k t H3 (e2.free ht) (e2.trans e3) ht3
    · refine w_iorT ?_
      tm_at "r"
      refine w_tupOk ha ?_
      refine lcF (src_tup ha) (fun i acc => acc = bvs (((ls.take i).filter fun l => decide (p <+: l)).map fun l => [l.getD p.length false])) rfl (fun i acc e => by rw [e]; exact nsh_bvs _) (by rw [bvs_len]; omega) (fun _ => rfl) (fun i z acc H2 NF NE hi hx hacc e2 kF kE => ?_) fun D acc H2 hacc hD e2 hDa _ => ?_
      · obtain ⟨l, hl1, rfl⟩ := bvs_get hx
        have et : ls.take (i + 1) = ls.take i ++ [l] := by
          rw [List.take_succ, hl1]
          rfl
        have hlen := hl l (List.mem_of_getElem? hl1)
        tm_at "r"
        rw [starts_B]
        tm_at "r"
        refine w_iteD (fun hb => ?_) fun hb => ?_
        · tm_at "r"
          refine w_lenS (by rw [B_len]; omega) ?_
          rw [B_len]
          obtain ⟨b, hb1⟩ : ∃ b, l[p.length]? = some b := ⟨l[p.length]'hlen.1, List.getElem?_eq_getElem hlen.1⟩
          refine w_ixS (by rw [B_len]; omega) (B_at (atI_k hb1)) ?_
          refine kE _ _ (Ext.refl _) ?_
          rw [et, List.filter_append, List.map_append, hacc, ← bvs_append]
          congr 1
          simp [hb, bvs, bv, List.getD_eq_getElem?_getD, hb1]
          rfl
        · refine kF _ (Ext.refl _) ?_
          rw [et, List.filter_append, List.map_append, hacc]
          simp [hb]
      · rw [bvs_len, List.take_length] at hacc
        subst hacc
        tm_at "r"
        refine w_in (SqL.of hDa) rfl (bvs_flat _) ?_
        rw [B_0, inV_bvs, lookZ_mem _ _ _ fun l hl2 => (hl l hl2).1]
        tm_at "r"
        refine w_in (SqL.of hDa) rfl (bvs_flat _) ?_
        rw [B_1, inV_bvs, lookZ_mem _ _ _ fun l hl2 => (hl l hl2).1]
        tm_at "r"
        intro t H3 ht e3 ht3
        exact k t H3 (e2.free ht) (e2.trans e3) ht3
end
end My
end

section
open PySem L2 Lw
local macro_rules | `(tactic| tm_at "s") => `(tactic| first
  | with_reducible refine w_seq ?_ | with_reducible refine w_asg ?_ | with_reducible refine w_gname ?_ | with_reducible refine w_ret ?_ | with_reducible refine w_drop ?_ | with_reducible refine w_ifS ?_ | with_reducible refine w_next ?_ | with_reducible refine w_retN ?_
  | with_reducible refine w_c ?_ | ((with_reducible refine w_var (v := ?vv) ?hh ?kk); (case hh => exact rfl)) | with_reducible refine w_op ?_ | with_reducible refine w_un ?_ | with_reducible refine w_cons ?_ | with_reducible refine w_nil ?_ | with_reducible refine w_test ?_ | with_reducible refine w_B ?_
  | with_reducible refine w_isbl ?_ | with_reducible refine w_not ?_ | with_reducible refine w_and ?_ | with_reducible refine w_or ?_ | with_reducible refine w_andV ?_ | with_reducible refine w_orV ?_ | with_reducible refine w_notV ?_ | with_reducible refine w_if ?_ | with_reducible refine w_chain ?_
  | with_reducible refine w_isN ?_ | with_reducible refine w_notN ?_ | with_reducible refine w_yes ?_ | with_reducible refine w_call ?_ | with_reducible refine w_CB ?_ | with_reducible refine w_tup ?_ | with_reducible refine w_lst ?_ | with_reducible refine w_sl ?_ | with_reducible refine w_noPart ?_
  | with_reducible refine w_part ?_ | with_reducible refine w_isint ?_ | with_reducible refine w_gSub ?_ | with_reducible refine w_break ?_ | with_reducible refine w_cont ?_
  | with_reducible refine w_I0 ?_ | with_reducible refine w_eqI ?_ | with_reducible refine w_neI ?_ | with_reducible refine w_eqS ?_ | with_reducible refine w_neS ?_ | with_reducible refine w_eqB ?_ | with_reducible refine w_neB ?_ | ((with_reducible refine w_isi (d := ?dd) ?hh ?kk); (case hh => assumption))
  | with_reducible refine w_sg ?_ | with_reducible refine w_notSg ?_ | with_reducible refine w_starts ?_ | with_reducible refine w_max2 ?_ | with_reducible refine w_min2 ?_ | with_reducible refine w_intB ?_ | with_reducible refine w_intI ?_ | with_reducible refine w_bm ?_ | with_reducible refine w_bm0 ?_ | with_reducible refine w_m1 ?_ | with_reducible refine w_m0 ?_ | with_reducible refine w_isstr ?_
  | with_reducible refine w_for ?_ | with_reducible refine w_lc ?_ | with_reducible refine w_rng ?_ | with_reducible refine w_rng2 ?_ | with_reducible refine w_ilist ?_ | with_reducible refine w_itup ?_ | with_reducible refine w_istr ?_ | with_reducible refine w_strOk ?_
  | ((with_reducible refine w_rngOk ?hh ?h2 ?kk); (case hh => omega); (case h2 => omega)) | ((with_reducible refine w_lstOk (xs := ?xx) ?hh ?kk); (case hh => assumption))
  | ((with_reducible refine w_alL ?hh ?kk); (case hh => exact Nat.le_of_ble_eq_true rfl)) | ((with_reducible refine w_alT ?hh ?kk); (case hh => exact Nat.le_of_ble_eq_true rfl))
  | ((with_reducible refine w_lenL (xs := ?xx) ?hh ?kk); (case hh => assumption)) | ((with_reducible refine w_lenT (xs := ?xx) ?hh ?kk); (case hh => assumption))
  | ((with_reducible refine w_I ?hh ?kk); (case hh => first | (show _ ≠ (0 : Int); omega) | (show (0 : Int) < _; omega) | exact ⟨by omega, by omega⟩ | exact .inl ⟨by omega, by omega⟩ | exact .inr ⟨by omega, by omega⟩ | exact ⟨by decide, by decide, by decide⟩))
  | with_reducible refine w_din ?_ | with_reducible refine w_dnot ?_ | with_reducible refine w_dget ?_ | with_reducible refine w_dput ?_ | with_reducible refine w_fld ?_ | with_reducible refine w_sto ?_ | with_reducible refine w_meth ?_ | with_reducible refine w_pop1 ?_ | with_reducible refine w_pop2 ?_ | with_reducible refine w_ikeys ?_
  | ((with_reducible refine f_width (CW := ?v1) (dx := ?v2) (t := ?v3) (l := ?v4) (w := ?v5) (told := ?v6) (many := ?v7) ?tw ?hh ?kk); (case tw => assumption); (case hh => assumption))
  | ((with_reducible refine f_things (CW := ?v1) (dx := ?v2) (t := ?v3) (l := ?v4) (w := ?v5) (told := ?v6) (many := ?v7) ?tw ?hh ?kk); (case tw => assumption); (case hh => assumption))
  | ((with_reducible refine f_listening (CW := ?v1) (dx := ?v2) (t := ?v3) (l := ?v4) (w := ?v5) (told := ?v6) (many := ?v7) ?tw ?hh ?kk); (case tw => assumption); (case hh => assumption))
  | ((with_reducible refine f_tolds (CW := ?v1) (dx := ?v2) (t := ?v3) (l := ?v4) (w := ?v5) (b := ?v6) (many := ?v7) ?tw ?hh ?kk); (case tw => assumption); (case hh => assumption))
  | ((with_reducible refine f_told (CW := ?v1) (dx := ?v2) (t := ?v3) (l := ?v4) (w := ?v5) (told := ?v6) (many := ?v7) ?tw ?hh ?kk); (case tw => assumption); (case hh => assumption))
  | ((with_reducible refine f_many (CW := ?v1) (dx := ?v2) (t := ?v3) (l := ?v4) (w := ?v5) (told := ?v6) (many := ?v7) ?tw ?hh ?kk); (case tw => assumption); (case hh => assumption))
  | ((with_reducible refine w_ixL (v := ?vv) (xs := ?xx) ?hh ?h2 ?kk); (case hh => assumption); (case h2 => exact rfl)) | ((with_reducible refine w_ixT (v := ?vv) (xs := ?xx) ?hh ?h2 ?kk); (case hh => assumption); (case h2 => exact rfl)))
local macro_rules | `(tactic| tm_at "r") => `(tactic| repeat tm_at "s")
local macro_rules | `(tactic| tm_at "b") => `(tactic| first | refine w_iteT (by with_reducible rfl) ?_ | refine w_iteF (by with_reducible rfl) ?_ | refine w_iteT (by rfl) ?_ | refine w_iteF (by rfl) ?_)
local macro_rules | `(tactic| tm_at "e") => `(tactic| repeat (first | tm_at "s" | tm_at "b"))
namespace My
def bi (c : Bool) : Int := if c then 1 else 0
section
variable (K : PySem.W.Frag) (CW cW cN cT cNT cK cR cB : Addr)
def sp_winit : Sp := fun vs H Q E => ∃ (a dx : Addr) (w : Int), vs = [.ref a, .int w] ∧ H a = some (.ins CW dx []) ∧ (¬ (1 ≤ w ∧ w ≤ 12) → E (.ref cW) none H) ∧
  ∀ (n : Nat) (t l : Addr) (H' : Hp), w = (n : Int) → 1 ≤ n → n ≤ 12 → WAt CW a dx t l ⟨n, [], [], none, 0⟩ H' → Step [a] [a, t, l] H H' → Q .non H'
def sp_hang : Sp := fun vs H Q E => ∃ (a dx t l : Addr) (M : WM) (v : V) (d : PyData), vs = [.ref a, v] ∧ WAt CW a dx t l M H ∧ WOk M ∧ M.things.length < 60 ∧ Dq K H v d ∧ OkD d ∧
  (numD M.width d = false → ∀ H', Ext H H' → E (.ref cN) none H') ∧
  (∀ x, d = .str (B x) → x.length = M.width → x ∈ M.keys → ∀ H', Ext H H' → E (.ref cT) none H') ∧
  (∀ x H', d = .str (B x) → x.length = M.width → x ∉ M.keys → WAt CW a dx t l (M.hang x) H' → Step [a, t, l] [a, t, l] H H' → Q .non H')
/-- need_thing; G: what a thing that hangs leads to -/
def sp_thing (G : Addr → Addr → Addr → Addr → WM → Bits → Hp → Hp → Prop) : Sp := fun vs H Q E => ∃ (a dx t l : Addr) (M : WM) (v : V) (d : PyData), vs = [.ref a, v] ∧ WAt CW a dx t l M H ∧ WOk M ∧ Dq K H v d ∧ OkD d ∧
  (numD M.width d = false → ∀ H', Ext H H' → E (.ref cN) none H') ∧
  (∀ x, d = .str (B x) → x.length = M.width → x ∉ M.keys → ∀ H', Ext H H' → E (.ref cNT) none H') ∧
  (∀ x H', d = .str (B x) → x.length = M.width → x ∈ M.keys → G a dx t l M x H H' → Q .non H')
def gThing : Addr → Addr → Addr → Addr → WM → Bits → Hp → Hp → Prop := fun _ _ _ _ _ _ H H' => Ext H H'
def gOff : Addr → Addr → Addr → Addr → WM → Bits → Hp → Hp → Prop := fun a dx t l M x H H' => WAt CW a dx t l (M.off x) H' ∧ Step [a, t, l] [a, t, l] H H'
def gSet (b : Bool) : Addr → Addr → Addr → Addr → WM → Bits → Hp → Hp → Prop := fun a dx t l M x H H' => WAt CW a dx t l (M.set x b) H' ∧ Step [a, t, l] [a, t, l] H H'
def sp_hung : Sp := fun vs H Q _ => ∃ (a dx t l : Addr) (M : WM), vs = [.ref a] ∧ WAt CW a dx t l M H ∧ WOk M ∧
  ∀ (p : Addr) (ls : List Bits) (H' : Hp), H p = none → Ext H H' → H' p = some (.lst (bvs ls)) → Rise ls → ls.Perm M.keys → Q (.ref p) H'
def sp_begin : Sp := fun vs H Q E => ∃ (a dx t l : Addr) (M : WM) (x : Str), vs = [.ref a, .str x] ∧ WAt CW a dx t l M H ∧ WOk M ∧ (¬ (x = "all" ∨ x = "alarm") → E (.ref cK) none H) ∧
  ∀ (l' : Addr) (H' : Hp), (x = "all" ∨ x = "alarm") → WAt CW a dx t l' (M.begin (decide (x = "all"))) H' → Step [a, t, l] [a, t, l'] H H' → Q .non H'
def Under (M : WM) (b : Bits) : Prop := M.told = some b ∧ b.length < M.width
def sp_need_round : Sp := fun vs H Q E => ∃ (a dx t l : Addr) (M : WM), vs = [.ref a] ∧ WAt CW a dx t l M H ∧ WOk M ∧ ((∀ b, ¬ Under M b) → E (.ref cR) none H) ∧ (∀ b, Under M b → Q .non H)
def sp_look : Sp := fun vs H Q E => ∃ (a dx t l : Addr) (M : WM), vs = [.ref a] ∧ WAt CW a dx t l M H ∧ WOk M ∧ ((∀ b, ¬ Under M b) → E (.ref cR) none H) ∧
  ∀ (b : Bits) (p : Addr) (H' : Hp), Under M b → H p = none → WAt CW a dx t l M.look H' → Step [a, t, l] [a, t, l] H H' → H' p = some (.tup [.bl (lookZ M.lis b false), .bl (lookZ M.lis b true)]) → Q (.ref p) H'
def sp_say : Sp := fun vs H Q E => ∃ (a dx t l : Addr) (M : WM) (i : Int), vs = [.ref a, .int i] ∧ WAt CW a dx t l M H ∧ WOk M ∧ ((∀ b, ¬ Under M b) → E (.ref cR) none H) ∧ (∀ b, Under M b → ¬ (i = 0 ∨ i = 1) → ∀ H', Ext H H' → E (.ref cB) none H') ∧
  ∀ (b : Bits) (c : Bool) (H' : Hp), Under M b → i = bi c → WAt CW a dx t l (M.say b c) H' → Step [a, t, l] [a, t, l] H H' → Q .non H'
def sp_looks : Sp := fun vs H Q _ => ∃ (a dx t l : Addr) (M : WM), vs = [.ref a] ∧ WAt CW a dx t l M H ∧ Q (.int (M.many : Int)) H
end
section
variable {P : Program} {w : World} {K : PySem.W.Frag} {mg : Str → Option Value} {base : Heap} {CW : Addr}
end
end My
end

section
/-! slices with a step of 1 or -1 -/
namespace Lw
open PySem PySem.Spec PyProof.Rows L2
def stepped {α : Type} (k : Int) (xs : List α) : List α := if k = 1 then xs else xs.reverse
def stQ (K : PySem.W.Frag) (x : V) (Q : VK) : Option Int → Hp → Prop
  | some k, G => ∃ (a : Addr) (xs : List V), x = .ref a ∧ (k = 1 ∨ k = -1) ∧ SqL K G a xs ∧ ∀ p, G p = none → Q (.ref p) (upd G p (.lst (stepped k xs)))
  | none, _ => False
def tStL (K : PySem.W.Frag) (te ts : TE) : TE := fun σ H Q => te σ H fun x H1 => tPart ts σ H1 (stQ K x Q)
section
variable {X : Cx} {e es : Expr} {te ts : TE} {p3 pos : Pos} {K : PySem.W.Frag}
end
end Lw
end

section
/-! lambdas as values: made, kept in lists, handed to a def that calls them; one parameter with the default 0 -/
namespace Lw
open PySem PySem.Spec PyProof.Rows L2 LamX
/-- captured names, globals, parameters of its own that the maker (whose names are N) does not have -/
structure LamD (N : List Str) (sc scope : Scope) : Prop where
  kind : scope.kind = .function
  co : scope.isCoroutine = false
  gen : scope.isGenerator = false
  nocell : ∀ y ∈ scope.names, y.2 ≠ .cell
  own : ∀ y ∈ scope.names, y.2 = .local → y.1 ∉ N
  free : ∀ y ∈ scope.names, y.2 = .free → sc.names.lookup y.1 = some .cell ∨ sc.names.lookup y.1 = some .free
def lamDB (N : List Str) (sc scope : Scope) : Bool :=
  decide (scope.kind = .function) && !scope.isCoroutine && !scope.isGenerator && scope.names.all fun y => !decide (y.2 = .cell) && (!decide (y.2 = .local) || !decide (y.1 ∈ N)) && (!decide (y.2 = .free) || decide (sc.names.lookup y.1 = some .cell) || decide (sc.names.lookup y.1 = some .free))
theorem lamD_by {N : List Str} {sc scope : Scope} (h : lamDB N sc scope = true) : LamD N sc scope := by
  unfold lamDB at h
  simp only [Bool.and_eq_true, Bool.or_eq_true, Bool.not_eq_true', decide_eq_true_eq, decide_eq_false_iff_not, List.all_eq_true] at h
  obtain ⟨⟨⟨a1, a2⟩, a3⟩, a4⟩ := h
  exact ⟨a1, a2, a3, fun y hy => (a4 y hy).1.1, fun y hy e => (a4 y hy).1.2.resolve_left fun z => z e, fun y hy e => by
    rcases (a4 y hy).2 with (z | z) | z
    · exact (z e).elim
    · exact .inl z
    · exact .inr z⟩
theorem LamD.has {X : Cx} {scope : Scope} (L : LamD X.N X.env.scope scope) (ok : X.Ok) : ∀ y ∈ scope.names, y.2 = .free → ∃ c, X.env.cells.lookup y.1 = some c := fun y hy e => (L.free y hy e).elim (fun z => ok.has _ (.inl z)) fun z => ok.has _ (.inr z)
/-- the function object at f -/
def LamO (f : Addr) (q : Str) (params : Arguments) (body : Expr) (scope : Scope) (cl : List (Str × Addr)) (dV : Value) (c' : Addr) : HO :=
  .ext fun h => ∃ doc pm ctv : Value, h.get? f = some (PySem.W.kdv_obj "<lambda>" q params (.expr body) scope cl dV doc pm c' ctv)
/-- its default: none, or 0 -/
def DflO (H : Hp) (dV : Value) : Prop := dV = .none ∨ ∃ T, dV = .ref T ∧ H T = some (.tup [.int 0])
/-- what a call without arguments binds -/
def BndO (q : Str) (params : Arguments) (body : Expr) (scope : Scope) (cl : List (Str × Addr)) (dV : Value) (c' : Addr) : Prop :=
  ∀ (s : Shared) (doc pm ctv : Value), (∀ T, dV = .ref T → ∃ o tk n, s.heap.get? T = some o ∧ o.data = .seq #[Value.int 0 tk] n) → ∃ binds, BindsTo s (PySem.W.kdv_fn "<lambda>" q params (.expr body) scope cl dV doc pm (.ref c') ctv) ⟨[], []⟩ binds ∧ ∀ y ∈ binds, scope.names.lookup y.1 = some .local
/-- at f stands a lambda of the def X that does t -/
structure Lam (X : Cx) (k : Nat) (H : Hp) (f : Addr) (t : XK → TE) : Prop where
  ex : ∃ (params : Arguments) (body : Expr) (scope : Scope) (dV : Value) (c' : Addr), LamD X.N X.env.scope scope ∧ H f = some (LamO f (X.env.qual ++ "<lambda>") params body scope (cloFrom X.env.cells scope.names []) dV c') ∧ H c' = some (CodeO c' (X.env.qual ++ "<lambda>")) ∧ DflO H dV ∧
    BndO (X.env.qual ++ "<lambda>") params body scope (cloFrom X.env.cells scope.names []) dV c' ∧
    ∀ (A : Around) (outer : List Env) (s : Shared) (H : Hp) (E : XK) (f c' : Addr), Room k (A.deeper (lamEnv X scope s.heap.objs.size f c')) → PE (lamCx X A outer s H E scope f c') body (t E)
theorem Lam.st {X : Cx} {k : Nat} {H H' : Hp} {f : Addr} {t : XK → TE} (h : Lam X k H f t) (st : ∀ b o, H b = some o → ((∃ φ, o = .ext φ) ∨ ∃ xs, o = .tup xs) → H' b = some o) : Lam X k H' f t := by
  obtain ⟨params, body, scope, dV, c', a1, a2, a3, a4, a5, a6⟩ := h.ex
  refine ⟨params, body, scope, dV, c', a1, st _ _ a2 (.inl ⟨_, rfl⟩), st _ _ a3 (.inl ⟨_, rfl⟩), ?_, a5, a6⟩
  rcases a4 with e | ⟨T, e, hT⟩
  · exact .inl e
  · exact .inr ⟨T, e, st _ _ hT (.inr ⟨_, rfl⟩)⟩
section
variable {X : Cx} {pins : List (Addr × Obj)} {σ : L2.St} {H HZ : Hp} {s s1 : Shared}
/-- the last part of the making: the code object is new, or found in the table; the function object is known from now on -/
theorem lam_tail {T : List (Addr × Str)} {c P : Addr} {params : Arguments} {body : Expr} {scope : Scope} {dV : Value} {pos : Pos} {E : Value → Shared → Prop} {Q : Value → Shared → Prop} (I : Inv X pins σ H s) (TB : TabB X.base X.mg c P) (hcode : X.env.code = .ref c)
    (hmem : (P, X.env.qual ++ "<lambda>") ∈ T) (huni : ∀ p ∈ T, p.1 = P → p.2 = X.env.qual ++ "<lambda>") (hT : Tabs T H) (hfree : ∀ y ∈ scope.names, y.2 = .free → ∃ c, X.env.cells.lookup y.1 = some c)
    (go : ∀ (f c' : Addr) (H1 : Hp) (s' : Shared), Inv X pins σ H1 s' → ExtN H H1 → Tabs T H1 → H f = none → H1 f = some (LamO f (X.env.qual ++ "<lambda>") params body scope (cloFrom X.env.cells scope.names []) dV c') → H1 c' = some (CodeO c' (X.env.qual ++ "<lambda>")) → Q (.ref f) s') :
    wpAny (model X.prog X.w) X.A (makeTail "<lambda>" (X.env.qual ++ "<lambda>") params (.expr body) scope X.env dV .none none pos pos.line) Q E s := by
  obtain ⟨ps, hP, ht, known⟩ := hT _ hmem
  have bP : s.heap.BuiltinsAt X.mg P := TB.bm.keeps I.bk
  have raw : s.heap.get? P = some { cls := .none, data := .fields ps } := I.hok P _ hP
  -- the function object, laid last
  have last : ∀ {H1 : Hp} {h1 : Heap} {t1 : Nat} {c' : Addr} {doc pm ctv : Value}, Inv X pins σ H1 { s with heap := h1, toks := t1 } → ExtN H H1 → Tabs T H1 → H h1.objs.size = none → H1 c' = some (CodeO c' (X.env.qual ++ "<lambda>")) →
      Q (.ref h1.objs.size) { s with heap := h1.push (PySem.W.kdv_obj "<lambda>" (X.env.qual ++ "<lambda>") params (.expr body) scope (cloFrom X.env.cells scope.names []) dV doc pm c' ctv), toks := t1 } := fun {H1 h1 t1 c' doc pm ctv} I1 eN T1 nf hc => by
    have nf1 : H1 h1.objs.size = none := I1.hok.fresh (Nat.le_refl _)
    have got : (h1.push (PySem.W.kdv_obj "<lambda>" (X.env.qual ++ "<lambda>") params (.expr body) scope (cloFrom X.env.cells scope.names []) dV doc pm c' ctv)).get? h1.objs.size = some (PySem.W.kdv_obj "<lambda>" (X.env.qual ++ "<lambda>") params (.expr body) scope (cloFrom X.env.cells scope.names []) dV doc pm c' ctv) := Heap.get?_push_size _ rfl
    have I2 := I1.laid (a := h1.objs.size) (t' := t1) (o := LamO h1.objs.size (X.env.qual ++ "<lambda>") params body scope (cloFrom X.env.cells scope.names []) dV c') (fun b u e => Heap.get?_push_of_some _ e) (Nat.le_refl _)
      ⟨⟨doc, pm, ctv, got⟩, ⟨_, got⟩, fun h1 h2 ⟨d, p, t, z⟩ st => ⟨d, p, t, st _ z⟩⟩
    have keep : ∀ b o, H1 b = some o → upd H1 h1.objs.size (LamO h1.objs.size (X.env.qual ++ "<lambda>") params body scope (cloFrom X.env.cells scope.names []) dV c') b = some o := fun b o e => by rw [upd_ne (ne_of_none e nf1)]; exact e
    exact go _ c' _ _ I2 (eN.trans (ExtN.of keep)) (T1.ext keep) nf upd_same (keep _ _ hc)
  cases hc : codeAmong pos ps.toList with
  | none =>
    refine PySem.W.kdv_makeTail (mg := X.mg) (c := c) (P := P) (ps := ps) (closure_ok hfree) I.ok.glob (I.mod.glob.keeps I.bk) hcode (TB.code.keeps I.bk) raw ht hc TB.gP bP fun c' ctv doc h' tk hx hge hlt hrec htb => ?_
    obtain ⟨c2, oc, vs, t, e2, o1, o2, o3⟩ := hrec
    cases e2
    have nC : H c' = none := I.hok.fresh hge
    have I1 := inv_table (t' := tk) (more := #[rawInt pos.line, rawInt pos.col, .ref c']) (h' := h') (q := X.env.qual ++ "<lambda>") I hP (fun b o hb e => hx b o hb e) htb hge ⟨oc, vs, t, o1, o2, o3⟩
    have grown : (ps ++ #[rawInt pos.line, rawInt pos.col, .ref c']).toList = ps.toList ++ [rawInt pos.line, rawInt pos.col, .ref c'] := by simp
    have eN : ExtN H (upd (upd H P (.tbl (ps ++ #[rawInt pos.line, rawInt pos.col, .ref c']))) c' (CodeO c' (X.env.qual ++ "<lambda>"))) := fun b o e n => by
      have n2 : b ≠ P := fun z => n ps (Option.some.inj (e.symm.trans (z ▸ hP)))
      rw [upd_ne (ne_of_none e nC), upd_ne n2, e]
    refine last I1 eN (fun p hp => ?_) (I.hok.fresh (Nat.le_trans hge (Nat.le_of_lt hlt))) upd_same
    by_cases hb : p.1 = P
    · rw [huni p hp hb, hb]
      refine ⟨_, (upd_ne (ne_of_none hP nC)).trans upd_same, grown ▸ PySem.TriplesOk_snoc _ _ _ _ ht, fun at_ cv hcv => ?_⟩
      rw [grown] at hcv
      rcases among_app _ ht hcv with z | rfl
      · obtain ⟨c0, e1, e2⟩ := known at_ cv z
        exact ⟨c0, e1, eN _ _ e2 codeO_ne⟩
      · exact ⟨c', rfl, upd_same⟩
    · obtain ⟨qs, b1, b2, b3⟩ := hT p hp
      refine ⟨qs, (upd_ne (ne_of_none b1 nC)).trans ((upd_ne hb).trans b1), b2, fun at_ cv hcv => ?_⟩
      obtain ⟨c0, e1, e2⟩ := b3 at_ cv hcv
      exact ⟨c0, e1, eN _ _ e2 codeO_ne⟩
  | some cv =>
    obtain ⟨c', rfl, hco⟩ := known pos cv hc
    refine PySem.W.kdv_makeTailHit (mg := X.mg) (c := c) (P := P) (ps := ps) (closure_ok hfree) I.ok.glob (I.mod.glob.keeps I.bk) hcode (TB.code.keeps I.bk) raw ht hc bP fun ctv doc h' tk hx hsz => ?_
    exact last (I.kept hx) (ExtN.refl H) hT (I.hok.fresh hsz) hco
def tLamV (X : Cx) (T : List (Addr × Str)) (k : Nat) (t : XK → TE) : TE := fun σ H Q => Tabs T H ∧ ∀ (f : Addr) (H1 : Hp), ExtN H H1 → Tabs T H1 → H f = none → Lam X k H1 f t → Q (.ref f) H1
/-- lambda: body -/
theorem pe_lam0 {T : List (Addr × Str)} {c P : Addr} {k : Nat} {params : Arguments} {body : Expr} {scope : Scope} {t : XK → TE} {lpos : Pos} (TB : TabB X.base X.mg c P) (hcode : X.env.code = .ref c) (hmT : (P, X.env.qual ++ "<lambda>") ∈ T) (hu : ∀ p ∈ T, p.1 = P → p.2 = X.env.qual ++ "<lambda>")
    (L : LamD X.N X.env.scope scope) (hdef : defaultsOf params X.env = ([], [])) (hb : ∀ (q : Str) (cl : List (Str × Addr)) (doc pm cv ctv : Value), bindArgs (PySem.W.kdv_fn "<lambda>" q params (.expr body) scope cl .none doc pm cv ctv) ⟨[], []⟩ = pure [])
    (hbody : ∀ (A : Around) (outer : List Env) (s : Shared) (H : Hp) (E : XK) (f c' : Addr), Room k (A.deeper (lamEnv X scope s.heap.objs.size f c')) → PE (lamCx X A outer s H E scope f c') body (t E)) : PE X (.Lambda params body scope lpos) (tLamV X T k t) := by
  refine ⟨fun pins s σ H Q I ⟨hT, h⟩ => PySem.W.kla_eval hdef ?_⟩
  rw [makeFunction_eq]
  simp only [List.zip_nil_right, List.filterMap_nil, List.isEmpty_nil, if_true, pure_bind]
  refine lam_tail (dV := .none) I TB hcode hmT hu hT (L.has I.ok) fun f c' H1 s' I1 eN T1 nf hf hc => ⟨.ref f, H1, I1, rfl, h f H1 eN T1 nf ⟨params, body, scope, .none, c', L, hf, hc, .inl rfl, fun s doc pm ctv _ => ⟨[], BindsTo.of_eq (hb _ _ _ _ _ _), fun y hy => absurd hy (by simp)⟩, hbody⟩⟩
/-- the lambda's body is entered -/
theorem lam_startD {A : Around} {outer : List Env} {E : XK} {scope : Scope} {f c' : Addr} {h₁ : Heap} {tk : Nat} {m : Str → Option Value} (I : Inv X pins σ H s) (L : LamD X.N X.env.scope scope) (e0 : Env0 X.prog X.w X.K X.mg X.base A outer s1 HZ) (hd : A.handled = none)
    {fs : List Addr} (un : Un fs [] H HZ s.heap s1.heap) (hns : h₁.Ns s1.heap.objs.size m) (kp : ∀ b o, s1.heap.get? b = some o → h₁.get? b = some o) :
    Inv (lamCx X A outer s1 HZ E scope f c') [] σ HZ { s1 with heap := h₁, toks := tk } := by
  have avail := L.has I.ok
  have down : ∀ {y c}, (cloFrom X.env.cells scope.names []).lookup y = some c → X.env.cells.lookup y = some c := fun {y c} e => by
    rcases cloFrom_mem (PySem.mem_of_lookup e) with hm | ⟨h1, h2⟩
    · cases hm
    · obtain ⟨c1, hc⟩ := avail _ h1 rfl
      have hc : X.env.cells.lookup y = some c1 := hc
      have e2 : c = c1 := by
        rw [h2, hc] <;> rfl
      exact e2 ▸ hc
  have look : ∀ {y}, scope.names.lookup y = some .free → ∃ c, (cloFrom X.env.cells scope.names []).lookup y = some c := fun {y} hl => mem_lookup (cloFrom_has (cells := X.env.cells) (acc := []) (show (y, NameKind.free) ∈ scope.names from PySem.mem_of_lookup hl))
  have cellK : ∀ {c : Addr} {v : Option Value}, H c = none → s.heap.IsCell c v → h₁.IsCell c v := fun {c v} n ⟨o, ho, hd⟩ => by
    obtain ⟨sl, q⟩ := un.any ho n (by simp)
    exact ⟨_, kp _ _ q, hd⟩
  have noX : ∀ b : Addr, b ∉ (lamCx X A outer s1 HZ E scope f c').ex := fun b z => (List.not_mem_nil z).elim
  have okk : (lamCx X A outer s1 HZ E scope f c').Ok := ⟨e0.mod, L.kind, rfl, rfl, Nat.le_refl _, fun y z c e1 e2 => I.ok.inj y z c (down e1) (down e2), fun y hy => (show scope.names.lookup y = some .cell ∨ scope.names.lookup y = some .free from hy).elim (fun z => absurd rfl (L.nocell _ (PySem.mem_of_lookup z))) look,
    fun y c z _ => (show False from by have z : false = true := z; cases z).elim, fun _ => hd, Around.frames_deeper e0.frames, .inr ⟨rfl, rfl⟩, fun b z => absurd z (noX b), e0.bs, e0.bsz, fun b _ _ => noX b, fun b z => absurd z (noX b), e0.funs, e0.frf⟩
  refine ⟨okk, rfl, e0.bare, Un.kept kp, ⟨m, hns, fun i y v e1 e2 e3 => ?_⟩, fun y c e => ?_, e0.hok.fresh (Nat.le_refl _), fun y c e => ?_, fun q hq => absurd (show q ∈ ([] : List (Addr × Obj)) ++ [] from hq) (by simp), e0.hok.kept kp, I.len⟩
  · have e1 : X.N[i]? = some y := e1
    have e3 : Vis scope y := e3
    rcases e3 with z | z | z
    · exact absurd (List.mem_of_getElem? e1) (L.own _ (PySem.mem_of_lookup z) rfl)
    · exact absurd rfl (L.nocell _ (PySem.mem_of_lookup z))
    · obtain ⟨mX, _, hl⟩ := I.loc
      have fr := L.free _ (PySem.mem_of_lookup z) rfl
      obtain ⟨w', r, q⟩ := hl i y v e1 e2 (fr.elim (fun z => .inr (.inl z)) fun z => .inr (.inr z))
      obtain ⟨c2, h2⟩ := look z
      refine ⟨w', r, .inr ⟨.inr z, c2, h2, ?_⟩⟩
      rcases q with ⟨loc, _⟩ | ⟨_, c3, e', z'⟩
      · have loc : X.env.scope.names.lookup y = some .local := loc
        rcases fr with fr | fr <;> rw [show X.env.scope.names.lookup y = _ from fr] at loc <;> cases loc
      · rw [down h2] at e'
        cases e'
        exact cellK (I.freeC y _ (down h2)) z'
  · obtain ⟨w', z⟩ := I.cell y c (down e)
    exact ⟨w', cellK (I.freeC y c (down e)) z⟩
  · obtain ⟨v, o, ho, hd⟩ := I.cell y c (down e)
    exact un.free c o ho (I.freeC y c (down e)) (by simp)
/-- a(), in the def that got the lambda -/
theorem pe_actD {stk : List Env} {CXg : CXT} {Eg : XK} {Ng : List Str} {qg : Str} {sg : Scope} {g f c' : Addr} {cdg dV : Value} {params : Arguments} {body : Expr} {scope : Scope} {k i : Nat} {a : Str} {pn : List (Addr × Obj)} {xe : Value → Shared → Prop} {W : WX} {E : XK} {tb : TE} {p1 p2 : Pos}
    (I : Inv X pins σ H s) (L : LamD X.N X.env.scope scope) (hB : BndO (X.env.qual ++ "<lambda>") params body scope (cloFrom X.env.cells scope.names []) dV c')
    (tk : Takes ((cxOf CXg X.prog X.w X.K X.mg X.base Ng qg sg g cdg X.A stk s H Eg).tr pn xe) W) (hW : ∀ cls d σ' H', E cls d H' → W cls d σ' H') (hr : Room (k + 1) (X.A.deeper (envOfC qg sg s.heap.objs.size g cdg)))
    (hbody : ∀ (A : Around) (outer : List Env) (s : Shared) (H : Hp), Room k (A.deeper (lamEnv X scope s.heap.objs.size f c')) → PE (lamCx X A outer s H E scope f c') body tb)
    (hN : Ng[i]? = some a) (hv : Vis sg a) (hd : (a == ("__debug__" : Str)) = false := by decide) (hcd : (a == ("__classdict__" : Str)) = false := by decide) :
    PE ((cxOf CXg X.prog X.w X.K X.mg X.base Ng qg sg g cdg X.A stk s H Eg).tr pn xe) (.Call (.Name a p1) [] [] p2)
      (fun σZ HZ Q => σZ[i]? = some (some (.ref f)) ∧ (HZ f = some (LamO f (X.env.qual ++ "<lambda>") params body scope (cloFrom X.env.cells scope.names []) dV c') ∧ HZ c' = some (CodeO c' (X.env.qual ++ "<lambda>")) ∧ DflO HZ dV) ∧ tb σ HZ Q) := by
  refine ⟨fun pinsZ sZ σZ HZ Q IZ ⟨hs, ⟨hf, hc, hD⟩, ht⟩ => ?_⟩
  refine wpAny_Call_Name_kw (thn ((pe_var (pos := p1) (i := i) hN hv hd hcd).run pinsZ sZ σZ HZ (fun v H1 => v = .ref f ∧ H1 = HZ) IZ ⟨.ref f, hs, rfl, rfl⟩) fun u s1 ⟨v, H1, I1, r1, ev, eH⟩ => ?_)
  subst ev
  rw [eH] at I1
  obtain rfl : u = Value.ref f := r1
  obtain ⟨⟨doc, pm, ctv, of1⟩, _, _⟩ := I1.hok f _ hf
  refine PySem.W.callWith_F0 ⟨_, _, _, _, of1⟩ ?_
  have un : Un (frs stk) [] H HZ s.heap s1.heap := I1.base
  obtain ⟨⟨oc, vs, t, hoc, hdc, hvc⟩, _, _⟩ := I1.hok c' _ hc
  obtain ⟨binds, bt, bl⟩ := hB s1 doc pm ctv fun T eT => by
    rcases hD with e | ⟨T2, e, hT⟩
    · rw [e] at eT; cases eT
    · rw [e] at eT
      cases eT
      obtain ⟨_, its, rv, o, o1, _, n, o3⟩ := I1.hok T _ hT
      obtain ⟨x, rfl, hx⟩ : ∃ x, its = [x] ∧ RelV (.int 0) x := by
        cases rv with
        | cons r0 rr =>
          cases rr with
          | nil => exact ⟨_, rfl, r0⟩
      obtain ⟨tk0, rfl⟩ := hx
      exact ⟨o, tk0, n, o1, o3⟩
  have rc : codeAny (model X.prog X.w) (X.A.deeper (envOfC qg sg s.heap.objs.size g cdg)) (.call (.ref f) ⟨[], []⟩) (CR (L2.CX X.prog X.w) (envOfC qg sg s.heap.objs.size g cdg :: stk) X.prog X.w HZ s1 Q E) s1 := by
    refine PySem.W.kla_callFunE hr.depth of1 rfl L.co L.gen rfl ⟨c', oc, vs, t, rfl, hoc, hdc, hvc⟩ (bt _ _ _ _ ?_)
    refine wpAny_newFunctionEnv L.nocell bl (fun h₁ hns hsb => ⟨I1.nolimit.fresh _ hsb, ?_⟩) L.kind
    show codeAny _ _ (.expr body (lamEnv X scope s1.heap.objs.size f c')) _ _
    have J : Inv (lamCx X (X.A.deeper (envOfC qg sg s.heap.objs.size g cdg)) (envOfC qg sg s.heap.objs.size g cdg :: stk) s1 HZ E scope f c') [] σ HZ { s1 with heap := h₁, toks := s1.toks + binds.length } :=
      lam_startD I L I1.env0 hr.hd un hns fun b o e => hsb.extBut b o (Nat.ne_of_lt (Heap.lt_size e)) (Heap.get?_push_of_some _ e)
    refine PySem.W.kla_codeExpr (wpAny_mono ((hbody _ _ s1 HZ (hr.deeper _)).run [] _ _ HZ Q J ht) (fun v s' ⟨w', H', J', rv, q⟩ => ⟨w', H', J'.os, J'.bare, J'.base, J'.hok, rv, q⟩) fun e s' hq => hq)
  have hx : Passes (L2.CX X.prog X.w) ((cxOf CXg X.prog X.w X.K X.mg X.base Ng qg sg g cdg X.A stk s H Eg).tr pn xe) E := passes_call tk hW
  refine wpAny_call (codeAny_mono rc fun r s' hq => ?_)
  match r, hq with
  | .error e, hq => exact hx pinsZ σZ HZ s1 e s' I1 hq
  | .ok (.ret u), hq => exact I1.after hq
  | .ok .next, hq => exact hq.elim
  | .ok .brk, hq => exact hq.elim
  | .ok .cont, hq => exact hq.elim
/-- the def that calls what it got, whatever is known of it -/
def GivesR (X : Cx) (Ng : List Str) (x : Str) (sg : Scope) (g : Addr) (cdg : Value) (bg : List Stmt) (a : Str) (TT : (XK → Hp → VK → Prop) → Hp → VK → Prop) : Prop :=
  ∀ (R : Hp → Prop) (f : Addr) (s : Shared) (H : Hp) (Q : VK) (tl : XK → Hp → VK → Prop),
    (∀ (W : WX) (pn : List (Addr × Obj)) (xe : Value → Shared → Prop) (E : XK) (p1 p2 : Pos), Takes ((cxOf C8.CX0 X.prog X.w X.K X.mg X.base Ng x sg g cdg X.A X.stack s H C8.E0).tr pn xe) W → (∀ cls d σ' H', E cls d H' → W cls d σ' H') →
      PE ((cxOf C8.CX0 X.prog X.w X.K X.mg X.base Ng x sg g cdg X.A X.stack s H C8.E0).tr pn xe) (.Call (.Name a p1) [] [] p2) (fun σZ HZ Q => σZ[0]? = some (some (.ref f)) ∧ R HZ ∧ tl E HZ Q)) →
    R H → TT tl H Q → ∃ t, PSs (cxOf C8.CX0 X.prog X.w X.K X.mg X.base Ng x sg g cdg X.A X.stack s H C8.E0).nox bg t ∧ t { nx := fun _ H' => Q .non H', rt := Q } (L2.start Ng [.ref f]) H
def tWork (X : Cx) (k : Nat) (TT : (XK → Hp → VK → Prop) → Hp → VK → Prop) (te : TE) : TE := fun σ H Q => te σ H fun v H1 => ∃ (f : Addr) (t : XK → TE), v = .ref f ∧ Lam X k H1 f t ∧ TT (fun E H' Q' => t E σ H' Q') H1 Q
/-- x(e): e is a lambda -/
theorem pe_work {TT : (XK → Hp → VK → Prop) → Hp → VK → Prop} {x a : Str} {g : Addr} {k : Nat} {pg : Arguments} {bg : List Stmt} {sg : Scope} {dV kV doc pm cdv ct oc : Value} {an od : Option Addr} {osl : Array (Option Value)} {Ng : List Str}
    {e : Expr} {te : TE} {p pos : Pos} (hg : Gl X x) (hm : X.mg x = some (.ref g)) (hk : PySem.W.keepIn X.K (.ref g) = true)
    (lk : X.K.lookup g = some ⟨oc, od, .func (PySem.W.fnOf x x pg bg sg dV kV doc pm an cdv ct), osl⟩) (hcg : PySem.W.codeIn X.K cdv x = true) (hb : L2.Binds X.K (PySem.W.fnOf x x pg bg sg dV kV doc pm an cdv ct) [a] []) (Sg : FnScope Ng [a] sg) (hNg : Ng[0]? = some a) (hva : Vis sg a)
    (hG : GivesR X Ng x sg g cdv bg a TT) (hr : Room (k + 2) X.A) (he : PE X e te) (hs : starEach [e] X.env = (false, eval e X.env) :: starEach [] X.env := by rfl)
    (hdb : (x == ("__debug__" : Str)) = false := by decide) (hd : (a == ("__debug__" : Str)) = false := by decide) (hcd : (a == ("__classdict__" : Str)) = false := by decide) :
    PE X (.Call (.Name x p) [e] [] pos) (tWork X k TT te) := by
  refine ⟨fun pins s σ H Q I h => wpAny_Call_Name_kw (ld_glob I hg hm ?_ hdb)⟩
  refine PySem.W.callWith_K (h₀ := X.base) I.ok.mod.kin hk ?_ hs (by rfl)
  rw [hs]
  show wpAny _ _ (spliced ((false, eval e X.env) :: backTo pos (starEach [] X.env))) _ _ s
  refine Calls.spliced_cons (thn (he.run pins s σ H _ I h) fun u s' ⟨v, H1, I1, r1, f, t, ev, M, hT⟩ => ?_)
  subst ev
  obtain rfl : u = Value.ref f := r1
  refine Calls.spliced_nil ⟨I1.kIn, ?_⟩
  obtain ⟨params, body, scope, dL, c', L, m1, m2, m3, hB, hbody⟩ := M.ex
  have rc : codeAny (model X.prog X.w) X.A (.call (.ref g) ⟨[.ref f], []⟩) (CR C8.CX0 X.stack X.prog X.w H1 s' Q C8.E0) s' := by
    refine run_ofS (N := Ng) (ps := [a]) (us := [.ref f]) (vs := [.ref f]) lk hcg Sg hr I1.env0 (hb s' [.ref f] I1.kIn rfl) (.cons rfl .nil) rfl fun hr' => ?_
    obtain ⟨t', ht', hq'⟩ := hG (fun HZ => HZ f = some (LamO f (X.env.qual ++ "<lambda>") params body scope (cloFrom X.env.cells scope.names []) dL c') ∧ HZ c' = some (CodeO c' (X.env.qual ++ "<lambda>")) ∧ DflO HZ dL) f s' H1 Q (fun E H' Q' => t E σ H' Q')
      (fun W pn xe E p1 p2 tk hW => pe_actD (i := 0) I1 L hB tk hW hr' (fun A outer s H hr2 => hbody A outer s H E f c' hr2) hNg hva hd hcd) ⟨m1, m2, m3⟩ hT
    exact ⟨t', ht'.nox, hq'⟩
  refine wpAny_call (codeAny_mono rc fun r s2 hq => ?_)
  match r, hq with
  | .error e, hq => exact (show False from hq).elim
  | .ok (.ret u), hq => exact I1.after hq
  | .ok .next, hq => exact hq.elim
  | .ok .brk, hq => exact hq.elim
  | .ok .cont, hq => exact hq.elim
end
end Lw
namespace Lw
open PySem L2
/-- a wire and an own wire, as a def goes on -/
structure In2 (K : PySem.W.Frag) (TT : List (Addr × Str)) (r CW a dx t d tm : Addr) (F0 : List Addr) (H0 : Hp) (l lm : Addr) (M Mm : WM) (H : Hp) : Prop where
  row : RowOk K H r
  st : Sts H [oWire CW a dx t l M, oM d tm lm Mm]
  tab : LamX.Tabs TT H
  m : StepN TT F0 ([a, t, l] ++ [d, tm, lm]) H0 H
section
variable {K : PySem.W.Frag} {TT : List (Addr × Str)} {r CW a dx t d tm l lm l' lm' : Addr} {F0 : List Addr} {H0 H H' : Hp} {M Mm M' : WM}
theorem In2.ext (h : In2 K TT r CW a dx t d tm F0 H0 l lm M Mm H) (e : Ext H H') : In2 K TT r CW a dx t d tm F0 H0 l lm M Mm H' := ⟨e.rowOk h.row, h.st.ext e, tabs_ext h.tab e, h.m.trans (StepN.ofExt e)⟩
theorem In2.lam (h : In2 K TT r CW a dx t d tm F0 H0 l lm M Mm H) (eN : LamX.ExtN H H') (T : LamX.Tabs TT H') : In2 K TT r CW a dx t d tm F0 H0 l lm M Mm H' := ⟨RowOk.lam eN h.row, h.st.lam eN, T, h.m.trans (StepN.lam eN T)⟩
theorem In2.one (h : In2 K TT r CW a dx t d tm F0 H0 l lm M Mm H) (W : WAt CW a dx t l' M' H') (s : Step [a, t, l] [a, t, l'] H H') : In2 K TT r CW a dx t d tm F0 H0 l' lm M' Mm H' :=
  ⟨Sts.row (l1 := []) (l2 := [_]) (W' := oWire CW a dx t l' M') h.st s h.row, h.st.one (A' := oWire CW a dx t l' M') W s, Sts.tabs (l1 := []) (l2 := [_]) (W' := oWire CW a dx t l' M') h.st s h.tab, h.m.trans (StepN.of (s.wide [d, tm, lm]) (Sts.al2 (l1 := []) (l2 := []) h.st))⟩
theorem In2.other (h : In2 K TT r CW a dx t d tm F0 H0 l lm M Mm H) (W : MAt d tm lm' M' H') (s : Step [d, tm, lm] [d, tm, lm'] H H') : In2 K TT r CW a dx t d tm F0 H0 l lm' M M' H' :=
  ⟨Sts.row (l1 := [_]) (l2 := []) (W' := oM d tm lm' M') h.st s h.row, h.st.other (B' := oM d tm lm' M') W s, Sts.tabs (l1 := [_]) (l2 := []) (W' := oM d tm lm' M') h.st s h.tab, h.m.trans (StepN.of (s.wideL [a, t, l]) (Sts.al2 (l1 := []) (l2 := []) h.st))⟩
theorem In2.W (h : In2 K TT r CW a dx t d tm F0 H0 l lm M Mm H) : WAt CW a dx t l M H := h.st.fst
theorem In2.G (h : In2 K TT r CW a dx t d tm F0 H0 l lm M Mm H) : MAt d tm lm Mm H := h.st.snd
end
end Lw
namespace Lw
open PySem L2
theorem pss_lock {X : Cx} {sts : List Stmt} {t : TS} (h : PSs X sts t) : PSs X sts (tLock t) := ⟨fun pins s σ H D I ⟨d, u, hd, mu, hw⟩ => by
  obtain ⟨od, I1⟩ := I.lock hd mu
  have back := I.nofrz hd mu
  refine thn (h.run pins s σ _ _ I1 (hw od)) fun f s1 q => ?_
  match f, q with
  | .next, ⟨σ', H', I2, e, q⟩ => exact ⟨σ', _, I2.unlock e back, q⟩
  | .brk, ⟨σ', H', I2, e, q⟩ => exact ⟨σ', _, I2.unlock e back, q⟩
  | .cont, ⟨σ', H', I2, e, q⟩ => exact ⟨σ', _, I2.unlock e back, q⟩
  | .ret v, ⟨x, σ', H', I2, r, e, q⟩ => exact ⟨x, σ', _, I2.unlock e back, r, q⟩⟩
/-- the rest of a law: its script is locked -/
theorem pss_lk {X : Cx} {sts : List Stmt} {t : TS} (h : PSs X sts t) : PSs X sts (fun D σ H => t D σ H ∨ tLock t D σ H) := ⟨fun pins s σ H D I hw => hw.elim (fun q => h.run pins s σ H D I q) fun q => (pss_lock h).run pins s σ H D I q⟩
theorem lk_byS {K : PySem.W.Frag} {TT : List (Addr × Str)} {t : TS} {D : Ends} {σ : St} {H : Hp} {r a : Addr} {ns : List Int} (hr : H r = some (row a 0 0 0)) (hs : SqL K H a (ns.map V.int)) (tab : LamX.Tabs TT H)
    (main : ∀ z H1 D', LG K TT z r H1 → (∀ H', LG K TT z r H' → D'.rt (.bl true) H') → t D' σ H1) (hD : ∀ H', D.rt (.bl true) H') : t D σ H ∨ tLock t D σ H := by
  have plain : Scr K H a (ns.map V.int) → t D σ H := fun h => main none H D ⟨⟨a, 0, 0, 0, ns, hr, Int.le_refl 0, h⟩, tab, fun a o u q => (by cases q)⟩ fun H' _ => hD H'
  rcases hs with (h | ⟨o, h⟩) | h
  · have nar : r ≠ a := fun e => by
      rw [e, h] at hr
      exact nsh_ints ns ⟨_, _, _, _, Option.some.inj hr⟩
    refine .inr ⟨a, _, h, True.intro, fun od => main (some (a, od, .lst (ns.map V.int))) _ _ ⟨⟨a, 0, 0, 0, ns, by rw [upd_ne nar]; exact hr, Int.le_refl 0, .inl ⟨od, upd_same⟩⟩, tabs_by tab fun b o hb hx => ?_, fun a2 o u q => ?_⟩ fun H' lg => ⟨lg.frz _ _ _ rfl, hD _⟩⟩
    · have nb : b ≠ a := fun e => by
        rw [e, h] at hb
        cases hb
        rcases hx with ⟨ps, q⟩ | ⟨x, q⟩ <;> cases q
      rw [upd_ne nb]
      exact hb
    · cases q
      exact upd_same
  · exact .inl (plain (.inl ⟨o, h⟩))
  · exact .inl (plain (.inr fun H' => .inr h))
end Lw
end

section
/-! tuples of texts sorted, the first of them empty -/
namespace Lw
open PySem PySem.Spec PyProof.Rows L2
section
variable {prog : Program} {w : World} {A : Around} {E : Value → Shared → Prop} {s : Shared}
/-- two tuples that read as alike data, as sorting compares them -/
theorem oneLt_tups {a b : Value} {xs ys : List PyData} {as bs : List Addr} {Q : Bool → Shared → Prop} (ra : Reads s.heap a (.tuple xs) as) (rb : Reads s.heap b (.tuple ys) bs) (hal : PySem.W.alikeAll xs ys = true) (hn : PySem.W.alike (.tuple xs) (.tuple ys) = true)
    (hu : A.units + 10 < cLine) (hd : (PyData.tuple xs).depth ≤ 5) (hq : Q (PySem.W.dataLt (.tuple xs) (.tuple ys)) s) : wpAny (model prog w) A (oneLt' true a b) Q E s := by
  cases ra with
  | @tuple l o vs n _ _ h1 h2 h3 h4 =>
    cases rb with
    | @tuple l' o' vs' n' _ _ k1 k2 k3 k4 =>
      have z1 : vs.size = xs.length := by simpa using SeqAt.ReadsAll.length _ _ _ h4
      have z2 : vs'.size = ys.length := by simpa using SeqAt.ReadsAll.length _ _ _ k4
      have hdd : PyData.depthAll xs + 1 ≤ 5 := by simpa [PyData.depth] using hd
      have hin : A.in1.units + min (PyData.depthAll xs) (PyData.depthAll ys) < cLine := by
        have : A.in1.units = A.units + 1 := rfl
        omega
      rw [PySem.W.dataLt_tuple, ← PySem.W.firstLt_toks xs ys hal, ← z1, ← z2] at hq
      rw [oneLt'_eq]
      simp only [if_true]
      obtain ⟨oc, od, odt, osl⟩ := o
      obtain ⟨oc', od', odt', osl'⟩ := o'
      simp only at h2 h3 k2 k3
      subst h2 h3 k2 k3
      refine wpAny_bind (wpAny_cRoomFor (by omega) ?_)
      refine wpAny_bind (wpAny_callSpecialIfBound?_slot (T := "tuple") ⟨_, h1, rfl⟩ PySem.F.slot_tuple_lt (call_meets PySem.F.slot_tuple_lt ⟨_, h1, rfl⟩ PySem.F.entry_tuple_lt (PySem.F.args_tuple_lt_2 _ _)
        (SeqAt.tuple_ltAt l l' vs vs' n n' _ _ _ _ (SeqAt.pairEq xs ys) (fun j => PySem.W.dataLt (xs.getD j .none) (ys.getD j .none))) ⟨h1, k1, fun j j1 j2 => ?_, fun j j1 j2 hj => ?_, ?_⟩))
      · have q := PySem.W.eqAt_alikeAll xs ys A.in1 s vs.toList vs'.toList _ _ h4 k4 hal hin j (by simpa using j1) (by simpa using j2)
        simpa using q
      · have q := PySem.W.rcLt_alikeAll xs ys A.in1 s vs.toList vs'.toList _ _ h4 k4 hal hin j (by simpa using j1) (by simpa using j2) hj
        simpa using q
      · exact wpAny_truthy_bool hq
def IsTupV (h : Heap) (v : Value) : Prop := ∃ a o xs n, v = .ref a ∧ h.get? a = some o ∧ o.cls = .type "tuple" ∧ o.data = .seq xs n
theorem isTup_reads {h : Heap} {v : Value} {xs : List PyData} {as : List Addr} (r : Reads h v (.tuple xs) as) : IsTupV h v := by
  cases r with
  | tuple h1 h2 h3 h4 => exact ⟨_, _, _, _, rfl, h1, h2, h3⟩
theorem first_any {v : Value} {Q : Option Value → Shared → Prop} (h : IsTupV s.heap v) (hq : ∀ f, Q f s) : wpAny (model prog w) A (firstOfTuple' v) Q E s := by
  obtain ⟨a, o, xs, n, rfl, ho, hc, hd⟩ := h
  rw [PySem.W.kas_first_eq]
  refine wpAny_bind (PySem.W.Looks.here (show PySem.W.Looks (model prog w) s.heap (typeOf (.ref a)) o.cls from (PySem.W.Looks.ld ho).andThen .now) ?_)
  rw [hc, if_neg (by first | decide | simp)]
  exact wpAny_bind (listItems_at ho hd (wpAny_pure (hq _)))
theorem first_none {v : Value} {Q : Option Value → Shared → Prop} {a : Addr} {o : Obj} {n : Nat} (hv : v = .ref a) (ho : s.heap.get? a = some o) (hc : o.cls = .type "tuple") (hd : o.data = .seq #[] n) (hq : Q none s) : wpAny (model prog w) A (firstOfTuple' v) Q E s := by
  subst hv
  rw [PySem.W.kas_first_eq]
  refine wpAny_bind (PySem.W.Looks.here (show PySem.W.Looks (model prog w) s.heap (typeOf (.ref a)) o.cls from (PySem.W.Looks.ld ho).andThen .now) ?_)
  rw [hc, if_neg (by first | decide | simp)]
  exact wpAny_bind (listItems_at ho hd (wpAny_pure hq))
theorem firsts_any : ∀ (vs : List Value) {Q : List (Option Value) → Shared → Prop}, (∀ v ∈ vs, IsTupV s.heap v) → (∀ fs, Q fs s) → wpAny (model prog w) A (vs.mapM firstOfTuple') Q E s
  | [], _, _, h => by rw [List.mapM_nil]; exact wpAny_pure (h _)
  | v :: vs, Q, ht, h => by
    rw [List.mapM_cons]
    exact wpAny_bind (first_any (ht v (by simp)) fun f => wpAny_bind (firsts_any vs (Q := fun bs s' => wpAny (model prog w) A (pure (f :: bs)) Q E s') (fun u hu => ht u (List.mem_cons_of_mem _ hu)) fun fs => wpAny_pure (h _)))
theorem kind_tups {v : Value} {vs : List Value} {a : Addr} {o : Obj} {n : Nat} {Q : SortKind → Shared → Prop} (hv : v = .ref a) (ho : s.heap.get? a = some o) (hc : o.cls = .type "tuple") (hd : o.data = .seq #[] n) (ht : ∀ u ∈ vs, IsTupV s.heap u) (hq : Q oneType' s) :
    wpAny (model prog w) A (keyKind' (v :: vs).toArray) Q E s := by
  rw [keyKind'_eq, List.mapM_toArray, map_eq_pure_bind, List.mapM_cons]
  refine wpAny_bind (wpAny_bind (wpAny_bind (first_none hv ho hc hd (wpAny_bind (firsts_any vs (Q := fun bs s' => wpAny (model prog w) A (pure (none :: bs)) _ E s') ht fun fs => wpAny_pure (wpAny_pure ?_))))))
  rw [if_neg (by simp), if_neg (by simp)]
  have look : ∀ u ∈ v :: vs, PySem.W.Looks (model prog w) s.heap (typeOf u) (.type "tuple") := fun u hu => by
    have : IsTupV s.heap u := by
      rcases List.mem_cons.mp hu with rfl | hu
      · exact ⟨a, o, _, n, hv, ho, hc, hd⟩
      · exact ht u hu
    obtain ⟨b, p, xs, m, rfl, hp, hpc, _⟩ := this
    have q : PySem.W.Looks (model prog w) s.heap (typeOf (.ref b)) p.cls := (PySem.W.Looks.ld hp).andThen .now
    rw [hpc] at q
    exact q
  rw [oneTypeOnly'_eq, List.mapM_toArray, map_eq_pure_bind]
  refine wpAny_bind (wpAny_bind (wpAny_bind (PySem.W.kas_mapM (r := Value.type "tuple") _ (fun u hu Q' hq => (look u hu).here hq) (wpAny_pure ?_))))
  have h0 : (List.map (fun _ => Value.type "tuple") (v :: vs)).toArray[0]? = some (Value.type "tuple") := by simp
  have hall : ((List.map (fun _ => Value.type "tuple") (v :: vs)).toArray.all fun x => x == Value.type "tuple") = true := by
    simp only [List.all_toArray, List.all_map, List.all_eq_true]
    intro _ _
    rfl
  rw [h0]
  simp only [hall, if_true]
  exact wpAny_pure (wpAny_pure hq)
theorem sortsAt_tups {vs : List Value} {bs : List Row1} (e : PySem.W.EachIs (fun v (b : Row1) => ∃ as, Reads s.heap v (tupD b.2) as) vs bs) (h0 : ∀ b c, bs = b :: c → b.2 = []) (hu : A.units + 10 < cLine) : PySem.W.SortsAt prog w A s (PySem.W.dataKind s.heap (bs.map fun b => tupD b.2)) vs := by
  have hal : PySem.W.AllAlike (bs.map fun b : Row1 => tupD b.2) := PySem.W.AllAlike.of fun b c => alike_db b.2 c.2
  refine ⟨fun v hv => ?_, oneType', ?_, fun hlen2 E Q hq => ?_⟩
  · obtain ⟨b, hb, as, r⟩ := e.left v hv
    exact ⟨_, PySem.W.dataKind_some hal (List.mem_map.mpr ⟨b, hb, rfl⟩) r⟩
  · intro E x y a b Q ha hb hq
    obtain ⟨d, as, hd, ra, rfl⟩ := PySem.W.dataKind_inv ha
    obtain ⟨d', as', hd', rb, rfl⟩ := PySem.W.dataKind_inv hb
    obtain ⟨c, hc, rfl⟩ := List.mem_map.mp hd
    obtain ⟨c', hc', rfl⟩ := List.mem_map.mp hd'
    rw [keyLt'_oneType]
    exact oneLt_tups ra rb (alike_db c.2 c'.2) (alike_db c.2 c'.2) hu (Nat.le_trans (niceT.dep c.2) (by decide)) hq
  · cases e with
    | nil => exact absurd hlen2 (by simp)
    | @cons v b vs bs r t =>
      obtain ⟨as, r⟩ := r
      have hb := h0 b bs rfl
      rw [hb] at r
      have r : Reads s.heap v (.tuple []) as := r
      cases r with
      | @tuple l o xs n _ _ h1 h2 h3 h4 =>
        have hx : xs = #[] := by
          cases q : xs.toList with
          | nil => exact Array.toList_eq_nil_iff.mp q
          | cons f fr =>
            rw [q] at h4
            cases h4
        subst hx
        refine kind_tups rfl h1 h2 h3 (fun u hu => ?_) hq
        obtain ⟨c, hc, as, r⟩ := t.left u hu
        exact isTup_reads r
end
def rSortU (K : PySem.W.Frag) : List V → Hp → VK → Prop := fun vs H Q => ∃ (a : Addr) (bs : List Row1), vs = [.ref a] ∧ SqL K H a (bs.map fun b => V.ref b.1) ∧ (∀ b ∈ bs, SqT K H b.1 (bvs b.2)) ∧ (∀ b c, bs = b :: c → b.2 = []) ∧
  ∀ (cs : List Row1) (p : Addr), cs.Perm bs → cs.Pairwise (fun b c => slt c.2 b.2 = false) → H p = none → Q (.ref p) (upd H p (.lst (cs.map fun b => V.ref b.1)))
theorem dataLe_tups1 : PySem.W.dataLe false (fun b : Row1 => tupD b.2) = fun a b => !slt b.2 a.2 := by
  rw [PySem.W.dataLe_eq]
  funext a b
  show (!PySem.W.dataLt (tupD b.2) (tupD a.2)) = _
  rw [dataLt_tup]
theorem dp_tup {K : PySem.W.Frag} {H : Hp} {p : Addr} {S : List Bits} (h : SqT K H p (bvs S)) : Dp K H (.ref p) (tupD S) := .tup h (dpAll_map (fun x => .str _) S)
theorem cr_sortU {X : Cx} (hu : X.A.units + 65 < cLine) : CallR X (.builtin "sorted") (rSortU X.K) := by
  intro pins s σ H vs us Q I r h
  obtain ⟨a, bs, rfl, hs, hb, hfst, q⟩ := h
  obtain ⟨its, rv, hl, hz⟩ := I.list hs
  rw [Vals.ref1 r]
  have e := vals_each rv
  have er : PySem.W.EachIs (fun v (b : Row1) => ∃ as, Reads s.heap v (tupD b.2) as) its bs := (each_and (p := fun b : Row1 => SqT X.K H b.1 (bvs b.2)) e hb).mono fun v b ⟨e1, e2⟩ => Dp.reads I (tupD b.2) (.ref b.1) v (dp_tup e2) e1
  have hzb : bs.length ≤ sizeLine := by rw [List.length_map] at hz; exact hz
  have er' : PySem.W.EachIs (fun v (b : Row1) => ∃ as, Reads (PySem.W.sortingHeap (PySem.W.copyHeap s.heap its) (s.heap.objs.size + 1) its) v (tupD b.2) as) its bs := er.mono fun _ _ ⟨as, z⟩ => ⟨as, PyProof.Rows.Reads.keeps (fun _ _ => PySem.W.sorting_copy_old) z⟩
  have hal : PySem.W.AllAlike (bs.map fun b : Row1 => tupD b.2) := PySem.W.AllAlike.of fun b c => alike_db b.2 c.2
  refine PySem.W.sorted_vals hl.isList (sortsAt_tups (s := { s with heap := PySem.W.sortingHeap (PySem.W.copyHeap s.heap its) (s.heap.objs.size + 1) its }) er' hfst (by show _ + 10 < _; have : X.A.in1.in1.units = X.A.units + 2 := rfl; omega)) (by rw [e.length]; exact hzb) ?_
  have eo := PySem.W.sortVals_data false e er' hal
  rw [dataLe_tups1] at eo
  obtain ⟨ep, hat⟩ := PyProof.Rows.sortedAll_at s.heap its (PySem.W.sortVals (PySem.W.dataKind (PySem.W.sortingHeap (PySem.W.copyHeap s.heap its) (s.heap.objs.size + 1) its) (bs.map fun b => tupD b.2)) false its its).toArray
  have hp := List.mergeSort_perm bs fun a b : Row1 => !slt b.2 a.2
  refine ⟨.ref _, upd H (s.heap.objs.size + 1) (.lst ((bs.mergeSort fun a b : Row1 => !slt b.2 a.2).map fun b => V.ref b.1)), I.laid (t' := s.toks) (fun _ _ => PyProof.Rows.sortedAll_old) (Nat.le_succ _) ⟨?_, _, ep, each_vals eo, hat⟩, rfl, q _ _ hp (le_sorted bs) (I.hok.fresh (Nat.le_succ _))⟩
  rw [List.length_map, hp.length_eq]
  exact hzb
theorem cSortU {X : Cx} {K : PySem.W.Frag} (h : X.K = K) (hu : X.A.units + 65 < cLine) : CallR X (.builtin "sorted") (rSortU K) := h ▸ cr_sortU hu
def TupsB (K : PySem.W.Frag) (H : Hp) (ps : List Addr) (Ss : List (List Bits)) : Prop := Paired (fun p S => SqT K H p (bvs S)) ps Ss
theorem TupsB.ext {K : PySem.W.Frag} {H H' : Hp} {ps : List Addr} {Ss : List (List Bits)} (h : TupsB K H ps Ss) (e : Ext H H') : TupsB K H' ps Ss := paired_mono (fun p S h => e.tup h) h
theorem tups_zip {K : PySem.W.Frag} : ∀ {H : Hp} {ps : List Addr} {Ss : List (List Bits)}, TupsB K H ps Ss → ∃ bs : List Row1, ps = bs.map (·.1) ∧ Ss = bs.map (·.2) ∧ ∀ b ∈ bs, SqT K H b.1 (bvs b.2)
  | _, _, _, .nil => ⟨[], rfl, rfl, fun b hb => (by cases hb)⟩
  | _, p :: _, S :: _, .cons a h => by
    obtain ⟨bs, rfl, rfl, h2⟩ := tups_zip h
    exact ⟨(p, S) :: bs, rfl, rfl, fun b hb => by
      rcases List.mem_cons.mp hb with rfl | hb
      · exact a
      · exact h2 b hb⟩
theorem tups_of {K : PySem.W.Frag} {H : Hp} : ∀ {bs : List Row1}, (∀ b ∈ bs, SqT K H b.1 (bvs b.2)) → TupsB K H (bs.map (·.1)) (bs.map (·.2))
  | [], _ => .nil
  | b :: bs, h => .cons (h b (by simp)) (tups_of fun c hc => h c (List.mem_cons_of_mem _ hc))
theorem w_sortU {K : PySem.W.Frag} {H : Hp} {Q : VK} {a : Addr} {ps : List Addr} {Ss : List (List Bits)} (h : SqL K H a (ps.map V.ref)) (hr : TupsB K H ps Ss) (nd : Ss.Nodup) (h0 : ∀ S r, Ss = S :: r → S = [])
    (k : ∀ (qs : List Addr) (Ts : List (List Bits)) (p : Addr) (H' : Hp), Ts.Perm Ss → (∀ q ∈ qs, q ∈ ps) → RiseS Ts → H p = none → Ext H H' → H' p = some (.lst (qs.map V.ref)) → TupsB K H' qs Ts → Q (.ref p) H') : rSortU K [.ref a] H Q := by
  obtain ⟨bs, rfl, rfl, hb⟩ := tups_zip hr
  refine ⟨a, bs, rfl, by rw [List.map_map] at h; exact h, hb, fun b c e => h0 b.2 (c.map (·.2)) (by rw [e]; rfl), fun cs p hp hs hn => ?_⟩
  have e := Ext.new (o := .lst (cs.map fun b => V.ref b.1)) hn
  refine k (cs.map (·.1)) (cs.map (·.2)) p _ (hp.map _) (fun q hq => ?_) (riseS_of (List.pairwise_map.mpr hs) ((hp.map fun b : Row1 => b.2).nodup_iff.mpr nd)) hn e ?_ (tups_of fun b hb' => e.tup (hb b (hp.mem_iff.mp hb')))
  · obtain ⟨b, h1, rfl⟩ := List.mem_map.mp hq
    exact List.mem_map.mpr ⟨b, hp.mem_iff.mp h1, rfl⟩
  · rw [List.map_map]
    exact upd_same
end Lw
end

section
/-! what sets tell at beginnings; beginnings that part them unlike -/
namespace Lw
open PySem L2
abbrev BB := Bool × Bool
def pr (b : Bits) (S : List Bits) : BB := (lookZ S b false, lookZ S b true)
/-- the first place of one as each -/
def ix {α : Type} [DecidableEq α] (l : List α) (x : α) : Nat := l.findIdx fun y => decide (y = x)
def al (Ss : List (List Bits)) (b : Bits) : List Nat := (Ss.map (pr b)).map (ix (Ss.map (pr b)))
def kp (Ss : List (List Bits)) (f : List Bits) (b : Bits) : Bool := decide (al Ss b ∉ f.map (al Ss)) && (al Ss b).any fun k => decide (0 < k)
def unl (Ss : List (List Bits)) (us : List Bits) : List Bits := us.foldl (fun f b => if kp Ss f b then f ++ [b] else f) []
theorem unl_snoc (Ss : List (List Bits)) (us : List Bits) (b : Bits) : unl Ss (us ++ [b]) = if kp Ss (unl Ss us) b then unl Ss us ++ [b] else unl Ss us := by
  unfold unl
  rw [List.foldl_append]
  rfl
theorem unl_len (Ss : List (List Bits)) (us : List Bits) : (unl Ss us).length ≤ us.length := by
  induction us using snoc_ind with
  | h0 => exact Nat.le_refl _
  | hs us b ih =>
    rw [unl_snoc, List.length_append]
    split
    · rw [List.length_append]
      simp only [List.length_cons, List.length_nil]
      omega
    · simp only [List.length_cons, List.length_nil]
      omega
/-! in the heap -/
def bbV (x : BB) : List V := [.bl x.1, .bl x.2]
def BbsAt (K : PySem.W.Frag) (H : Hp) (ts : List Addr) (xs : List BB) : Prop := Paired (fun t x => SqT K H t (bbV x)) ts xs
theorem BbsAt.ext {K : PySem.W.Frag} {H H' : Hp} {ts : List Addr} {xs : List BB} (h : BbsAt K H ts xs) (e : Ext H H') : BbsAt K H' ts xs := paired_mono (fun t x h => e.tup h) h
def ToldAt (K : PySem.W.Frag) (H : Hp) (t : Addr) (xs : List BB) : Prop := ∃ ts : List Addr, H t = some (.lst (ts.map V.ref)) ∧ BbsAt K H ts xs
theorem ToldAt.ext {K : PySem.W.Frag} {H H' : Hp} {t : Addr} {xs : List BB} (h : ToldAt K H t xs) (e : Ext H H') : ToldAt K H' t xs := by
  obtain ⟨ts, h1, h2⟩ := h
  exact ⟨ts, e.st _ _ h1 (nsh_refs _), h2.ext e⟩
theorem sqT_updW {K : PySem.W.Frag} {H : Hp} {q t : Addr} {ys : List V} {o : HO} (hq : ∀ xs, H q ≠ some (.tup xs)) (hf : ∀ o2 xs, H q ≠ some (.frz o2 (.tup xs))) (h : SqT K H t ys) : SqT K (upd H q o) t ys := by
  rcases h with (h | ⟨o2, h⟩) | h
  · exact .inl (.inl (by rw [upd_ne (by intro e; rw [e] at h; exact hq _ h)]; exact h))
  · exact .inl (.inr ⟨o2, by rw [upd_ne (by intro e; rw [e] at h; exact hf _ _ h)]; exact h⟩)
  · exact .inr h
theorem sqT_updD {K : PySem.W.Frag} {H : Hp} {q t : Addr} {ys : List V} {o : HO} {kvs : List (List Key × V)} (hq : H q = some (.dT kvs)) (h : SqT K H t ys) : SqT K (upd H q o) t ys :=
  sqT_updW (fun xs e => by rw [hq] at e; cases e) (fun o2 xs e => by rw [hq] at e; cases e) h
/-- a row: a beginning, what all sets tell there; N: where it must not stand -/
def RowP (K : PySem.W.Frag) (N : Addr → Prop) (H : Hp) (Ss : List (List Bits)) (r : Addr) (b : Bits) : Prop := ∃ t, ¬ N t ∧ SqT K H r [.str (B b), .ref t] ∧ ToldAt K H t (Ss.map (pr b))
theorem RowP.ext {K : PySem.W.Frag} {N : Addr → Prop} {H H' : Hp} {Ss : List (List Bits)} {r : Addr} {b : Bits} (h : RowP K N H Ss r b) (e : Ext H H') : RowP K N H' Ss r b := by
  obtain ⟨t, h0, h1, h2⟩ := h
  exact ⟨t, h0, e.tup h1, h2.ext e⟩
theorem RowP.updL {K : PySem.W.Frag} {N : Addr → Prop} {H : Hp} {Ss : List (List Bits)} {r q : Addr} {b : Bits} {xs : List V} {o : HO} (h : RowP K N H Ss r b) (hq : H q = some (.lst xs)) (hN : N q) : RowP K N (upd H q o) Ss r b := by
  obtain ⟨t, h0, h1, ts, h2, h3⟩ := h
  exact ⟨t, h0, sqT_upd hq h1, ts, by rw [upd_ne (by intro e; exact h0 (e ▸ hN))]; exact h2, paired_mono (fun t x h => sqT_upd hq h) h3⟩
theorem RowP.updD {K : PySem.W.Frag} {N : Addr → Prop} {H : Hp} {Ss : List (List Bits)} {r q : Addr} {b : Bits} {kvs : List (List Key × V)} {o : HO} (h : RowP K N H Ss r b) (hq : H q = some (.dT kvs)) : RowP K N (upd H q o) Ss r b := by
  obtain ⟨t, h0, h1, ts, h2, h3⟩ := h
  exact ⟨t, h0, sqT_updD hq h1, ts, by rw [upd_ne (by intro e; rw [e, hq] at h2; cases h2)]; exact h2, paired_mono (fun t x h => sqT_updD hq h) h3⟩
theorem RowP.free {K : PySem.W.Frag} {N M : Addr → Prop} {H : Hp} {Ss : List (List Bits)} {r : Addr} {b : Bits} (h : RowP K N H Ss r b) (hm : ∀ t, M t → N t) : RowP K M H Ss r b := by
  obtain ⟨t, h0, h1⟩ := h
  exact ⟨t, fun m => h0 (hm t m), h1⟩
theorem ix_spec {α : Type} [DecidableEq α] {l : List α} {x : α} (h : x ∈ l) : l[ix l x]? = some x ∧ ∀ m, m < ix l x → l[m]? ≠ some x := by
  have hlt : ix l x < l.length := List.findIdx_lt_length_of_exists ⟨x, h, decide_eq_true rfl⟩
  have h1 := List.findIdx_getElem (w := hlt)
  refine ⟨by rw [List.getElem?_eq_getElem hlt]; exact congrArg some (of_decide_eq_true h1), fun m hm e => ?_⟩
  have h2 := List.not_of_lt_findIdx hm
  obtain ⟨h3, h4⟩ := List.getElem?_eq_some_iff.mp e
  simp only [h4] at h2
  simp at h2
/-- list.index of data that are nice -/
theorem w_indexN {K : PySem.W.Frag} {H : Hp} {Q : VK} {α : Type} [DecidableEq α] {f : α → PyData} {n : Nat} (hf : Nice f n) (hn : n + 1 ≤ 64) {l : List α} {x : α} (hx : x ∈ l) {a : Addr} {v : V} (h1 : Dp K H (.ref a) (.list (l.map f))) (h2 : Dp K H v (f x)) (k : Q (.int (ix l x : Int)) H) : rIndexD K (.ref a) [v] H Q := by
  obtain ⟨i1, i2⟩ := ix_spec hx
  refine ⟨a, v, f x, l.map f, ix l x, f x, rfl, rfl, h1, h2, (nice_list hf).shaped hn l, hf.shaped (by omega) x, by rw [List.getElem?_map, i1]; rfl, by rw [hf.eq]; exact decide_eq_true rfl, fun m z hm hz => ?_, k⟩
  rw [List.getElem?_map] at hz
  cases e : l[m]? with
  | none => rw [e] at hz; cases hz
  | some y =>
    rw [e] at hz
    cases hz
    rw [hf.eq]
    exact decide_eq_false fun q => i2 m hm (by rw [e, q])
theorem dpAll_bb {K : PySem.W.Frag} {H : Hp} : ∀ {ts : List Addr} {xs : List BB}, BbsAt K H ts xs → DpAll K H (ts.map V.ref) (xs.map bbD)
  | _, _, .nil => .nil
  | _, _, .cons a h => .cons (dp_bbT a) (dpAll_bb h)
theorem dp_told {K : PySem.W.Frag} {H : Hp} {t : Addr} {ts : List Addr} {xs : List BB} (h : SqL K H t (ts.map V.ref)) (p : BbsAt K H ts xs) : Dp K H (.ref t) (.list (xs.map bbD)) := .lst h (dpAll_bb p)
/-! tuples of numbers as keys -/
def kN (l : List Nat) : List Key := l.map fun k : Nat => .inl (k : Int)
theorem kN_V (l : List Nat) : (kN l).map kV = l.map vN := by
  unfold kN
  rw [List.map_map]
  rfl
theorem kN_inj {l m : List Nat} (h : kN l = kN m) : l = m := by
  induction l generalizing m with
  | nil => cases m with
    | nil => rfl
    | cons y m => cases h
  | cons x l ih => cases m with
    | nil => cases h
    | cons y m =>
      unfold kN at h ih
      rw [List.map_cons, List.map_cons] at h
      obtain ⟨h1, h2⟩ := List.cons.inj h
      have h3 : (x : Int) = (y : Int) := Sum.inl.inj h1
      rw [ih h2, show x = y by omega]
def dN (ls : List (List Nat)) : List (List Key × V) := ls.map fun l => (kN l, .bl true)
theorem dN_val (ls : List (List Nat)) (l : List Nat) : (valV (dN ls) (kN l)).isSome = decide (l ∈ ls) := by
  rw [← valV_any]
  unfold dN
  rw [List.any_map, Bool.eq_iff_iff, List.any_eq_true, decide_eq_true_eq]
  constructor
  · rintro ⟨m, hm, e⟩
    rw [← kN_inj (of_decide_eq_true e)]
    exact hm
  · exact fun h => ⟨l, h, decide_eq_true rfl⟩
theorem dN_put {ls : List (List Nat)} {l : List Nat} (h : l ∉ ls) : putK (dN ls) (kN l) (.bl true) = dN (ls ++ [l]) := by
  rw [putK_new]
  · unfold dN
    rw [List.map_append]
    rfl
  · have := dN_val ls l
    rw [decide_eq_false h] at this
    cases e : valV (dN ls) (kN l) with
    | none => rfl
    | some v => rw [e] at this; cases this
theorem w_dnotN {H : Hp} {Q : VK} {d b : Addr} {ls : List (List Nat)} {l : List Nat} (h : H d = some (.dT (dN ls))) (hb : H b = some (.tup (l.map vN))) (k : Q (.bl (decide (l ∉ ls))) H) : DnotOk (.ref b) (.ref d) H Q :=
  ⟨d, _, rfl, DGet.t h (k := kN l) (by rw [kN_V]; exact hb), by
    rw [dN_val]
    have e : (!decide (l ∈ ls)) = decide (l ∉ ls) := by by_cases h : l ∈ ls <;> simp [h]
    rw [e]
    exact k⟩
theorem w_dputN {H : Hp} {S : Hp → Prop} {d b : Addr} {ls : List (List Nat)} {l : List Nat} (h : H d = some (.dT (dN ls))) (hb : H b = some (.tup (l.map vN))) (hn : l ∉ ls) (hz : ls.length < 100000) (k : S (upd H d (.dT (dN (ls ++ [l]))))) : DputOk (.bl true) (.ref d) (.ref b) H S :=
  ⟨d, _, rfl, DPut.t h (k := kN l) (by rw [kN_V]; exact hb) (by unfold dN; rw [List.length_map]; exact Nat.lt_of_lt_of_le hz (by decide)), by rw [dN_put hn]; exact k⟩
theorem al_len (Ss : List (List Bits)) (b : Bits) : (al Ss b).length = Ss.length := by simp [al]
theorem any_max {l : List Nat} {m : Int} (h1 : m ∈ l.map fun k : Nat => (k : Int)) (h2 : ∀ y ∈ l.map (fun k : Nat => (k : Int)), y ≤ m) : decide (m > 0) = l.any fun k => decide (0 < k) := by
  rw [Bool.eq_iff_iff, decide_eq_true_eq, List.any_eq_true]
  constructor
  · intro h
    obtain ⟨k, hk, rfl⟩ := List.mem_map.mp h1
    exact ⟨k, hk, decide_eq_true (by omega)⟩
  · rintro ⟨k, hk, h⟩
    have := h2 _ (List.mem_map.mpr ⟨k, hk, rfl⟩)
    have := of_decide_eq_true h
    omega
end Lw
end

section
/-! rosters: beginnings that part sets, few of them; masks; the first row that does -/
namespace Lw
open PySem L2
/-! ### how many there are -/
def tails (c : Bool) (R : List Bits) : List Bits := R.filterMap fun x => match x with
  | [] => none
  | d :: y => if d = c then some y else none
def cl (R : List Bits) (b : Bits) : List Bits := R.filter fun x => decide (b <+: x)
end Lw
end

section
/-! masks; the first row of places that covers -/
namespace Lw
open PySem L2
/-! ### masks -/
def mk : List Bool → Nat
  | [] => 0
  | b :: l => b.toNat + 2 * mk l
def zAnd (a b : List Bool) : List Bool := List.zipWith (fun x y => x && y) a b
def clr (a b : List Bool) : List Bool := List.zipWith (fun x y => x && !y) a b
def zOr (a b : List Bool) : List Bool := List.zipWith (fun x y => x || y) a b
def none_ (l : List Bool) : Bool := l.all fun b => !b
/-! ### rows that cover -/
def cov (ms : List (List Bool)) : List Bool → List Nat → Bool
  | w, [] => none_ w
  | w, p :: row => cov ms (clr w (ms.getD p [])) row
/-- rows from a place on, the first places first -/
def rowsB : Nat → Nat → Nat → List (List Nat)
  | _, _, 0 => [[]]
  | b, n, m + 1 => (List.range' b (n - b)).flatMap fun p => (rowsB (p + 1) n m).map (p :: ·)
/-- what first_rows finds -/
def FR (ms : List (List Bool)) (m : Nat) (w : List Bool) (b : Nat) : Option (List Nat) := (rowsB b ms.length m).find? (cov ms w)
/-- the first row of the shortest that have a property -/
def FirstR (n : Nat) (c : List Nat → Bool) (m : Nat) (F : List Nat) : Prop := F ∈ rowsF n m ∧ c F = true ∧ ∀ m' p, p ∈ rowsF n m' → c p = true → m ≤ m' ∧ (m' = m → ¬ LexN p F)
/-! ### rows are few -/
def subN : Nat → List (List Nat)
  | 0 => [[]]
  | n + 1 => subN n ++ (subN n).map fun s => s ++ [n]
end Lw
end

section
/-! the kept beginnings: few, and enough -/
namespace Lw
open PySem L2
theorem al_eq (Ss : List (List Bits)) (b : Bits) : al Ss b = Ss.map fun S => Ss.findIdx fun T => decide (pr b T = pr b S) := by
  unfold al
  rw [List.map_map]
  refine List.map_congr_left fun S _ => ?_
  show List.findIdx _ (Ss.map (pr b)) = _
  rw [List.findIdx_map]
  rfl
theorem al_back {Ss : List (List Bits)} {b b' : Bits} (h : al Ss b = al Ss b') : ∀ S ∈ Ss, ∀ T ∈ Ss, (pr b S = pr b T ↔ pr b' S = pr b' T) := by
  rw [al_eq, al_eq] at h
  have h1 := List.map_inj_left.mp h
  have key : ∀ (b b' : Bits), (∀ S ∈ Ss, (Ss.findIdx fun T => decide (pr b T = pr b S)) = Ss.findIdx fun T => decide (pr b' T = pr b' S)) → ∀ S ∈ Ss, ∀ T ∈ Ss, pr b S = pr b T → pr b' S = pr b' T := fun b b' h1 S hS T hT e => by
    have g1 := h1 S hS
    have g2 := h1 T hT
    rw [e] at g1
    have g3 : (Ss.findIdx fun U => decide (pr b' U = pr b' S)) = Ss.findIdx fun U => decide (pr b' U = pr b' T) := g1.symm.trans g2
    have l1 : (Ss.findIdx fun U => decide (pr b' U = pr b' S)) < Ss.length := List.findIdx_lt_length_of_exists ⟨S, hS, decide_eq_true rfl⟩
    have l2 : (Ss.findIdx fun U => decide (pr b' U = pr b' T)) < Ss.length := List.findIdx_lt_length_of_exists ⟨T, hT, decide_eq_true rfl⟩
    have q1 := of_decide_eq_true (List.findIdx_getElem (w := l1))
    have q2 := of_decide_eq_true (List.findIdx_getElem (w := l2))
    rw [← q1, ← q2]
    simp only [g3]
  exact fun S hS T hT => ⟨key b b' h1 S hS T hT, key b' b (fun S hS => (h1 S hS).symm) S hS T hT⟩
theorem al_pos {Ss : List (List Bits)} {b : Bits} : ((al Ss b).any fun k => decide (0 < k)) = true ↔ ∃ S ∈ Ss, ∃ T ∈ Ss, pr b S ≠ pr b T := by
  rw [al_eq, List.any_map, List.any_eq_true]
  cases Ss with
  | nil => simp
  | cons H Ss =>
    constructor
    · rintro ⟨S, hS, h⟩
      refine ⟨H, by simp, S, hS, fun e => ?_⟩
      have h : 0 < List.findIdx (fun T => decide (pr b T = pr b S)) (H :: Ss) := of_decide_eq_true h
      rw [List.findIdx_cons, decide_eq_true e] at h
      exact Nat.lt_irrefl 0 h
    · rintro ⟨S, hS, T, hT, hne⟩
      refine Classical.byContradiction fun hn => hne ?_
      have all : ∀ U ∈ H :: Ss, pr b H = pr b U := fun U hU => by
        refine Classical.byContradiction fun e => hn ⟨U, hU, decide_eq_true ?_⟩
        show 0 < List.findIdx _ (H :: Ss)
        rw [List.findIdx_cons, decide_eq_false e]
        exact Nat.succ_pos _
      rw [← all S hS, ← all T hT]
theorem unl_in {Ss : List (List Bits)} {us : List Bits} : (∀ f ∈ unl Ss us, f ∈ us ∧ ∃ S ∈ Ss, ∃ T ∈ Ss, pr f S ≠ pr f T) ∧ ((unl Ss us).map (al Ss)).Nodup ∧ ∀ b ∈ us, (∃ S ∈ Ss, ∃ T ∈ Ss, pr b S ≠ pr b T) → ∃ f ∈ unl Ss us, al Ss f = al Ss b := by
  induction us using snoc_ind with
  | h0 => exact ⟨fun f hf => (by cases hf), List.nodup_nil, fun b hb => (by cases hb)⟩
  | hs us b ih =>
    obtain ⟨i1, i2, i3⟩ := ih
    rw [unl_snoc]
    by_cases hk : kp Ss (unl Ss us) b = true
    · rw [if_pos hk]
      unfold kp at hk
      rw [Bool.and_eq_true, decide_eq_true_eq] at hk
      obtain ⟨k1, k2⟩ := hk
      refine ⟨fun f hf => ?_, ?_, fun c hc hp => ?_⟩
      · rcases List.mem_append.mp hf with hf | hf
        · exact ⟨List.mem_append_left _ (i1 f hf).1, (i1 f hf).2⟩
        · rw [List.mem_singleton.mp hf]
          exact ⟨by simp, al_pos.mp k2⟩
      · rw [List.map_append]
        refine List.nodup_append.mpr ⟨i2, List.nodup_cons.mpr ⟨by simp, List.nodup_nil⟩, fun x hx y hy e => ?_⟩
        rw [List.map_cons, List.map_nil] at hy
        rw [e, List.mem_singleton.mp hy] at hx
        exact k1 hx
      · rcases List.mem_append.mp hc with hc | hc
        · obtain ⟨f, h1, h2⟩ := i3 c hc hp
          exact ⟨f, List.mem_append_left _ h1, h2⟩
        · rw [List.mem_singleton.mp hc]
          exact ⟨b, by simp, rfl⟩
    · rw [if_neg hk]
      refine ⟨fun f hf => ⟨List.mem_append_left _ (i1 f hf).1, (i1 f hf).2⟩, i2, fun c hc hp => ?_⟩
      rcases List.mem_append.mp hc with hc | hc
      · exact i3 c hc hp
      · rw [List.mem_singleton.mp hc] at hp ⊢
        have h2 := al_pos.mpr hp
        unfold kp at hk
        rw [h2, Bool.and_true, decide_eq_true_eq, Classical.not_not] at hk
        obtain ⟨f, h3, h4⟩ := List.mem_map.mp hk
        exact ⟨f, h3, h4⟩
/-! ### few -/
def vis (b : Bits) (S : List Bits) : Prop := ∃ x ∈ S, b <+: x
theorem look_vis {S : List Bits} {b : Bits} {c : Bool} (h : lookZ S b c = true) : vis b S := by
  obtain ⟨x, hx, hp⟩ := lookZ_ex.mp h
  exact ⟨x, hx, (List.prefix_append _ _).trans hp⟩
/-! ### enough -/
/-- which sets tell unlike the one at a place -/
def mrk (Ss : List (List Bits)) (pl : Nat) (b : Bits) : List Bool := Ss.map fun S => decide (pr b S ≠ pr b (Ss.getD pl []))
def wh (N pl : Nat) : List Bool := (List.range N).map fun k => decide (k ≠ pl)
/-- rows of kept beginnings that show the set at a place -/
def covS (Ss : List (List Bits)) (pl : Nat) (fs : List Bits) (row : List Nat) : Bool := cov (fs.map (mrk Ss pl)) (wh Ss.length pl) row
end Lw
end

section
/-! lists of texts that are no sets of a roster -/
namespace Lw
open PySem L2
/-- no set of a roster -/
def BadS (n : Nat) (ls : List Bits) (ys : List Str) : Prop := ¬ (IsRise n ys ∧ ∀ y ∈ ys, y ∈ ls.map B)
/-- a sign so many times -/
def repT (c n : Nat) : Str := ⟨(List.replicate n c).toArray⟩
theorem blt_apps : ∀ {a b : Bits} (x y : Bits), a.length = b.length → blt a b = true → blt (a ++ x) (b ++ y) = true
  | [], [], _, _, _, h => by cases h
  | a :: x, b :: y, u, v, hl, h => by
    simp only [blt, List.cons_append] at h ⊢
    by_cases e : a = b
    · rw [if_pos e] at h ⊢
      exact blt_apps u v (by simpa using hl) h
    · rw [if_neg e] at h ⊢
      exact h
theorem rise_tail {k : Nat} : ∀ {L ts : List Bits}, Paired (fun (a t : Bits) => ∃ c : Bool, a = t ++ [c]) L ts → Rise ts → (∀ t ∈ ts, t.length = k) → Rise L ∧ (∀ a ∈ L, a.length = k + 1) ∧ ∀ a ∈ L, ∃ t ∈ ts, ∃ c : Bool, a = t ++ [c]
  | _, _, .nil, _, _ => ⟨List.Pairwise.nil, fun a ha => (by cases ha), fun a ha => (by cases ha)⟩
  | a :: L, t :: ts, .cons ⟨c, hc⟩ h, hr, hl => by
    obtain ⟨r1, r2⟩ := List.pairwise_cons.mp hr
    obtain ⟨i1, i2, i3⟩ := rise_tail h r2 fun t ht => hl t (List.mem_cons_of_mem _ ht)
    have htl := hl t (by simp)
    refine ⟨List.pairwise_cons.mpr ⟨fun b hb => ?_, i1⟩, fun b hb => ?_, fun b hb => ?_⟩
    · obtain ⟨u, hu, d, rfl⟩ := i3 b hb
      rw [hc]
      exact blt_apps _ _ (by rw [htl, hl u (List.mem_cons_of_mem _ hu)]) (r1 u hu)
    · rcases List.mem_cons.mp hb with rfl | hb
      · rw [hc, List.length_append, htl]
        rfl
      · exact i2 b hb
    · rcases List.mem_cons.mp hb with rfl | hb
      · exact ⟨t, by simp, c, hc⟩
      · obtain ⟨u, hu, d, e⟩ := i3 b hb
        exact ⟨u, List.mem_cons_of_mem _ hu, d, e⟩
end Lw
end

section
/-! tuple.index; dicts whose keys are tuples of numbers, their values at places -/
namespace Lw
open PySem PySem.Spec PyProof.Rows L2
section
variable {X : Cx}
/-- t.index(x): the first place of an equal one -/
def rTIndex (K : PySem.W.Frag) : V → List V → Hp → VK → Prop := fun x xs H Q => ∃ (a : Addr) (y : V) (d : PyData) (ds : List PyData) (j : Nat) (z : PyData), x = V.ref a ∧ xs = [y] ∧ Dp K H (V.ref a) (.tuple ds) ∧ Dp K H y d ∧
  SeqAt.shaped (.tuple ds) = true ∧ SeqAt.shaped d = true ∧ ds[j]? = some z ∧ PyData.eqv z d = true ∧ (∀ (m : Nat) (z' : PyData), m < j → ds[m]? = some z' → PyData.eqv z' d = false) ∧ Q (.int (j : Nat)) H
end
/-- the four answers -/
def ANS : List BB := [(false, false), (false, true), (true, false), (true, true)]
def aiN (a : BB) : Nat := 2 * (if a.1 then 1 else 0) + if a.2 then 1 else 0
/-! dicts whose keys are tuples of numbers -/
def dP (kvs : List (List Nat × Addr)) : List (List Key × V) := kvs.map fun p => (kN p.1, .ref p.2)
theorem kN_dec (k l : List Nat) : decide (kN k = kN l) = decide (k = l) := by
  by_cases h : k = l
  · rw [decide_eq_true h, decide_eq_true (by rw [h])]
  · rw [decide_eq_false h, decide_eq_false fun e => h (kN_inj e)]
theorem dP_val : ∀ (kvs : List (List Nat × Addr)) (l : List Nat), valV (dP kvs) (kN l) = (kvs.lookup l).map V.ref
  | [], _ => rfl
  | (k, v) :: r, l => by
    unfold valV dP
    rw [List.map_cons, List.find?_cons, List.lookup_cons]
    have : (l == k) = decide (k = l) := by
      by_cases h : k = l
      · rw [decide_eq_true h, h]; simp
      · rw [decide_eq_false h]
        exact beq_eq_false_iff_ne.mpr fun e => h e.symm
    rw [this]
    show Option.map _ (match decide (kN k = kN l) with | true => _ | false => _) = _
    rw [kN_dec]
    cases decide (k = l) with
    | true => rfl
    | false => exact dP_val r l
theorem dP_put {kvs : List (List Nat × Addr)} {l : List Nat} {p : Addr} (h : kvs.lookup l = none) : putK (dP kvs) (kN l) (.ref p) = dP (kvs ++ [(l, p)]) := by
  rw [putK_new]
  · unfold dP
    rw [List.map_append]
    rfl
  · rw [dP_val, h]
    rfl
end Lw
end

section
/-! plans: trees of looks; the fewest looks at the worst -/
namespace Lw
open PySem
/-- a plan, or none -/
inductive Pl where
  | non
  | hung (S : List Bits)
  | look (b : Bits) (c0 c1 c2 c3 : Pl)
def Pl.at (a : BB) (c0 c1 c2 c3 : Pl) : Pl := match a with
  | (false, false) => c0
  | (false, true) => c1
  | (true, false) => c2
  | (true, true) => c3
/-- as data -/
def Pl.d : Pl → PyData
  | .non => .none
  | .hung S => .tuple [.str "hung", .tuple (S.map db)]
  | .look b c0 c1 c2 c3 => .tuple [.str "look", .str (B b), .tuple [c0.d, c1.d, c2.d, c3.d]]
/-- how many looks lie within one another -/
def Pl.deep : Pl → Nat
  | .non => 0
  | .hung _ => 0
  | .look _ c0 c1 c2 c3 => 1 + max (max c0.deep c1.deep) (max c2.deep c3.deep)
/-- how many numbers a set of it has at most -/
def Pl.wide : Pl → Nat
  | .non => 0
  | .hung S => S.length
  | .look _ c0 c1 c2 c3 => max (max c0.wide c1.wide) (max c2.wide c3.wide)
/-- its beginnings are beginnings; its numbers are short -/
def Pl.ok (n : Nat) : Pl → Prop
  | .non => True
  | .hung S => S.length ≤ 1000 ∧ ∀ x ∈ S, x.length ≤ 100
  | .look b c0 c1 c2 c3 => b.length < n ∧ c0.ok n ∧ c1.ok n ∧ c2.ok n ∧ c3.ok n
/-- gone along as S hangs: what it tells, how many looks -/
def Pl.go (S : List Bits) : Pl → Option (List Bits) × Nat
  | .non => (none, 0)
  | .hung T => (some T, 0)
  | .look b c0 c1 c2 c3 => match pr b S with
    | (false, false) => ((c0.go S).1, (c0.go S).2 + 1)
    | (false, true) => ((c1.go S).1, (c1.go S).2 + 1)
    | (true, false) => ((c2.go S).1, (c2.go S).2 + 1)
    | (true, true) => ((c3.go S).1, (c3.go S).2 + 1)
theorem Pl.go_look (S : List Bits) (b : Bits) (c0 c1 c2 c3 : Pl) : (Pl.look b c0 c1 c2 c3).go S = (((Pl.at (pr b S) c0 c1 c2 c3).go S).1, ((Pl.at (pr b S) c0 c1 c2 c3).go S).2 + 1) := by
  rw [Pl.go]
  cases h : pr b S with
  | mk x y => cases x <;> cases y <;> rfl
theorem Pl.at_deep (a : BB) (b : Bits) (c0 c1 c2 c3 : Pl) : (Pl.at a c0 c1 c2 c3).deep + 1 ≤ (Pl.look b c0 c1 c2 c3).deep := by
  obtain ⟨x, y⟩ := a
  show _ ≤ 1 + max (max c0.deep c1.deep) (max c2.deep c3.deep)
  cases x <;> cases y <;> simp only [Pl.at] <;> omega
theorem Pl.at_ok {n : Nat} (a : BB) {b : Bits} {c0 c1 c2 c3 : Pl} (h : (Pl.look b c0 c1 c2 c3).ok n) : (Pl.at a c0 c1 c2 c3).ok n := by
  obtain ⟨x, y⟩ := a
  obtain ⟨_, h0, h1, h2, h3⟩ := h
  cases x <;> cases y <;> assumption
/-! ### some places, parted by a look -/
def gS (Ss : List (List Bits)) (i : Nat) : List Bits := Ss.getD i []
def prt (Ss : List (List Bits)) (b : Bits) (a : BB) (l : List Nat) : List Nat := l.filter fun i => decide (pr b (gS Ss i) = a)
theorem mem_prt {Ss : List (List Bits)} {b : Bits} {a : BB} {l : List Nat} {i : Nat} : i ∈ prt Ss b a l ↔ i ∈ l ∧ pr b (gS Ss i) = a := by
  unfold prt
  rw [List.mem_filter, decide_eq_true_eq]
theorem prt_sub (Ss : List (List Bits)) (b : Bits) (a : BB) (l : List Nat) : (prt Ss b a l).Sublist l := List.filter_sublist
theorem prt_less {Ss : List (List Bits)} {b : Bits} {a : BB} {l : List Nat} (h : prt Ss b a l ≠ l) : (prt Ss b a l).length < l.length := by
  have := (prt_sub Ss b a l).length_le
  rcases Nat.lt_or_eq_of_le this with q | q
  · exact q
  · exact absurd ((prt_sub Ss b a l).eq_of_length q) h
/-- the look parts them -/
def Spl (Ss : List (List Bits)) (b : Bits) (l : List Nat) : Prop := ∀ a, prt Ss b a l ≠ l
/-- decidable by so many looks at the worst -/
inductive Can (Ss : List (List Bits)) (n : Nat) : Nat → List Nat → Prop
  | one {m : Nat} {l : List Nat} (h : l.length ≤ 1) : Can Ss n m l
  | look {m : Nat} {l : List Nat} (b : Bits) (hb : b.length < n) (h : ∀ a, Can Ss n m (prt Ss b a l)) : Can Ss n (m + 1) l
theorem Can.up {Ss : List (List Bits)} {n m : Nat} {l : List Nat} (h : Can Ss n m l) : Can Ss n (m + 1) l := by
  induction h with
  | one h => exact .one h
  | look b hb _ ih => exact .look b hb ih
theorem Can.sub {Ss : List (List Bits)} {n m : Nat} {l : List Nat} (h : Can Ss n m l) : ∀ {k : List Nat}, k.Sublist l → Can Ss n m k := by
  induction h with
  | one h => exact fun s => .one (Nat.le_trans s.length_le h)
  | look b hb _ ih => exact fun s => .look b hb fun a => ih a (s.filter _)
/-- a plan that is right for some places, by so many looks at the worst -/
structure Right (Ss : List (List Bits)) (n : Nat) (T : Pl) (l : List Nat) (m : Nat) : Prop where
  ok : T.ok n
  top : T ≠ .non
  deep : T.deep ≤ m
  wd : T.wide ≤ 4
  go : ∀ i ∈ l, (T.go (gS Ss i)).1 = some (gS Ss i) ∧ (T.go (gS Ss i)).2 ≤ m
  att : ∃ i ∈ l, (T.go (gS Ss i)).2 = m
/-- .. and none is right by fewer -/
structure Best (Ss : List (List Bits)) (n : Nat) (T : Pl) (l : List Nat) (m : Nat) : Prop extends Right Ss n T l m where
  low : ∀ m', Can Ss n m' l → m ≤ m'
section
variable {Ss : List (List Bits)} {n : Nat}
theorem best_one {i : Nat} (h : (gS Ss i).length ≤ 4 ∧ ∀ x ∈ gS Ss i, x.length ≤ 100) : Best Ss n (.hung (gS Ss i)) [i] 0 where
  ok := ⟨by omega, h.2⟩
  wd := h.1
  top := fun e => by cases e
  deep := Nat.le_refl _
  go := fun j hj => by rw [List.mem_singleton.mp hj]; exact ⟨rfl, Nat.le_refl _⟩
  att := ⟨i, by simp, rfl⟩
  low := fun m' _ => Nat.zero_le _
/-- a look at a beginning -/
theorem right_look {l : List Nat} {b : Bits} {M : Nat} {c : BB → Pl} {mm : BB → Nat} (hb : b.length < n) (h0 : ∀ a, prt Ss b a l = [] → c a = .non) (h1 : ∀ a, prt Ss b a l ≠ [] → Best Ss n (c a) (prt Ss b a l) (mm a)) (hM : ∀ a, prt Ss b a l ≠ [] → mm a + 1 ≤ M) (hA : ∃ a, prt Ss b a l ≠ [] ∧ mm a + 1 = M) :
    Right Ss n (.look b (c (false, false)) (c (false, true)) (c (true, false)) (c (true, true))) l M ∧ ∀ m', (∀ a, Can Ss n m' (prt Ss b a l)) → M ≤ m' + 1 := by
  have ok1 : ∀ a, (c a).ok n := fun a => by
    by_cases e : prt Ss b a l = []
    · rw [h0 a e]; exact True.intro
    · exact (h1 a e).ok
  have wd1 : ∀ a, (c a).wide ≤ 4 := fun a => by
    by_cases e : prt Ss b a l = []
    · rw [h0 a e]; exact Nat.zero_le _
    · exact (h1 a e).wd
  have dp : ∀ a, (c a).deep + 1 ≤ M := fun a => by
    by_cases e : prt Ss b a l = []
    · obtain ⟨a', _, e2⟩ := hA
      rw [h0 a e]
      show 0 + 1 ≤ M
      omega
    · have := (h1 a e).deep
      have := hM a e
      omega
  have at_ : ∀ a, Pl.at a (c (false, false)) (c (false, true)) (c (true, false)) (c (true, true)) = c a := fun ⟨x, y⟩ => by cases x <;> cases y <;> rfl
  refine ⟨⟨⟨hb, ok1 _, ok1 _, ok1 _, ok1 _⟩, fun e => (by cases e), ?_, ?_, fun i hi => ?_, ?_⟩, fun m' hm => ?_⟩
  · show 1 + max (max _ _) (max _ _) ≤ M
    have := dp (false, false)
    have := dp (false, true)
    have := dp (true, false)
    have := dp (true, true)
    omega
  · show max (max _ _) (max _ _) ≤ 4
    have := wd1 (false, false)
    have := wd1 (false, true)
    have := wd1 (true, false)
    have := wd1 (true, true)
    omega
  · have hp : i ∈ prt Ss b (pr b (gS Ss i)) l := mem_prt.mpr ⟨hi, rfl⟩
    have ne : prt Ss b (pr b (gS Ss i)) l ≠ [] := fun e => by rw [e] at hp; cases hp
    obtain ⟨g1, g2⟩ := (h1 _ ne).go i hp
    have := hM _ ne
    rw [Pl.go_look, at_]
    exact ⟨g1, by show _ + 1 ≤ M; omega⟩
  · obtain ⟨a, ne, e⟩ := hA
    obtain ⟨i, hi, hg⟩ := (h1 a ne).att
    obtain ⟨hil, hpa⟩ := mem_prt.mp hi
    refine ⟨i, hil, ?_⟩
    rw [Pl.go_look, at_, hpa]
    show _ + 1 = M
    rw [hg, e]
  · obtain ⟨a, ne, e⟩ := hA
    have := (h1 a ne).low m' (hm a)
    omega
/-- beginnings that part each two of them -/
theorem can_sep : ∀ (F : List Bits) (l : List Nat), l.Nodup → (∀ b ∈ F, b.length < n) → (∀ i ∈ l, ∀ j ∈ l, i ≠ j → ∃ b ∈ F, pr b (gS Ss i) ≠ pr b (gS Ss j)) → Can Ss n F.length l
  | [], l, nd, _, h => .one (by
    match l, nd, h with
    | [], _, _ => exact Nat.zero_le _
    | [_], _, _ => exact Nat.le_refl _
    | i :: j :: l, nd, h =>
      obtain ⟨b, hb, _⟩ := h i (by simp) j (by simp) (fun e => by
        rw [e] at nd
        exact (List.nodup_cons.mp nd).1 (by simp))
      cases hb)
  | b :: F, l, nd, hF, h => .look b (hF b (by simp)) fun a => can_sep F _ (nd.sublist (prt_sub _ _ _ _)) (fun c hc => hF c (List.mem_cons_of_mem _ hc)) fun i hi j hj hne => by
    obtain ⟨i1, i2⟩ := mem_prt.mp hi
    obtain ⟨j1, j2⟩ := mem_prt.mp hj
    obtain ⟨c, hc, hp⟩ := h i i1 j j1 hne
    rcases List.mem_cons.mp hc with rfl | hc
    · exact absurd (i2.trans j2.symm) hp
    · exact ⟨c, hc, hp⟩
end
/-- two sets of some numbers part at a number's beginning of all signs but the last -/
theorem apart_last {S T R : List Bits} {n : Nat} (hn : 1 ≤ n) (hR : ∀ x ∈ R, x.length = n) (hS : ∀ x ∈ S, x ∈ R) (hT : ∀ x ∈ T, x ∈ R) (rS : Rise S) (rT : Rise T) (hne : S ≠ T) : ∃ b ∈ R.map List.dropLast, pr b S ≠ pr b T := by
  have key : ∀ {A C : List Bits} {x : Bits}, (∀ x ∈ A, x ∈ R) → (∀ x ∈ C, x ∈ R) → x ∈ A → x ∉ C → ∃ b ∈ R.map List.dropLast, pr b A ≠ pr b C := fun {A C x} hA hC hx hxC => by
    have hl := hR x (hA x hx)
    have hx0 : x ≠ [] := fun e => by rw [e] at hl; simp at hl; omega
    have e := List.dropLast_concat_getLast hx0
    have h1 : lookZ A x.dropLast (x.getLast hx0) = true := lookZ_ex.mpr ⟨x, hx, by rw [e]; exact List.prefix_refl _⟩
    have h2 : lookZ C x.dropLast (x.getLast hx0) = false := Bool.eq_false_iff.mpr fun h => by
      obtain ⟨y, hy, hp⟩ := lookZ_ex.mp h
      rw [e] at hp
      have : x = y := hp.eq_of_length (by rw [hl, hR y (hC y hy)])
      exact hxC (this ▸ hy)
    refine ⟨x.dropLast, List.mem_map.mpr ⟨x, hA x hx, rfl⟩, fun q => ?_⟩
    have e1 := Prod.mk.inj q
    generalize x.getLast hx0 = c at h1 h2
    cases c
    · rw [e1.1, h2] at h1; cases h1
    · rw [e1.2, h2] at h1; cases h1
  refine Classical.byContradiction fun hno => hne (rise_ext rS rT fun x => ⟨fun hx => Classical.byContradiction fun hx2 => hno (key hS hT hx hx2), fun hx => Classical.byContradiction fun hx2 => hno ?_⟩)
  obtain ⟨b, hb, h⟩ := key hT hS hx hx2
  exact ⟨b, hb, fun q => h q.symm⟩
/-! ### the rows that are tried are enough -/
section
variable {Ss : List (List Bits)} {us R : List Bits} {n : Nat}
theorem gS_mem {i : Nat} (h : i < Ss.length) : gS Ss i ∈ Ss := by
  unfold gS
  rw [List.getD_eq_getElem?_getD, List.getElem?_eq_getElem h]
  exact List.getElem_mem h
theorem gS_inj (nd : Ss.Nodup) {i j : Nat} (hi : i < Ss.length) (hj : j < Ss.length) (h : gS Ss i = gS Ss j) : i = j := by
  unfold gS at h
  rw [List.getD_eq_getElem?_getD, List.getD_eq_getElem?_getD, List.getElem?_eq_getElem hi, List.getElem?_eq_getElem hj] at h
  exact (List.getElem_inj nd).mp h
/-- a look that parts some is one at a beginning of the numbers -/
theorem beg_of_pr {S T : List Bits} {b : Bits} (hS : ∀ x ∈ S, x ∈ R) (hT : ∀ x ∈ T, x ∈ R) (h : pr b S ≠ pr b T) : Beg R b := by
  refine Classical.byContradiction fun hno => h ?_
  have no : ∀ {U : List Bits}, (∀ x ∈ U, x ∈ R) → ∀ c, lookZ U b c = false := fun hU c => Bool.eq_false_iff.mpr fun q => by
    obtain ⟨x, hx, hp⟩ := look_vis q
    exact hno (.inr ⟨x, hU x hx, hp⟩)
  unfold pr
  rw [no hS, no hS, no hT, no hT]
theorem spl_row (hum : ∀ b, b ∈ us ↔ Beg R b ∧ b.length < n) (hS : ∀ S ∈ Ss, ∀ x ∈ S, x ∈ R) {l : List Nat} (hl : ∀ i ∈ l, i < Ss.length) {b : Bits} (hb : b.length < n) (hs : Spl Ss b l) (h2 : l ≠ []) :
    ∃ b' ∈ unl Ss us, Spl Ss b' l ∧ ∀ a, ∃ a', (prt Ss b' a l).Sublist (prt Ss b a' l) := by
  obtain ⟨i, hi⟩ := List.exists_mem_of_ne_nil l h2
  -- one that tells otherwise
  obtain ⟨j, hj, hne⟩ : ∃ j ∈ l, pr b (gS Ss j) ≠ pr b (gS Ss i) := by
    refine Classical.byContradiction fun hno => hs (pr b (gS Ss i)) ?_
    exact List.filter_eq_self.mpr fun j hj => decide_eq_true (Classical.byContradiction fun q => hno ⟨j, hj, q⟩)
  have hbu : b ∈ us := (hum b).mpr ⟨beg_of_pr (hS _ (gS_mem (hl j hj))) (hS _ (gS_mem (hl i hi))) hne, hb⟩
  obtain ⟨b', hb', ha⟩ := (unl_in (Ss := Ss) (us := us)).2.2 b hbu ⟨_, gS_mem (hl j hj), _, gS_mem (hl i hi), hne⟩
  have same := al_back ha
  refine ⟨b', hb', fun a e => ?_, fun a => ?_⟩
  · have hi' : i ∈ prt Ss b' a l := by rw [e]; exact hi
    have hj' : j ∈ prt Ss b' a l := by rw [e]; exact hj
    have := (mem_prt.mp hj').2.trans (mem_prt.mp hi').2.symm
    exact hne ((same _ (gS_mem (hl j hj)) _ (gS_mem (hl i hi))).mp this)
  · by_cases e : prt Ss b' a l = []
    · exact ⟨a, by rw [e]; exact List.nil_sublist _⟩
    · obtain ⟨k, hk⟩ := List.exists_mem_of_ne_nil _ e
      obtain ⟨k1, k2⟩ := mem_prt.mp hk
      refine ⟨pr b (gS Ss k), ?_⟩
      have : prt Ss b' a l = prt Ss b (pr b (gS Ss k)) l := by
        unfold prt
        refine List.filter_congr fun x hx => ?_
        have := same _ (gS_mem (hl x hx)) _ (gS_mem (hl k k1))
        rw [k2] at this
        rw [Bool.eq_iff_iff, decide_eq_true_eq, decide_eq_true_eq]
        exact this
      rw [this]
      exact List.Sublist.refl _
theorem can_split (hum : ∀ b, b ∈ us ↔ Beg R b ∧ b.length < n) (hS : ∀ S ∈ Ss, ∀ x ∈ S, x ∈ R) {m : Nat} {l : List Nat} (h : Can Ss n m l) : (∀ i ∈ l, i < Ss.length) → 2 ≤ l.length → ∃ b ∈ unl Ss us, Spl Ss b l ∧ ∃ m1, m = m1 + 1 ∧ ∀ a, Can Ss n m1 (prt Ss b a l) := by
  induction h with
  | one h => intro _ h2; omega
  | @look m l b hb h ih =>
    intro hl h2
    by_cases hs : Spl Ss b l
    · obtain ⟨b', h1, h3, h4⟩ := spl_row hum hS hl hb hs (fun e => by rw [e] at h2; simp at h2)
      refine ⟨b', h1, h3, m, rfl, fun a => ?_⟩
      obtain ⟨a', sb⟩ := h4 a
      exact (h a').sub sb
    · obtain ⟨a, e⟩ : ∃ a, prt Ss b a l = l := Classical.byContradiction fun hno => hs fun a e => hno ⟨a, e⟩
      have := ih a
      rw [e] at this
      obtain ⟨b', h1, h3, m1, e1, h4⟩ := this hl h2
      exact ⟨b', h1, h3, m, rfl, fun a => e1 ▸ (h4 a).up⟩
theorem spl_ex (hn : 1 ≤ n) (hR : ∀ x ∈ R, x.length = n) (hum : ∀ b, b ∈ us ↔ Beg R b ∧ b.length < n) (hS : ∀ S ∈ Ss, Rise S ∧ ∀ x ∈ S, x ∈ R) (nd : Ss.Nodup) {l : List Nat} (hl : ∀ i ∈ l, i < Ss.length) (nl : l.Nodup) : Can Ss n R.length l := by
  have := can_sep (Ss := Ss) (n := n) (R.map List.dropLast) l nl (fun b hb => by
    obtain ⟨x, hx, rfl⟩ := List.mem_map.mp hb
    rw [List.length_dropLast, hR x hx]
    omega) fun i hi j hj hne => apart_last hn hR (hS _ (gS_mem (hl i hi))).2 (hS _ (gS_mem (hl j hj))).2 (hS _ (gS_mem (hl i hi))).1 (hS _ (gS_mem (hl j hj))).1 fun e => hne (gS_inj nd (hl i hi) (hl j hj) e)
  rwa [List.length_map] at this
end
end Lw
end

section
/-! plans in the heap -/
namespace Lw
open PySem PySem.Spec PyProof.Rows L2
/-- tuples stand -/
def TK (K : PySem.W.Frag) (H H' : Hp) : Prop := ∀ a xs, SqT K H a xs → SqT K H' a xs
section
variable {K : PySem.W.Frag} {H H1 H2 : Hp}
theorem TK.of (e : Ext H H1) : TK K H H1 := fun _ _ h => e.tup h
theorem TK.trans (a : TK K H H1) (b : TK K H1 H2) : TK K H H2 := fun x xs h => b x xs (a x xs h)
theorem TK.step {d : Addr} {kvs : List (List Key × V)} (hd : H d = some (.dT kvs)) (s : Step [d] [d] H H1) : TK K H H1 := fun a xs h => by
  rcases h with (h | ⟨o, h⟩) | h
  · exact .inl (.inl (s.st _ _ h (fun q => by rw [List.mem_singleton.mp q, hd] at h; cases h) nsh_tup))
  · exact .inl (.inr ⟨o, s.st _ _ h (fun q => by rw [List.mem_singleton.mp q, hd] at h; cases h) nsh_frz⟩)
  · exact .inr h
theorem TK.updL {D : Addr} {xs : List V} {o : HO} (h : H D = some (.lst xs)) : TK K H (upd H D o) := fun a ys q => sqT_upd h q
theorem TK.updD {D : Addr} {kvs : List (List Key × V)} {o : HO} (h : H D = some (.dT kvs)) : TK K H (upd H D o) := fun a ys q => sqT_updD h q
end
/-- a plan in the heap -/
inductive PlAt (K : PySem.W.Frag) (H : Hp) : V → Pl → Prop
  | non : PlAt K H .non .non
  | hung {a t : Addr} {S : List Bits} (h : SqT K H a [.str "hung", .ref t]) (ht : SqT K H t (bvs S)) : PlAt K H (.ref a) (.hung S)
  | look {a t : Addr} {b : Bits} {v0 v1 v2 v3 : V} {c0 c1 c2 c3 : Pl} (h : SqT K H a [.str "look", .str (B b), .ref t]) (ht : SqT K H t [v0, v1, v2, v3]) (h0 : PlAt K H v0 c0) (h1 : PlAt K H v1 c1) (h2 : PlAt K H v2 c2) (h3 : PlAt K H v3 c3) : PlAt K H (.ref a) (.look b c0 c1 c2 c3)
theorem PlAt.tk {K : PySem.W.Frag} {H H1 : Hp} (e : TK K H H1) {v : V} {T : Pl} (h : PlAt K H v T) : PlAt K H1 v T := by
  induction h with
  | non => exact .non
  | hung h ht => exact .hung (e _ _ h) (e _ _ ht)
  | look h ht _ _ _ _ i0 i1 i2 i3 => exact .look (e _ _ h) (e _ _ ht) i0 i1 i2 i3
theorem PlAt.dq {K : PySem.W.Frag} {H : Hp} {n : Nat} {v : V} {T : Pl} (h : PlAt K H v T) : T.ok n → Dq K H v T.d := by
  induction h with
  | non => exact fun _ => .non
  | hung h ht =>
    intro ok
    exact .tup h (by simp) (.cons (.str _) (.cons (.tup ht (by rw [bvs_len]; have := ok.1; omega) (dqAll_map _ fun x _ => .str _)) .nil))
  | look h ht _ _ _ _ i0 i1 i2 i3 =>
    intro ok
    obtain ⟨_, k0, k1, k2, k3⟩ := ok
    exact .tup h (by simp) (.cons (.str _) (.cons (.str _) (.cons (.tup ht (by simp) (.cons (i0 k0) (.cons (i1 k1) (.cons (i2 k2) (.cons (i3 k3) .nil))))) .nil)))
/-- told: how many looks, a plan -/
def MemAt (K : PySem.W.Frag) (H : Hp) (p : Addr) (m : Nat) (T : Pl) : Prop := ∃ v, SqT K H p [.int (m : Int), v] ∧ PlAt K H v T
theorem MemAt.tk {K : PySem.W.Frag} {H H1 : Hp} {p : Addr} {m : Nat} {T : Pl} (e : TK K H H1) (h : MemAt K H p m T) : MemAt K H1 p m T := by
  obtain ⟨v, h1, h2⟩ := h
  exact ⟨v, e _ _ h1, h2.tk e⟩
structure ClPl (K : PySem.W.Frag) (CL : Addr) : Prop where
  cl : Cls K CL
  n_sets : NoAttr K CL "sets"
  n_rows : NoAttr K CL "rows"
  n_known : NoAttr K CL "known"
def plf (s r d : Addr) : List (Str × V) := [("sets", .ref s), ("rows", .ref r), ("known", .ref d)]
/-- what a planner knows -/
structure PlS (R us : List Bits) (Ss : List (List Bits)) (n : Nat) : Prop where
  hn : 1 ≤ n ∧ n ≤ 12
  hR : ∀ x ∈ R, x.length = n
  r4 : R.length ≤ 4
  us_ : ∀ b, b ∈ us ↔ Beg R b ∧ b.length < n
  hS : ∀ S ∈ Ss, Rise S ∧ (∀ x ∈ S, x ∈ R) ∧ S.length ≤ 4
  nd : Ss.Nodup
  s16 : Ss.length ≤ 16
/-- keys of the memo -/
def KeyOk (N : Nat) (l : List Nat) : Prop := l.Sublist (List.range N)
def Memo (K : PySem.W.Frag) (d : Addr) (Ss : List (List Bits)) (n : Nat) (H : Hp) : Prop := ∃ kvs : List (List Nat × Addr), H d = some (.dT (dP kvs)) ∧ (∀ l p, kvs.lookup l = some p → ∃ m T, MemAt K H p m T ∧ Best Ss n T l m) ∧ (kvs.map (·.1)).Nodup ∧ ∀ l ∈ kvs.map (·.1), KeyOk Ss.length l
structure PAt (K : PySem.W.Frag) (CL a s r d : Addr) (dx : Addr) (us : List Bits) (Ss : List (List Bits)) (n : Nat) (H : Hp) : Prop where
  ob : H a = some (.ins CL dx (plf s r d))
  hs : ∃ ps : List Addr, H s = some (.lst (ps.map V.ref)) ∧ TupsB K H ps Ss
  hr : ∃ rs : List Addr, H r = some (.lst (rs.map V.ref)) ∧ Paired (RowP K (fun _ => False) H Ss) rs (unl Ss us)
  hk : Memo K d Ss n H
section
variable {K : PySem.W.Frag} {CL a s r d : Addr} {dx : Addr} {us : List Bits} {Ss : List (List Bits)} {n : Nat} {H H1 : Hp}
theorem Memo.tk (h : Memo K d Ss n H) (e : TK K H H1) (hd : ∀ o, H d = some (.dT o) → H1 d = some (.dT o)) : Memo K d Ss n H1 := by
  obtain ⟨kvs, h5, h6, h7⟩ := h
  exact ⟨kvs, hd _ h5, fun l p hl => by
    obtain ⟨m, T, h8, h9⟩ := h6 l p hl
    exact ⟨m, T, h8.tk e, h9⟩, h7⟩
theorem Memo.ext (h : Memo K d Ss n H) (e : Ext H H1) : Memo K d Ss n H1 := h.tk (.of e) fun o q => e.st _ _ q nsh_dT
theorem Memo.updL {D : Addr} {xs : List V} {o : HO} (h : Memo K d Ss n H) (hD : H D = some (.lst xs)) : Memo K d Ss n (upd H D o) := h.tk (.updL hD) fun o q => by
  rw [upd_ne (fun e => by rw [e, hD] at q; cases q)]
  exact q
theorem PAt.dt (h : PAt K CL a s r d dx us Ss n H) : ∃ kvs, H d = some (.dT kvs) := by
  obtain ⟨kvs, h, _⟩ := h.hk
  exact ⟨_, h⟩
theorem rowP_step {kvs : List (List Key × V)} {r : Addr} {b : Bits} (hd : H d = some (.dT kvs)) (z : Step [d] [d] H H1) (h : RowP K (fun _ => False) H Ss r b) : RowP K (fun _ => False) H1 Ss r b := by
  have tk : TK K H H1 := .step hd z
  obtain ⟨t, h0, h1, ts, h2, h3⟩ := h
  exact ⟨t, h0, tk _ _ h1, ts, z.st _ _ h2 (fun q => by rw [List.mem_singleton.mp q, hd] at h2; cases h2) (nsh_refs _), paired_mono (fun t x h => tk _ _ h) h3⟩
/-- the best so far -/
def FInv (K : PySem.W.Frag) (Ss : List (List Bits)) (n : Nat) (us : List Bits) (l : List Nat) (i : Nat) (fo : Option Addr) (H : Hp) : Prop := (fo = none ∧ ∀ b ∈ (unl Ss us).take i, ¬ Spl Ss b l) ∨ ∃ p m T, fo = some p ∧ MemAt K H p m T ∧ Right Ss n T l m ∧ ∀ b ∈ (unl Ss us).take i, Spl Ss b l → ∀ m', (∀ x, Can Ss n m' (prt Ss b x l)) → m ≤ m' + 1
theorem FInv.tk {l : List Nat} {i : Nat} {fo : Option Addr} (h : FInv K Ss n us l i fo H) (e : TK K H H1) : FInv K Ss n us l i fo H1 := by
  rcases h with h | ⟨p, m, T, h1, h2, h3⟩
  · exact .inl h
  · exact .inr ⟨p, m, T, h1, h2.tk e, h3⟩
theorem FInv.skip {l : List Nat} {i : Nat} {fo : Option Addr} {b : Bits} (h : FInv K Ss n us l i fo H) (hb : (unl Ss us)[i]? = some b) (hs : ¬ Spl Ss b l) : FInv K Ss n us l (i + 1) fo H := by
  have e : (unl Ss us).take (i + 1) = (unl Ss us).take i ++ [b] := by rw [List.take_succ, hb]; rfl
  rcases h with ⟨h1, h2⟩ | ⟨p, m, T, h1, h2, h3, h4⟩
  · refine .inl ⟨h1, fun b' hb' => ?_⟩
    rw [e, List.mem_append, List.mem_singleton] at hb'
    rcases hb' with q | rfl
    · exact h2 b' q
    · exact hs
  · refine .inr ⟨p, m, T, h1, h2, h3, fun b' hb' => ?_⟩
    rw [e, List.mem_append, List.mem_singleton] at hb'
    rcases hb' with q | rfl
    · exact h4 b' q
    · exact fun q => absurd q hs
/-- a look that is better, or the first -/
theorem FInv.new {l : List Nat} {i : Nat} {b : Bits} {p : Addr} {m : Nat} {T : Pl} (h : (∀ b ∈ (unl Ss us).take i, ¬ Spl Ss b l) ∨ ∃ m2, m ≤ m2 ∧ ∀ b ∈ (unl Ss us).take i, Spl Ss b l → ∀ m', (∀ x, Can Ss n m' (prt Ss b x l)) → m2 ≤ m' + 1) (hb : (unl Ss us)[i]? = some b) (hm : MemAt K H p m T) (hr : Right Ss n T l m) (hl : ∀ m', (∀ x, Can Ss n m' (prt Ss b x l)) → m ≤ m' + 1) : FInv K Ss n us l (i + 1) (some p) H := by
  have e : (unl Ss us).take (i + 1) = (unl Ss us).take i ++ [b] := by rw [List.take_succ, hb]; rfl
  refine .inr ⟨p, m, T, rfl, hm, hr, fun b' hb' hs m' hm' => ?_⟩
  rw [e, List.mem_append, List.mem_singleton] at hb'
  rcases hb' with q | rfl
  · rcases h with h2 | ⟨m2, h1, h4⟩
    · exact absurd hs (h2 b' q)
    · have := h4 b' q hs m' hm'
      omega
  · exact hl m' hm'
theorem FInv.old {l : List Nat} {i : Nat} {b : Bits} {p : Addr} {m : Nat} {T : Pl} {m1 : Nat} (h4 : ∀ b ∈ (unl Ss us).take i, Spl Ss b l → ∀ m', (∀ x, Can Ss n m' (prt Ss b x l)) → m ≤ m' + 1) (h2 : MemAt K H p m T) (h3 : Right Ss n T l m) (hb : (unl Ss us)[i]? = some b) (hl : ∀ m', (∀ x, Can Ss n m' (prt Ss b x l)) → m1 ≤ m' + 1) (hle : m ≤ m1) : FInv K Ss n us l (i + 1) (some p) H := by
  have e : (unl Ss us).take (i + 1) = (unl Ss us).take i ++ [b] := by rw [List.take_succ, hb]; rfl
  refine .inr ⟨p, m, T, rfl, h2, h3, fun b' hb' hs m' hm' => ?_⟩
  rw [e, List.mem_append, List.mem_singleton] at hb'
  rcases hb' with q | rfl
  · exact h4 b' q hs m' hm'
  · have := hl m' hm'
    omega
/-- all are tried -/
theorem FInv.end {R : List Bits} {l : List Nat} {fo : Option Addr} (W : PlS R us Ss n) (hl : ∀ i ∈ l, i < Ss.length) (nd : l.Nodup) (h2 : 2 ≤ l.length) (h : FInv K Ss n us l (unl Ss us).length fo H) : ∃ p m T, fo = some p ∧ MemAt K H p m T ∧ Best Ss n T l m := by
  have hS : ∀ S ∈ Ss, ∀ x ∈ S, x ∈ R := fun S hS => (W.hS S hS).2.1
  have hS2 : ∀ S ∈ Ss, Rise S ∧ ∀ x ∈ S, x ∈ R := fun S hS => ⟨(W.hS S hS).1, (W.hS S hS).2.1⟩
  unfold FInv at h
  rw [List.take_length] at h
  rcases h with ⟨h1, h3⟩ | ⟨p, m, T, h1, h3, h4, h5⟩
  · obtain ⟨b, hb, hs, _⟩ := can_split W.us_ hS (spl_ex W.hn.1 W.hR W.us_ hS2 W.nd hl nd) hl h2
    exact absurd hs (h3 b hb)
  · refine ⟨p, m, T, h1, h3, { h4 with low := fun m' hc => ?_ }⟩
    obtain ⟨b, hb, hs, m1, e, h6⟩ := can_split W.us_ hS hc hl h2
    have := h5 b hb hs m1 h6
    omega
theorem PAt.step (h : PAt K CL a s r d dx us Ss n H) (z : Step [d] [d] H H1) (hk : Memo K d Ss n H1) : PAt K CL a s r d dx us Ss n H1 := by
  obtain ⟨kvs, hd⟩ := h.dt
  have tk : TK K H H1 := .step hd z
  have go : ∀ b o, H b = some o → (∀ k, o ≠ .dT k) → ¬ RowSh o → H1 b = some o := fun b o hb hk n => z.st b o hb (fun q => by
    rw [List.mem_singleton.mp q, hd] at hb
    cases hb
    exact hk _ rfl) n
  obtain ⟨ob, ⟨ps, h1, h2⟩, ⟨rs, h3, h4⟩, _⟩ := h
  refine ⟨go _ _ ob (fun k q => by cases q) nsh_ins, ⟨ps, go _ _ h1 (fun k q => by cases q) (nsh_refs _), paired_mono (fun t x h => tk _ _ h) h2⟩, ⟨rs, go _ _ h3 (fun k q => by cases q) (nsh_refs _), paired_mono (fun r b h => ?_) h4⟩, hk⟩
  obtain ⟨t, h0, h1, ts, h2, h3⟩ := h
  exact ⟨t, h0, tk _ _ h1, ts, go _ _ h2 (fun k q => by cases q) (nsh_refs _), paired_mono (fun t x h => tk _ _ h) h3⟩
theorem PAt.ext (h : PAt K CL a s r d dx us Ss n H) (e : Ext H H1) : PAt K CL a s r d dx us Ss n H1 := h.step (Step.of e) (h.hk.ext e)
/-- writing at a new place -/
theorem Step.mut {F : List Addr} {D : Addr} {o : HO} (z : Step F F H H1) (h : H D = none) : Step F F H (upd H1 D o) where
  st := fun b u hb hn ns => by
    rw [upd_ne (ne_of_none hb h)]
    exact z.st b u hb hn ns
  rw_ := fun b a i m y hb hn hi => by
    rw [upd_ne (ne_of_none hb h)]
    exact z.rw_ b a i m y hb hn hi
  th := fun b u hb => by
    rw [upd_ne (ne_of_none hb h)]
    exact z.th b u hb
  nw := fun b hb => .inl hb
/-- what is told of a part -/
def ResAt (K : PySem.W.Frag) (Ss : List (List Bits)) (n : Nat) (b : Bits) (l : List Nat) (H : Hp) (v : V) (a : BB) : Prop := (prt Ss b a l = [] → v = .non) ∧ (prt Ss b a l ≠ [] → ∃ p m T, v = .ref p ∧ MemAt K H p m T ∧ Best Ss n T (prt Ss b a l) m)
theorem ResAt.tk {b : Bits} {l : List Nat} {v : V} {a : BB} (h : ResAt K Ss n b l H v a) (e : TK K H H1) : ResAt K Ss n b l H1 v a := by
  obtain ⟨h1, h2⟩ := h
  refine ⟨h1, fun ne => ?_⟩
  obtain ⟨p, m, T, e1, h3, h4⟩ := h2 ne
  exact ⟨p, m, T, e1, h3.tk e, h4⟩
theorem ans_fun' {α : Type} {R : α → BB → Prop} : ∀ {vs : List α}, Paired R vs [(false, false), (false, true), (true, false), (true, true)] → ∃ f : BB → α, vs = ANS.map f ∧ ∀ a, R (f a) a
  | [x0, x1, x2, x3], .cons h0 (.cons h1 (.cons h2 (.cons h3 .nil))) => ⟨fun a => match a with
      | (false, false) => x0
      | (false, true) => x1
      | (true, false) => x2
      | (true, true) => x3, rfl, fun a => by
      obtain ⟨x, y⟩ := a
      cases x <;> cases y <;> assumption⟩
theorem ans_fun {α : Type} {R : α → BB → Prop} {vs : List α} (h : Paired R vs ANS) : ∃ f : BB → α, vs = ANS.map f ∧ ∀ a, R (f a) a := ans_fun' h
theorem nsh_noints {l : List V} (h : ∀ x ∈ l, ∀ i, x ≠ .int i) : ¬ RowSh (.lst l) := nsh_of fun a i m z e => by
  have e' : l = [.ref a, .int i, .int m, .int z] := by
    unfold row at e
    cases e
    rfl
  subst e'
  exact h (.int i) (by simp) i rfl
theorem nsh_noint {β : Type} {gw : β → V} (h : ∀ x i, gw x ≠ .int i) (l : List β) : ¬ RowSh (.lst (l.map gw)) := nsh_noints fun x hx i e => by
  obtain ⟨y, _, rfl⟩ := List.mem_map.mp hx
  exact h y i e
theorem ResAt.noint {b : Bits} {l : List Nat} {v : V} {a : BB} (h : ResAt K Ss n b l H v a) (i : Int) : v ≠ .int i := fun e => by
  by_cases c : prt Ss b a l = []
  · rw [h.1 c] at e; cases e
  · obtain ⟨p, _, _, h1, _⟩ := h.2 c
    rw [h1] at e
    cases e
theorem res_nsh {b : Bits} {l : List Nat} : ∀ {acc : List V} {as : List BB}, Paired (ResAt K Ss n b l H) acc as → ∀ x ∈ acc, ∀ i, x ≠ .int i
  | _, _, .nil, _, hx, _ => by cases hx
  | _, _, .cons h hs, x, hx, i => by
    rcases List.mem_cons.mp hx with rfl | hx
    · exact h.noint i
    · exact res_nsh hs x hx i
/-- a comprehension that tells something of those that pass -/
theorem lcFz {σ : L2.St} {Q : VK} {te : TE} {tt : TT} {vs : List Nat} {j : Nat} {J : It} {β : Type} {gv gw : β → V} {bs : List β} (f : β → Bool) (src : Src J bs.length (fun i x => (bs.map gv)[i]? = some x) H) (nsh : ∀ l : List β, ¬ RowSh (.lst (l.map gw))) (hz : bs.length ≤ 100000) (hw : ∀ x, wipe ((wipe σ vs).set j (some x)) vs = wipe σ vs)
    (hs : ∀ b H' (NF : Hp → Prop) (NE : VK), b ∈ bs → Ext H H' → (f b = false → ∀ H2, Ext H' H2 → NF H2) → (f b = true → ∀ H2, Ext H' H2 → NE (gw b) H2) →
      tt ((wipe σ vs).set j (some (gv b))) H' fun c H3 => if c = true then te ((wipe σ vs).set j (some (gv b))) H3 NE else NF H3)
    (hd : ∀ D H', H D = none → Ext H H' → H' D = some (.lst ((bs.filter f).map gw)) → Q (.ref D) H') : LcB J (gName j) tt te vs σ H Q := by
  refine lcF src (fun i acc => acc = ((bs.take i).filter f).map gw) rfl (fun i acc h => by rw [h]; exact nsh _) hz hw (fun i x acc H' NF NE hi hY ha e kF kE => ?_) fun D acc H' ha hD e hDa _ => ?_
  · rw [List.getElem?_map] at hY
    cases hb : bs[i]? with
    | none => rw [hb] at hY; cases hY
    | some b =>
      rw [hb] at hY
      cases hY
      have htk : bs.take (i + 1) = bs.take i ++ [b] := by rw [List.take_succ, hb]; rfl
      refine hs b H' NF NE (List.mem_of_getElem? hb) e (fun hf H2 e2 => kF H2 e2 ?_) fun hf H2 e2 => kE _ H2 e2 ?_
      · rw [ha, htk, List.filter_append]
        simp [hf]
      · rw [ha, htk, List.filter_append]
        simp [hf]
  · refine hd D H' hD e ?_
    rw [hDa, ha, List.take_length]
end
section
variable {K : PySem.W.Frag} {CL a s r d : Addr} {dx : Addr} {us : List Bits} {Ss : List (List Bits)} {n : Nat} {H H1 : Hp}
def subsN : List Nat → List (List Nat)
  | [] => [[]]
  | x :: l => subsN l ++ (subsN l).map (x :: ·)
theorem subsN_len : ∀ l, (subsN l).length = 2 ^ l.length
  | [] => rfl
  | x :: l => by
    rw [subsN, List.length_append, List.length_map, subsN_len l, List.length_cons, Nat.pow_succ]
    omega
theorem mem_subsN {S l : List Nat} (h : S.Sublist l) : S ∈ subsN l := by
  induction h with
  | slnil => exact List.mem_singleton.mpr rfl
  | cons x _ ih => exact List.mem_append_left _ ih
  | cons_cons x _ ih => exact List.mem_append_right _ (List.mem_map.mpr ⟨_, ih, rfl⟩)
theorem keys_few {N : Nat} (hN : N ≤ 16) {ks : List (List Nat)} (nd : ks.Nodup) (h : ∀ l ∈ ks, KeyOk N l) : ks.length ≤ 65536 := by
  have := nodup_le ks (subsN (List.range N)) nd fun l hl => mem_subsN (h l hl)
  rw [subsN_len, List.length_range] at this
  exact Nat.le_trans this (Nat.pow_le_pow_right (by decide) hN)
theorem w_dnotP {Q : VK} {t : Addr} {kvs : List (List Nat × Addr)} {l : List Nat} (h : H d = some (.dT (dP kvs))) (hb : H t = some (.tup (l.map vN))) (k : Q (.bl (kvs.lookup l).isNone) H) : DnotOk (.ref t) (.ref d) H Q :=
  ⟨d, _, rfl, DGet.t h (k := kN l) (by rw [kN_V]; exact hb), by
    rw [dP_val]
    cases q : kvs.lookup l with
    | none => rw [q] at k; exact k
    | some p => rw [q] at k; exact k⟩
theorem w_dgetP {Q : VK} {t p : Addr} {kvs : List (List Nat × Addr)} {l : List Nat} (h : H d = some (.dT (dP kvs))) (hb : H t = some (.tup (l.map vN))) (hl : kvs.lookup l = some p) (k : Q (.ref p) H) : DgetOk (.ref d) (.ref t) H Q :=
  ⟨d, _, rfl, by
    have := DGet.t h (k := kN l) (by rw [kN_V]; exact hb)
    rw [dP_val, hl] at this
    exact this, k⟩
end
section
variable {K : PySem.W.Frag} {CL a s r d : Addr} {dx : Addr} {H : Hp} {Q : VK}
theorem pl_sets (T : ClPl K CL) (h : H a = some (.ins CL dx (plf s r d))) (q : Q (.ref s) H) : FldOk K "sets" (.ref a) H Q := ⟨a, CL, dx, _, _, rfl, h, T.cl, T.n_sets, by kernel_rfl, q⟩
theorem pl_rows (T : ClPl K CL) (h : H a = some (.ins CL dx (plf s r d))) (q : Q (.ref r) H) : FldOk K "rows" (.ref a) H Q := ⟨a, CL, dx, _, _, rfl, h, T.cl, T.n_rows, by kernel_rfl, q⟩
theorem pl_known (T : ClPl K CL) (h : H a = some (.ins CL dx (plf s r d))) (q : Q (.ref d) H) : FldOk K "known" (.ref a) H Q := ⟨a, CL, dx, _, _, rfl, h, T.cl, T.n_known, by kernel_rfl, q⟩
/-- the constant ANSWERS -/
def AnsK (K : PySem.W.Frag) (a : Addr) : Prop := ∃ ts : List Addr, (∀ H, SqT K H a (ts.map V.ref)) ∧ ∀ H, Paired (fun t x => SqT K H t (bbV x)) ts ANS
theorem AnsK.dp (h : AnsK K a) (H : Hp) : Dp K H (.ref a) (.tuple (ANS.map bbD)) := by
  obtain ⟨ts, h1, h2⟩ := h
  exact .tup (h1 H) (dpAll_bb (h2 H))
theorem AnsK.fun (h : AnsK K a) : ∃ f : BB → Addr, (∀ H, SqT K H a (ANS.map fun x => V.ref (f x))) ∧ ∀ H x, SqT K H (f x) (bbV x) := by
  obtain ⟨ts, h1, h2⟩ := h
  have h2' : Paired (fun t x => ∀ H, SqT K H t (bbV x)) ts ANS := by
    match ts, h2 with
    | ts, h2 =>
      have h0 := h2 (fun _ => none)
      obtain ⟨f, e, _⟩ := ans_fun h0
      subst e
      exact .cons (fun H => (by cases h2 H with | cons a b => exact a)) (.cons (fun H => (by cases h2 H with | cons a b => cases b with | cons a b => exact a)) (.cons (fun H => (by cases h2 H with | cons a b => cases b with | cons a b => cases b with | cons a b => exact a)) (.cons (fun H => (by cases h2 H with | cons a b => cases b with | cons a b => cases b with | cons a b => cases b with | cons a b => exact a)) .nil)))
  obtain ⟨f, e, hf⟩ := ans_fun h2'
  subst e
  exact ⟨f, fun H => by have := h1 H; rwa [List.map_map] at this, fun H x => hf x H⟩
end
/-! the memo is written -/
def putP (kvs : List (List Nat × Addr)) (l : List Nat) (p : Addr) : List (List Nat × Addr) := match kvs.lookup l with
  | none => kvs ++ [(l, p)]
  | some _ => kvs.map fun kv => if kv.1 = l then (kv.1, p) else kv
theorem lookup_app {kvs : List (List Nat × Addr)} {l l' : List Nat} {p : Addr} : (kvs ++ [(l, p)]).lookup l' = match kvs.lookup l' with
    | some q => some q
    | none => if l' = l then some p else none := by
  induction kvs with
  | nil =>
    rw [List.nil_append, List.lookup_cons, List.lookup_nil]
    by_cases h : l' = l
    · rw [if_pos h, h]
      simp
    · rw [if_neg h, beq_eq_false_iff_ne.mpr h]
  | cons x r ih =>
    obtain ⟨k, v⟩ := x
    rw [List.cons_append, List.lookup_cons, List.lookup_cons]
    cases e : l' == k with
    | true => rfl
    | false => exact ih
theorem lookup_one {k l' : List Nat} {v : Addr} {r : List (List Nat × Addr)} : ((k, v) :: r).lookup l' = if l' = k then some v else r.lookup l' := by
  rw [List.lookup_cons]
  by_cases e : l' = k
  · rw [if_pos e, e]
    simp
  · rw [if_neg e, beq_eq_false_iff_ne.mpr e]
theorem lookup_put {kvs : List (List Nat × Addr)} {l l' : List Nat} {p : Addr} : (kvs.map fun kv => if kv.1 = l then (kv.1, p) else kv).lookup l' = if l' = l then (kvs.lookup l).map (fun _ => p) else kvs.lookup l' := by
  induction kvs with
  | nil => by_cases e : l' = l <;> simp [e]
  | cons x r ih =>
    obtain ⟨k, v⟩ := x
    have hh : (if (k, v).1 = l then ((k, v).1, p) else (k, v)) = (k, if k = l then p else v) := by
      show (if k = l then (k, p) else (k, v)) = _
      split <;> rfl
    rw [List.map_cons, hh, lookup_one, lookup_one, lookup_one, ih]
    by_cases e : l' = k
    · subst e
      by_cases e2 : l' = l
      · subst e2
        simp
      · simp [e2]
    · rw [if_neg e, if_neg e]
      by_cases e2 : l' = l
      · subst e2
        rw [if_pos rfl, if_pos rfl, if_neg e]
      · rw [if_neg e2, if_neg e2]
theorem lookup_putP {kvs : List (List Nat × Addr)} {l l' : List Nat} {p : Addr} : (putP kvs l p).lookup l' = if l' = l then some p else kvs.lookup l' := by
  unfold putP
  cases h : kvs.lookup l with
  | none =>
    rw [lookup_app]
    by_cases e : l' = l
    · rw [e, h, if_pos rfl]

    · rw [if_neg e, if_neg e]
      cases kvs.lookup l' <;> rfl
  | some q =>
    show (kvs.map fun kv => if kv.1 = l then (kv.1, p) else kv).lookup l' = _
    rw [lookup_put, h]
    rfl
theorem dP_putP {kvs : List (List Nat × Addr)} {l : List Nat} {p : Addr} : putK (dP kvs) (kN l) (.ref p) = dP (putP kvs l p) := by
  unfold putP
  cases h : kvs.lookup l with
  | none => exact dP_put h
  | some q =>
    unfold putK
    rw [if_pos]
    · unfold dP
      rw [List.map_map, List.map_map]
      refine List.map_congr_left fun x _ => ?_
      obtain ⟨k, v⟩ := x
      show (if kN k = kN l then (kN k, V.ref p) else (kN k, V.ref v)) = (kN (if k = l then (k, p) else (k, v)).1, V.ref (if k = l then (k, p) else (k, v)).2)
      by_cases e : k = l
      · rw [if_pos e, if_pos (by rw [e])]
      · rw [if_neg e, if_neg (fun q => e (kN_inj q))]
    · rw [valV_any, dP_val, h]
      rfl
theorem putP_keys {kvs : List (List Nat × Addr)} {l : List Nat} {p : Addr} (nd : (kvs.map (·.1)).Nodup) : ((putP kvs l p).map (·.1)).Nodup ∧ ∀ k, k ∈ (putP kvs l p).map (·.1) → k ∈ kvs.map (·.1) ∨ k = l := by
  unfold putP
  cases h : kvs.lookup l with
  | none =>
    have hn : l ∉ kvs.map (·.1) := fun q => by
      obtain ⟨x, hx, e⟩ := List.mem_map.mp q
      have := List.lookup_eq_none_iff.mp h x hx
      rw [e] at this
      simp at this
    rw [show (kvs ++ [(l, p)]).map (·.1) = kvs.map (·.1) ++ [l] by rw [List.map_append]; rfl]
    refine ⟨List.nodup_append.mpr ⟨nd, by simp, fun x hx y hy e => ?_⟩, fun k hk => ?_⟩
    · rw [List.mem_singleton] at hy
      rw [e, hy] at hx
      exact hn hx
    · rcases List.mem_append.mp hk with q | q
      · exact .inl q
      · exact .inr (List.mem_singleton.mp q)
  | some q =>
    have e : (kvs.map fun kv => if kv.1 = l then (kv.1, p) else kv).map (·.1) = kvs.map (·.1) := by
      rw [List.map_map]
      refine List.map_congr_left fun x _ => ?_
      show (if x.1 = l then (x.1, p) else x).1 = x.1
      split <;> rfl
    show ((kvs.map fun kv => if kv.1 = l then (kv.1, p) else kv).map (·.1)).Nodup ∧ _
    rw [e]
    exact ⟨nd, fun k hk => .inl hk⟩
section
variable {K : PySem.W.Frag} {d : Addr} {Ss : List (List Bits)} {n : Nat} {H : Hp} {Q : VK}
theorem w_memo {S : Hp → Prop} {t p : Addr} {m : Nat} {T : Pl} {l : List Nat} (Z : Memo K d Ss n H) (hN : Ss.length ≤ 16) (ht : H t = some (.tup (l.map vN))) (hm : MemAt K H p m T) (hb : Best Ss n T l m) (hk : KeyOk Ss.length l)
    (k : ∀ H', Memo K d Ss n H' → Step [d] [d] H H' → (∃ kvs, H' d = some (.dT (dP kvs)) ∧ kvs.lookup l = some p) → MemAt K H' p m T → S H') : DputOk (.ref p) (.ref d) (.ref t) H S := by
  obtain ⟨kvs, h1, h2, h3, h4⟩ := Z
  have hz := keys_few hN h3 h4
  rw [List.length_map] at hz
  obtain ⟨n1, n2⟩ := putP_keys (l := l) (p := p) h3
  refine ⟨d, _, rfl, DPut.t h1 (k := kN l) (by rw [kN_V]; exact ht) (by unfold dP; rw [List.length_map]; exact Nat.lt_of_le_of_lt hz (by decide)), ?_⟩
  rw [dP_putP]
  have tk : TK K H (upd H d (.dT (dP (putP kvs l p)))) := .updD h1
  refine k _ ⟨_, upd_same, fun l' p' hl => ?_, n1, fun k' hk' => ?_⟩ (Step.wr h1 (by simp)) ⟨_, upd_same, ?_⟩ (hm.tk tk)
  · rw [lookup_putP] at hl
    by_cases e : l' = l
    · rw [if_pos e] at hl
      cases hl
      subst e
      exact ⟨m, T, hm.tk tk, hb⟩
    · rw [if_neg e] at hl
      obtain ⟨m', T', h5, h6⟩ := h2 l' p' hl
      exact ⟨m', T', h5.tk tk, h6⟩
  · rcases n2 k' hk' with q | q
    · exact h4 k' q
    · rw [q]; exact hk
  · rw [lookup_putP, if_pos rfl]
theorem dpAll_prt {f : BB → List Nat} : ∀ {ts : List Addr} {xs : List BB}, Paired (fun t x => H t = some (.tup ((f x).map vN))) ts xs → DpAll K H (ts.map V.ref) (xs.map fun x => natD (f x))
  | _, _, .nil => .nil
  | _, _, .cons h hs => .cons (dp_nat (SqT.of h)) (dpAll_prt hs)
theorem w_splN {b : Bits} {t q : Addr} {ts : List Addr} {l : List Nat} (ht : SqT K H t (l.map vN)) (hq : SqL K H q (ts.map V.ref)) (hts : Paired (fun t x => H t = some (.tup ((prt Ss b x l).map vN))) ts ANS) (k : ∀ c, (c = true ↔ Spl Ss b l) → Q (.bl c) H) : rNotInD K (.ref t) (.ref q) H Q := by
  refine ⟨natD l, ANS.map fun x => natD (prt Ss b x l), dp_nat ht, .lst hq (dpAll_prt hts), nice_nats.shaped (by decide) _, ?_, k _ ?_⟩
  · have := (nice_list nice_nats).shaped (by decide) (ANS.map fun x => prt Ss b x l)
    rw [List.map_map] at this
    exact this
  · rw [Bool.not_eq_true', Bool.eq_false_iff, Ne, List.any_eq_true]
    constructor
    · intro h x e
      refine h ⟨natD (prt Ss b x l), List.mem_map.mpr ⟨x, ?_, rfl⟩, ?_⟩
      · obtain ⟨y, z⟩ := x
        cases y <;> cases z <;> simp [ANS]
      · rw [nice_nats.eq]
        exact decide_eq_true e
    · rintro h ⟨z, hz, e⟩
      obtain ⟨x, _, rfl⟩ := List.mem_map.mp hz
      rw [nice_nats.eq] at e
      exact h x (of_decide_eq_true e)
end
/-- an object is written: all else stands -/
structure WrO (a : Addr) (H H1 : Hp) : Prop where
  st : ∀ b o, H b = some o → b ≠ a → H1 b = some o
  ob : ∃ C dx fs, H a = some (.ins C dx fs)
section
variable {K : PySem.W.Frag} {a : Addr} {H H1 : Hp} {Ss : List (List Bits)}
theorem WrO.wr {C dx : Addr} {fs : List (Str × V)} {o : HO} (h : H a = some (.ins C dx fs)) : WrO a H (upd H a o) := ⟨fun b u hb n => by rw [upd_ne n]; exact hb, C, dx, fs, h⟩
theorem WrO.tup (k : WrO a H H1) {b : Addr} {xs : List V} (h : SqT K H b xs) : SqT K H1 b xs := by
  obtain ⟨C, dx, fs, ha⟩ := k.ob
  rcases h with (h | ⟨o, h⟩) | h
  · exact .inl (.inl (k.st _ _ h fun e => by rw [e, ha] at h; cases h))
  · exact .inl (.inr ⟨o, k.st _ _ h fun e => by rw [e, ha] at h; cases h⟩)
  · exact .inr h
theorem WrO.seq (k : WrO a H H1) {b : Addr} {xs : List V} (h : SqL K H b xs) : SqL K H1 b xs := by
  obtain ⟨C, dx, fs, ha⟩ := k.ob
  rcases h with (h | ⟨o, h⟩) | h
  · exact .inl (.inl (k.st _ _ h fun e => by rw [e, ha] at h; cases h))
  · exact .inl (.inr ⟨o, k.st _ _ h fun e => by rw [e, ha] at h; cases h⟩)
  · exact .inr h
theorem WrO.tups (k : WrO a H H1) {ps : List Addr} (h : TupsB K H ps Ss) : TupsB K H1 ps Ss := paired_mono (fun _ _ h => k.tup h) h
theorem WrO.row (k : WrO a H H1) {r : Addr} {b : Bits} (h : RowP K (fun _ => False) H Ss r b) : RowP K (fun _ => False) H1 Ss r b := by
  obtain ⟨C, dx, fs, ha⟩ := k.ob
  obtain ⟨t, h0, h1, ts, h2, h3⟩ := h
  exact ⟨t, h0, k.tup h1, ts, k.st _ _ h2 (fun e => by rw [e, ha] at h2; cases h2), paired_mono (fun _ _ h => k.tup h) h3⟩
end
theorem w_tupRg {te : L2.St → Hp → (Int → Int → Hp → Prop) → Prop} {σ : L2.St} {H : Hp} {Q : VK} (k : te σ H fun a b H1 => RgOk a b ∧ ∀ q, H1 q = none → Q (.ref q) (upd H1 q (.tup (rgV a b)))) : tTupRg te σ H Q := k
/-! a comprehension over a tuple of data -/
section
variable {K : PySem.W.Frag} {H : Hp} {Q : VK} {σ : L2.St} {te : TE} {tt : TT} {ks : List Nat} {j : Nat}
end
end Lw
end

section
/-! plans gone along; wires asked by plans; tuples read backwards -/
namespace Lw
open PySem PySem.Spec PyProof.Rows L2
/-- the best plan has no more looks than there are numbers -/
theorem best_few {Ss : List (List Bits)} {us R : List Bits} {n m : Nat} {T : Pl} (W : PlS R us Ss n) (h : Best Ss n T (List.range Ss.length) m) : m ≤ R.length :=
  h.low _ (spl_ex W.hn.1 W.hR W.us_ (fun S hS => ⟨(W.hS S hS).1, (W.hS S hS).2.1⟩) W.nd (fun i hi => List.mem_range.mp hi) List.nodup_range)
theorem gS_of {Ss : List (List Bits)} {S : List Bits} (h : S ∈ Ss) : ∃ i ∈ List.range Ss.length, gS Ss i = S := by
  obtain ⟨i, hi, e⟩ := List.getElem_of_mem h
  refine ⟨i, List.mem_range.mpr hi, ?_⟩
  unfold gS
  rw [List.getD_eq_getElem?_getD, List.getElem?_eq_getElem hi]
  exact e
/-- tuples stand where none of the places is one -/
theorem TK.own {K : PySem.W.Frag} {F F' : List Addr} {H H1 : Hp} (s : Step F F' H H1) (h : ∀ b ∈ F, ∃ o, H b = some o ∧ (∀ xs, o ≠ .tup xs) ∧ ∀ ob u, o ≠ .frz ob u) : TK K H H1 := fun a xs q => by
  have go : ∀ o, H a = some o → ((∃ ys, o = .tup ys) ∨ ∃ ob u, o = .frz ob u) → ¬ RowSh o → H1 a = some o := fun o ho hs hn => s.st a o ho (fun hm => by
    obtain ⟨o', h1, h2, h3⟩ := h a hm
    rw [ho] at h1
    cases h1
    rcases hs with ⟨ys, rfl⟩ | ⟨ob, u, rfl⟩
    · exact h2 _ rfl
    · exact h3 _ _ rfl) hn
  rcases q with (q | ⟨o, q⟩) | q
  · exact .inl (.inl (go _ q (.inl ⟨_, rfl⟩) nsh_tup))
  · exact .inl (.inr ⟨o, go _ q (.inr ⟨_, _, rfl⟩) nsh_frz⟩)
  · exact .inr q
theorem WAt.tk {K : PySem.W.Frag} {CW a dx t l : Addr} {M : WM} {F' : List Addr} {H H1 : Hp} (w : WAt CW a dx t l M H) (s : Step [a, t, l] F' H H1) : TK K H H1 := .own s fun b hb => by
  simp only [List.mem_cons, List.not_mem_nil, or_false] at hb
  rcases hb with rfl | rfl | rfl
  · exact ⟨_, w.ob, fun _ q => (by cases q), fun _ _ q => (by cases q)⟩
  · exact ⟨_, w.th, fun _ q => (by cases q), fun _ _ q => (by cases q)⟩
  · exact ⟨_, w.li, fun _ q => (by cases q), fun _ _ q => (by cases q)⟩
/-- a result: what a plan tells, how many looks -/
def optD : Option (List Bits) → PyData
  | none => .none
  | some S => .list (S.map db)
def goD (r : Option (List Bits) × Nat) : PyData := .tuple [optD r.1, .int (r.2 : Int)]
section
variable {K : PySem.W.Frag}
end
def vat (a : BB) (v0 v1 v2 v3 : V) : V := match a with
  | (false, false) => v0
  | (false, true) => v1
  | (true, false) => v2
  | (true, true) => v3
theorem vat_ix2 (a : BB) (v0 v1 v2 v3 : V) : atI [v0, v1, v2, v3] (2 * (if a.1 = true then 1 else 0) + (if a.2 = true then 1 else 0)) = some (vat a v0 v1 v2 v3) := by
  obtain ⟨x, y⟩ := a
  cases x <;> cases y <;> rfl
theorem PlAt.vat {K : PySem.W.Frag} {H : Hp} {v0 v1 v2 v3 : V} {c0 c1 c2 c3 : Pl} (a : BB) (h0 : PlAt K H v0 c0) (h1 : PlAt K H v1 c1) (h2 : PlAt K H v2 c2) (h3 : PlAt K H v3 c3) : PlAt K H (vat a v0 v1 v2 v3) (Pl.at a c0 c1 c2 c3) := by
  obtain ⟨x, y⟩ := a
  cases x <;> cases y <;> assumption
def Pl.isL : Pl → Bool
  | .look .. => true
  | _ => false
/-! t[::-1] -/
section
variable {prog : Program} {w : World} {A : Around} {E : Value → Shared → Prop} {s : Shared}
end
def stQT (K : PySem.W.Frag) (x : V) (Q : VK) : Option Int → Hp → Prop
  | some k, G => ∃ (a : Addr) (xs : List V), x = .ref a ∧ k = -1 ∧ SqT K G a xs ∧ ∀ p, G p = none → Q (.ref p) (upd G p (.tup xs.reverse))
  | none, _ => False
def tStT (K : PySem.W.Frag) (te ts : TE) : TE := fun σ H Q => te σ H fun x H1 => tPart ts σ H1 (stQT K x Q)
section
variable {X : Cx} {e es : Expr} {te ts : TE} {p3 pos : Pos} {K : PySem.W.Frag}
end
end Lw
end

section
/-! what comes of following a plan for some sets -/
namespace Lw
open PySem L2
/-- what comes of following a plan for some sets -/
def FolT (Ss : List (List Bits)) (T : Pl) (u : V) : Prop := ((¬ ∀ S ∈ Ss, (T.go S).1 = some S) → u = .non) ∧ ((∀ S ∈ Ss, (T.go S).1 = some S) → ∃ m : Nat, u = .int (m : Int) ∧ (∀ S ∈ Ss, (T.go S).2 ≤ m) ∧ ∃ S ∈ Ss, (T.go S).2 = m)
theorem FolT.uniq {Ss Ss' : List (List Bits)} {T : Pl} {u u' : V} (hp : Ss.Perm Ss') (h : FolT Ss T u) (h' : FolT Ss' T u') : u = u' := by
  by_cases c : ∀ S ∈ Ss, (T.go S).1 = some S
  · obtain ⟨m, rfl, h1, S, hS, e⟩ := h.2 c
    obtain ⟨m', rfl, h1', S', hS', e'⟩ := h'.2 fun S hS => c S (hp.mem_iff.mpr hS)
    have a := h1 S' (hp.mem_iff.mpr hS')
    have b := h1' S (hp.mem_iff.mp hS)
    obtain rfl : m = m' := by omega
    rfl
  · rw [h.1 c, h'.1 fun h => c fun S hS => h S (hp.mem_iff.mp hS)]
theorem FolT.data {Ss : List (List Bits)} {T : Pl} {u : V} (h : FolT Ss T u) : ∃ d : PyData, PyData.depth d < 7 ∧ ∀ (K : PySem.W.Frag) (H : Hp), Dq K H u d := by
  by_cases c : ∀ S ∈ Ss, (T.go S).1 = some S
  · obtain ⟨m, rfl, _⟩ := h.2 c
    exact ⟨.int (m : Int), by simp [PyData.depth], fun K H => .int _⟩
  · obtain rfl := h.1 c
    exact ⟨.none, by simp [PyData.depth], fun K H => .non⟩
def bsD (S : List Bits) : PyData := .tuple (S.map db)
theorem nice_bs : Nice bsD 1 := nice_tupl nice_bits
end Lw
end

section
/-! dicts whose keys are tuples of two bools; their values are objects -/
namespace Lw
open PySem PySem.Spec PyProof.Rows L2
def kB (b : BB) : NestedKey := .tup [.num (if b.1 = true then 1 else 0), .num (if b.2 = true then 1 else 0)]
theorem kB_inj {a b : BB} (h : kB a = kB b) : a = b := by
  obtain ⟨x, y⟩ := a
  obtain ⟨z, t⟩ := b
  unfold kB at h
  have h1 := NestedKey.tup.inj h
  have h2 := NestedKey.num.inj (List.cons.inj h1).1
  have h3 := NestedKey.num.inj (List.cons.inj (List.cons.inj h1).2).1
  cases x <;> cases y <;> cases z <;> cases t <;> simp_all
def bX (kvs : List (BB × Addr × Addr)) : List (NestedKey × Addr × Value) := kvs.map fun x => (kB x.1, x.2.1, Value.ref x.2.2)
def BDR (P : Program) (w : World) (a : Addr) (kvs : List (BB × Addr × Addr)) (h : Heap) : Prop := (a == sysModules) = false ∧ ∃ o es ep, h.get? a = some o ∧ o.ExactDict ∧ o.data = .dict es ep ∧ es.toList = (bX kvs).map (entryOfKey (nestedKind P w))
/-- the dict at a: key, where the key's tuple stands, where the value stands -/
def BDO (P : Program) (w : World) (a : Addr) (kvs : List (BB × Addr × Addr)) : HO := .ext (BDR P w a kvs)
structure BDAt (P : Program) (w : World) (K : PySem.W.Frag) (H : Hp) (a : Addr) (kvs : List (BB × Addr × Addr)) : Prop where
  ob : H a = some (BDO P w a kvs)
  nd : (kvs.map (·.1)).Nodup
  ks : ∀ x ∈ kvs, SqT K H x.2.1 (bbV x.1)
theorem bd_at {P : Program} {w : World} {a : Addr} {kvs : List (BB × Addr × Addr)} {h h' : Heap} (R : BDR P w a kvs h) (k : ∀ o, h.get? a = some o → h'.get? a = some o) : BDR P w a kvs h' := by
  obtain ⟨lo, o, es, ep, ho, r⟩ := R
  exact ⟨lo, o, es, ep, k o ho, r⟩
theorem bd_new {P : Program} {w : World} {H : Hp} {h : Heap} {a : Addr} {kvs : List (BB × Addr × Addr)} (lo : (a == sysModules) = false) (R : h.DictOfH (nestedKind P w) a (bX kvs)) : ObjOk P w H h a (BDO P w a kvs) := by
  obtain ⟨o, es, ep, ho, hx, hd, he, _, _⟩ := R
  exact ⟨⟨lo, o, es, ep, ho, hx, hd, he⟩, ⟨o, ho⟩, fun h1 h2 p k => bd_at p k⟩
theorem bX_nodup : ∀ {kvs : List (BB × Addr × Addr)}, (kvs.map (·.1)).Nodup → ((bX kvs).map (·.1)).Nodup := fun {kvs} h => by
  unfold bX
  rw [List.map_map]
  show (kvs.map fun x => kB x.1).Nodup
  rw [show (kvs.map fun x => kB x.1) = (kvs.map (·.1)).map kB by rw [List.map_map]; rfl]
  exact List.Pairwise.map _ (fun a b hne e => hne (kB_inj e)) h
theorem bX_at (b : BB) : ∀ (kvs : List (BB × Addr × Addr)), atKey (bX kvs) (kB b) = (kvs.lookup b).map fun p => (p.1, Value.ref p.2)
  | [] => rfl
  | (c, q, r) :: t => by
    unfold atKey bX
    rw [List.map_cons, List.find?_cons, List.lookup_cons]
    by_cases e : c = b
    · subst e
      simp
    · have h1 : decide (kB c = kB b) = false := decide_eq_false fun q => e (kB_inj q)
      have h2 : (b == c) = false := beq_eq_false_iff_ne.mpr fun q => e q.symm
      simp only [h1, h2]
      exact bX_at b t
section
variable {X : Cx} {pins : List (Addr × Obj)} {σ : L2.St} {H : Hp} {s : Shared} {a q r : Addr} {kvs : List (BB × Addr × Addr)} {b : BB}
theorem key_is (P : Program) (w : World) (I : Inv X pins σ H s) (h : SqT X.K H q (bbV b)) : (nestedKind P w).is s.heap (kB b) q := by
  obtain ⟨its, rv, ⟨o, ho, hc, n, hd⟩, _⟩ := I.tuple h
  cases rv with
  | @cons v1 u1 vs1 us1 r1 t1 =>
    cases t1 with
    | @cons v2 u2 vs2 us2 r2 t2 =>
      cases t2
      have e1 : u1 = Value.bool b.1 := r1
      have e2 : u2 = Value.bool b.2 := r2
      subst e1 e2
      exact ⟨.tup ho hc hd (.cons (.bool rfl) (.cons (.bool rfl) .nil)), by simp [kB, NestedKey.depth, NestedKey.depthAll]⟩
theorem bd_get (I : Inv X pins σ H s) (h : BDAt X.prog X.w X.K H a kvs) : (a == sysModules) = false ∧ s.heap.DictOfH (nestedKind X.prog X.w) a (bX kvs) := by
  obtain ⟨⟨lo, o, es, ep, ho, hx, hd, he⟩, _⟩ := I.hok a _ h.ob
  refine ⟨lo, o, es, ep, ho, hx, hd, he, fun x hx => ?_, bX_nodup h.nd⟩
  unfold bX at hx
  obtain ⟨y, hy, rfl⟩ := List.mem_map.mp hx
  exact key_is _ _ I (h.ks y hy)
theorem bX_len (kvs : List (BB × Addr × Addr)) : (bX kvs).length = kvs.length := by unfold bX; rw [List.length_map]
end
theorem size4 {kvs : List (BB × Addr × Addr)} (h : (kvs.map (·.1)).Nodup) : kvs.length ≤ 4 := by
  have := nodup_le (kvs.map (·.1)) [(false, false), (false, true), (true, false), (true, true)] h fun x _ => by
    obtain ⟨y, z⟩ := x
    cases y <;> cases z <;> simp
  rwa [List.length_map] at this
/-- {}, to be such a dict -/
def tBNew (P : Program) (w : World) : TE := fun _ H Q => ∀ p, H p = none → Q (.ref p) (upd H p (BDO P w p []))
theorem pe_bnew {X : Cx} {P : Program} {w : World} (hP : X.prog = P) (hw : X.w = w) {pos : Pos} : PE X (.Dict [] [] pos) (tBNew P w) := by
  subst hP hw
  exact ⟨fun pins s σ H Q I h =>
    wpAny_Dict_empty ⟨.ref s.heap.objs.size, _, I.laid (a := s.heap.objs.size) (o := BDO X.prog X.w s.heap.objs.size []) (t' := s.toks) (fun _ _ q => Heap.get?_push_of_some _ q) (Nat.le_refl _)
      (bd_new (beq_eq_false_iff_ne.mpr (Ne.symm (Nat.ne_of_lt I.big))) (Heap.DictOfH.new s.heap)), rfl, h _ (I.hok.fresh (Nat.le_refl _))⟩⟩
/-- d.setdefault(y, z) -/
def tBSetd (P : Program) (w : World) (K : PySem.W.Frag) (td ty tx : TE) : TE := fun σ H Q => td σ H fun x H1 => ∃ a kvs0, x = .ref a ∧ BDAt P w K H1 a kvs0 ∧ ty σ H1 fun y H2 => tx σ H2 fun z H3 => ∃ (kvs : List (BB × Addr × Addr)) (b : BB) (q r : Addr), BDAt P w K H3 a kvs ∧ y = .ref q ∧ SqT K H3 q (bbV b) ∧ z = .ref r ∧
  (∀ q0 p, kvs.lookup b = some (q0, p) → Q (.ref p) H3) ∧ (kvs.lookup b = none → Q (.ref r) (upd H3 a (BDO P w a (kvs ++ [(b, q, r)]))))
section
variable {X : Cx} {o e f : Expr} {td ty tx : TE} {apos cpos pos : Pos} {P : Program} {w : World} {K : PySem.W.Frag}
theorem pe_bsetd (hP : X.prog = P) (hw : X.w = w) (hK : X.K = K) (hu : X.A.units + 65 < cLine) (ho : PE X o td) (he : PE X e ty) (hf : PE X f tx) (m : M2 X o "setdefault" apos e f cpos) : PE X (.Call (.Attribute o "setdefault" apos) [e, f] [] cpos) (tBSetd P w K td ty tx) := by
  subst hP hw hK
  refine ⟨fun pins s σ H Q I h => ?_⟩
  refine wpAny_Call_method m.base m.few m.line PySem.F.plainAttrs_dict PySem.F.slot_dict_setdefault PySem.F.type_dict_setdefault (thn (ho.run pins s σ H _ I h) fun u s1 ⟨x, H1, I1, rx, a, kvs0, ex, d, q1⟩ => ?_)
  subst ex
  obtain rfl : u = Value.ref a := rx
  obtain ⟨lo, dd⟩ := bd_get I1 d
  refine ⟨dd.typeIs, fun b q => ?_, ?_⟩
  · cases q
    obtain ⟨ob, _, _, h1, h2, _⟩ := dd
    exact ⟨ob, h1, h2.2.1⟩
  rw [m.trees]
  refine Calls.callWith_builtin rfl (Calls.evalArgs_plain (Calls.spliced_cons (thn (he.run pins s1 σ H1 _ I1 q1) fun iv s2 ⟨y, H2, I2, ry, q2⟩ =>
    Calls.spliced_cons (thn (hf.run pins s2 σ H2 _ I2 q2) fun fv s3 ⟨z, H3, I3, rz, kvs, b, q, r, d3, ey, hq, ez, q3, q4⟩ => Calls.spliced_nil ?_))))
  subst ey ez
  obtain rfl : iv = Value.ref q := ry
  obtain rfl : fv = Value.ref r := rz
  obtain ⟨lo3, dd3⟩ := bd_get I3 d3
  have z4 := size4 d3.nd
  refine call_setdefault_heap (by show _ + 8 < _; simp only [Around.in1_units]; omega) (key_is _ _ I3 hq) lo3 dd3 (fun p hp => ?_) (fun hn h' hm hs => ?_) (by rw [bX_len]; exact Nat.le_trans z4 (by decide))
  · rw [bX_at] at hp
    cases hl : kvs.lookup b with
    | none => rw [hl] at hp; cases hp
    | some p0 =>
      rw [hl] at hp
      cases hp
      exact ⟨.ref p0.2, H3, I3.tok _, rfl, q3 p0.1 p0.2 hl⟩
  · rw [storedH_new hn] at hm
    have hm' : h'.DictOfH (nestedKind X.prog X.w) a (bX (kvs ++ [(b, q, r)])) := by
      unfold bX at hm ⊢
      rw [List.map_append]
      exact hm
    rw [bX_at] at hn
    have hl : kvs.lookup b = none := by
      cases hl : kvs.lookup b with
      | none => rfl
      | some p0 => rw [hl] at hn; cases hn
    obtain ⟨o, es, ep, ho, _⟩ := id hm
    exact ⟨.ref r, _, d_write I3 (by rw [d3.ob]; exact True.intro) hs ⟨o, ho⟩ (bd_new lo3 hm'), rfl, q4 hl⟩
/-- d[y] -/
def tBGet (P : Program) (w : World) (K : PySem.W.Frag) (td ty : TE) : TE := fun σ H Q => td σ H fun x H1 => ty σ H1 fun y H2 => ∃ (a q q0 p : Addr) (kvs : List (BB × Addr × Addr)) (b : BB), x = .ref a ∧ y = .ref q ∧ BDAt P w K H2 a kvs ∧ SqT K H2 q (bbV b) ∧ kvs.lookup b = some (q0, p) ∧ Q (.ref p) H2
theorem pe_bget (hP : X.prog = P) (hw : X.w = w) (hK : X.K = K) (hu : X.A.units + 65 < cLine) (ho : PE X o td) (hi : PE X e ty) (hs : NoSl e) : PE X (.Subscript o e pos) (tBGet P w K td ty) := by
  subst hP hw hK
  refine ⟨fun pins s σ H Q I h => ?_⟩
  refine subD_of PySem.F.slot_dict_getitem.lookup hs (thn (ho.run pins s σ H _ I h) fun u s1 ⟨x, H1, I1, rx, q1⟩ => thn (hi.run pins s1 σ H1 _ I1 q1) fun iv s2 ⟨y, H2, I2, ry, a, q, q0, p, kvs, b, ex, ey, d, hq, hl, q2⟩ => ?_)
  subst ex ey
  obtain rfl : u = Value.ref a := rx
  obtain rfl : iv = Value.ref q := ry
  obtain ⟨lo, dd⟩ := bd_get I2 d
  refine ⟨dd.typeIs, wpAny_getItem_heap (by show _ + 8 < _; simp only [Around.in1_units]; omega) (key_is _ _ I2 hq) dd (p := (q0, Value.ref p)) (by rw [bX_at, hl]; rfl) ⟨.ref p, H2, I2.tok _, rfl, q2⟩⟩
end
/-- len(d) -/
def rLenB (P : Program) (w : World) (K : PySem.W.Frag) : List V → Hp → VK → Prop := fun xs H Q => ∃ a kvs, xs = [V.ref a] ∧ BDAt P w K H a kvs ∧ Q (.int kvs.length) H
theorem c_lenB {X : Cx} {P : Program} {w : World} {K : PySem.W.Frag} (hP : X.prog = P) (hw : X.w = w) (hK : X.K = K) : CallR X (.builtin "len") (rLenB P w K) := by
  subst hP hw hK
  intro pins s σ H xs us Q I r h
  obtain ⟨a, kvs, rfl, ha, q⟩ := h
  rw [Vals.ref1 r]
  obtain ⟨lo, dd⟩ := bd_get I ha
  have z4 := size4 ha.nd
  refine call_len_dictH lo dd (by rw [bX_len]; omega) ?_
  rw [bX_len]
  exact ⟨.int kvs.length, H, I.tok _, ⟨_, rfl⟩, q⟩
/-- sorted(d): the keys -/
def rSortB (P : Program) (w : World) (K : PySem.W.Frag) : List V → Hp → VK → Prop := fun vs H Q => ∃ (a : Addr) (kvs : List (BB × Addr × Addr)), vs = [.ref a] ∧ BDAt P w K H a kvs ∧ ∀ (ys : List (BB × Addr × Addr)) (p : Addr), ys.Perm kvs → H p = none → Q (.ref p) (upd H p (.lst (ys.map fun x => V.ref x.2.1)))
section
variable {prog : Program} {w : World} {d : Addr} {es : Array DictEntry} {ep : Nat}
theorem kdl_raw (lo : (d == sysModules) = false) : PySem.W.KdlSrc prog w "dict" d d es.size (fun i v => ∃ hi : i < es.size, v = es[i].key) (fun h => h.DictRaw d es ep) where
  type := fun _ hm => hm.typeIs
  there := fun _ hm => by
    obtain ⟨o, ho, _⟩ := hm
    exact ⟨Heap.lt_size ho, Heap.lt_size ho⟩
  keep := fun _ _ hm hk => hm.at fun o e => hk d (.inl rfl) o e
  notList := by decide
  notTuple := by decide
  hint := fun _ _ _ _ hm hq => PySem.W.kdl_hint_dict hm.typeIs hq
  iter := fun _ s hh hm => ⟨_, _, (fun _ _ hq => wpAny_pyIter_dict_raw lo hm hq), Walks.rawKeys hh _ d (by obtain ⟨o, ho, _⟩ := hm; exact Nat.ne_of_lt (Heap.lt_size ho)) es ep, ⟨⟨_, Heap.get?_push_size _ rfl, rfl, rfl⟩, hm.at fun o e => Heap.get?_push_of_some _ e⟩⟩
end
theorem c_sortB {X : Cx} {P : Program} {w : World} {K : PySem.W.Frag} (hP : X.prog = P) (hw : X.w = w) (hK : X.K = K) (hc : X.calm = true) (hu : X.A.units + 65 < cLine) : CallR X (.builtin "sorted") (rSortB P w K) := by
  subst hP hw hK
  intro pins s σ H vs us Q I r h
  obtain ⟨a, kvs, rfl, hd, q⟩ := h
  rw [Vals.ref1 r]
  obtain ⟨lo, dd⟩ := bd_get I hd
  obtain ⟨es, ep, hraw, hsz, hes⟩ := dd.raw
  rw [bX_len] at hsz
  have z4 := size4 hd.nd
  have hzl : es.size ≤ sizeLine := by rw [hsz]; exact Nat.le_trans z4 (by decide)
  refine Calls.call_function_entry PyProof.Rows.kind_sorted PyProof.Rows.plain_sorted PyProof.Rows.entry_sorted (PyProof.Rows.args_sorted1 _) ?_
  unfold Builtin.«sorted»
  refine wpAny_bind (m := checkCount "sorted" 1 1 _) (wpAny_pure ?_)
  refine wpAny_bind (PySem.W.kdu_collect (A := X.A.in1) (kdl_raw lo) (I.ok.hd hc) hraw hzl fun h' tk acc hkeep hacc => ?_)
  have hal : acc.toList.length = kvs.length := by rw [Array.length_toList, hacc.1, hsz]
  have hzl2 : acc.toList.length ≤ sizeLine := by rw [hal, ← hsz]; exact hzl
  have I1 : Inv X pins σ H { s with heap := h', toks := tk } := I.kept hkeep
  have hvals : acc.toList = kvs.map fun x => Value.ref x.2.1 := by
    refine List.ext_getElem? fun j => ?_
    by_cases hj : j < kvs.length
    · have hj2 : j < acc.toList.length := by rw [hal]; exact hj
      obtain ⟨hi, e⟩ := hacc.2 j acc.toList[j] (by rw [← Array.getElem?_toList, List.getElem?_eq_getElem hj2])
      obtain ⟨y, hy, e1, _, _⟩ := hes j hi
      unfold bX at hy
      rw [List.getElem?_map, List.getElem?_eq_getElem hj] at hy
      have hy := Option.some.inj hy
      rw [List.getElem?_eq_getElem hj2, e, e1, ← hy, List.getElem?_map, List.getElem?_eq_getElem hj]
      rfl
    · rw [List.getElem?_eq_none (by rw [hal]; omega), List.getElem?_eq_none (by rw [List.length_map]; omega)]
  have hoL : (h'.push (seqObj "list" acc.toList.toArray 0)).get? h'.objs.size = some (seqObj "list" acc.toList.toArray 0) := Heap.get?_push_size _ rfl
  have er : PySem.W.EachIs (fun v (x : BB × Addr × Addr) => ∃ as, Reads (h'.push (seqObj "list" acc.toList.toArray 0)) v (bbD x.1) as ∧ h'.objs.size ∉ as) acc.toList kvs := by
    rw [hvals]
    have go : ∀ l : List (BB × Addr × Addr), (∀ x ∈ l, x ∈ kvs) → PySem.W.EachIs (fun v (x : BB × Addr × Addr) => ∃ as, Reads (h'.push (seqObj "list" (kvs.map fun x => Value.ref x.2.1).toArray 0)) v (bbD x.1) as ∧ h'.objs.size ∉ as) (l.map fun x => Value.ref x.2.1) l := by
      intro l
      induction l with
      | nil => exact fun _ => .nil
      | cons x l ih =>
        intro hin
        refine .cons ?_ (ih fun y hy => hin y (List.mem_cons_of_mem _ hy))
        obtain ⟨its, rv, ⟨o, ho, hc2, n, hdat⟩, _⟩ := I1.tuple (hd.ks x (hin x List.mem_cons_self))
        cases rv with
        | @cons v1 u1 vs1 us1 r1 t1 =>
          cases t1 with
          | @cons v2 u2 vs2 us2 r2 t2 =>
            cases t2
            have e1 : u1 = Value.bool x.1.1 := r1
            have e2 : u2 = Value.bool x.1.2 := r2
            subst e1 e2
            exact ⟨_, .tuple (Heap.get?_push_of_some _ ho) hc2 hdat (.cons (.bool _) (.cons (.bool _) .nil)), by simp⟩
    exact go kvs fun x h => h
  have hAl : PySem.W.AllAlike (kvs.map fun x => bbD x.1) := by
    intro x hx y hy
    obtain ⟨x0, _, rfl⟩ := List.mem_map.mp hx
    obtain ⟨y0, _, rfl⟩ := List.mem_map.mp hy
    rfl
  have hSo : PySem.W.Sortable (kvs.map fun x => bbD x.1) := .inl fun x hx => by
    obtain ⟨x0, _, rfl⟩ := List.mem_map.mp hx
    exact ⟨_, _, rfl⟩
  refine wpAny_bind (wpAny_newList ?_ hzl2)
  show wpAny _ _ _ _ _ { s with heap := h'.push (seqObj "list" acc.toList.toArray 0), toks := tk }
  have eR : PySem.W.EachIs (fun v (x : BB × Addr × Addr) => v = Value.ref x.2.1) acc.toList kvs := by
    rw [hvals]
    clear q hes hraw hd dd hsz z4 hzl hacc hal hzl2 hvals hoL er hAl hSo
    induction kvs with
    | nil => exact .nil
    | cons x l ih => exact .cons rfl ih
  refine wpAny_bind (wpAny_holding (PySem.W.list_sort_data (R := fun v (x : BB × Addr × Addr) => v = Value.ref x.2.1) (enc := fun x : BB × Addr × Addr => bbD x.1) hoL eR er hAl hSo (by rw [← hsz]; exact hzl) (fun x _ => by
    show _ + 1 + PyData.depth (.tuple [.bool x.1.1, .bool x.1.2]) < _
    have : PyData.depth (.tuple [.bool x.1.1, .bool x.1.2]) ≤ 2 := by simp [PyData.depth, PyData.depthAll]
    simp only [Around.in1_units]
    omega) fun out ho eo => ?_))
  have hperm := List.mergeSort_perm kvs (PySem.W.dataLe false fun x : BB × Addr × Addr => bbD x.1)
  generalize kvs.mergeSort (PySem.W.dataLe false fun x : BB × Addr × Addr => bbD x.1) = ys at eo hperm
  obtain ⟨e', he'⟩ := PyProof.Rows.sortedHeap_at (vs := acc.toList) (out := out.toArray) hoL
  have hout : out = ys.map fun x => Value.ref x.2.1 := by
    clear he' ho hperm
    induction eo with
    | nil => rfl
    | cons h1 _ ih => rw [h1, ih]; rfl
  have hv : Vals (ys.map fun x => V.ref x.2.1) out := by
    rw [hout]
    clear hout eo hperm he'
    induction ys with
    | nil => exact .nil
    | cons x l ih => exact .cons rfl ih
  have hlen : (ys.map fun x => V.ref x.2.1).length ≤ sizeLine := by rw [List.length_map, hperm.length_eq, ← hsz]; exact hzl
  refine wpAny_pure ⟨_, rfl, .ref h'.objs.size, upd H h'.objs.size (.lst (ys.map fun x => V.ref x.2.1)), I1.laid (t' := tk) (fun b u e => ?_) (Nat.le_refl _) ⟨hlen, out, e', hv, he'⟩, rfl, q _ _ hperm (I1.hok.fresh (Nat.le_refl _))⟩
  have hb : b < h'.objs.size := Heap.lt_size e
  rw [PyProof.Rows.sortedHeap_old (Nat.ne_of_lt hb) (by rw [size_push']; exact Nat.lt_succ_of_lt hb)]
  exact Heap.get?_push_of_some _ e
end Lw
end

section
/-! the fewest looks at the worst, by trying all -/
namespace Lw
open PySem L2
section
variable {Ss : List (List Bits)} {n : Nat}
def Low (Ss : List (List Bits)) (n : Nat) (l : List Nat) (m : Nat) : Prop := Can Ss n m l ∧ ∀ m', Can Ss n m' l → m ≤ m'
theorem Low.uniq {l : List Nat} {m m' : Nat} (h : Low Ss n l m) (h' : Low Ss n l m') : m = m' := Nat.le_antisymm (h.2 _ h'.1) (h'.2 _ h.1)
theorem Can.mono {m m' : Nat} {l : List Nat} (h : Can Ss n m l) (hm : m ≤ m') : Can Ss n m' l := by
  induction hm with
  | refl => exact h
  | step _ ih => exact ih.up
theorem low_one {l : List Nat} (h : l.length ≤ 1) : Low Ss n l 0 := ⟨.one h, fun _ _ => Nat.zero_le _⟩
/-- the looks tried so far -/
structure WInv (Ss : List (List Bits)) (n : Nat) (l : List Nat) (Z : List Bits) (f : Nat) : Prop where
  can : f = 99 ∨ Can Ss n f l
  low : ∀ b ∈ Z, Spl Ss b l → ∀ m', (∀ a, Can Ss n m' (prt Ss b a l)) → f ≤ m' + 1
theorem WInv.nil (l : List Nat) : WInv Ss n l [] 99 := ⟨.inl rfl, fun b hb => by cases hb⟩
theorem WInv.skip {l : List Nat} {Z : List Bits} {f : Nat} {b : Bits} (h : WInv Ss n l Z f) (hb : ¬ Spl Ss b l) : WInv Ss n l (Z ++ [b]) f := ⟨h.can, fun c hc hs => by
  rcases List.mem_append.mp hc with q | q
  · exact h.low c q hs
  · rw [List.mem_singleton.mp q] at hs
    exact absurd hs hb⟩
theorem WInv.step {l : List Nat} {Z : List Bits} {f M : Nat} {b : Bits} {mm : BB → Nat} (h : WInv Ss n l Z f) (hb : b.length < n) (h1 : ∀ a, prt Ss b a l ≠ [] → Low Ss n (prt Ss b a l) (mm a)) (hM : ∀ a, prt Ss b a l ≠ [] → mm a ≤ M) (hA : ∃ a, prt Ss b a l ≠ [] ∧ mm a = M) : WInv Ss n l (Z ++ [b]) (min f (1 + M)) where
  can := by
    by_cases c : f ≤ 1 + M
    · rw [Nat.min_eq_left c]; exact h.can
    · rw [Nat.min_eq_right (by omega), Nat.add_comm]
      refine .inr (.look b hb fun a => ?_)
      by_cases e : prt Ss b a l = []
      · rw [e]; exact .one (Nat.zero_le _)
      · exact (h1 a e).1.mono (hM a e)
  low := fun c hc hs m' hm' => by
    rcases List.mem_append.mp hc with q | q
    · exact Nat.le_trans (Nat.min_le_left _ _) (h.low c q hs m' hm')
    · rw [List.mem_singleton.mp q] at hm'
      obtain ⟨a, ha, rfl⟩ := hA
      have := (h1 a ha).2 m' (hm' a)
      have := Nat.min_le_right f (1 + mm a)
      omega
theorem WInv.fin {R us : List Bits} {l : List Nat} {f : Nat} (W : PlS R us Ss n) (hl : KeyOk Ss.length l) (h2 : 2 ≤ l.length) (h : WInv Ss n l us f) : Low Ss n l f := by
  have hlt : ∀ i ∈ l, i < Ss.length := fun i hi => List.mem_range.mp (hl.subset hi)
  have hS : ∀ S ∈ Ss, ∀ x ∈ S, x ∈ R := fun S hS => (W.hS S hS).2.1
  have low : ∀ m', Can Ss n m' l → f ≤ m' := fun m' hm => by
    obtain ⟨b, hb, hs, m1, rfl, h4⟩ := can_split W.us_ hS hm hlt h2
    exact h.low b ((unl_in (Ss := Ss) (us := us)).1 b hb).1 hs m1 h4
  refine ⟨?_, low⟩
  have := low _ (spl_ex W.hn.1 W.hR W.us_ (fun S hS => ⟨(W.hS S hS).1, (W.hS S hS).2.1⟩) W.nd hlt (hl.nodup List.nodup_range))
  have r4 := W.r4
  rcases h.can with e | e
  · omega
  · exact e
/-- a plan that goes right shows that it can be done -/
theorem can_of : ∀ (T : Pl) {l : List Nat} {m : Nat}, l.Nodup → (∀ i ∈ l, ∀ j ∈ l, gS Ss i = gS Ss j → i = j) → T.ok n → (∀ i ∈ l, (T.go (gS Ss i)).1 = some (gS Ss i) ∧ (T.go (gS Ss i)).2 ≤ m) → Can Ss n m l
  | .non, l, m, nd, _, _, h => by
    match l, h with
    | [], _ => exact .one (Nat.zero_le _)
    | i :: r, h => exact absurd (h i (by simp)).1 (by intro e; cases e)
  | .hung S, l, m, nd, inj, _, h => by
    refine .one ?_
    match l, nd, inj, h with
    | [], _, _, _ => exact Nat.zero_le _
    | [i], _, _, _ => exact Nat.le_refl _
    | i :: j :: r, nd, inj, h =>
      have h1 : some S = some (gS Ss i) := (h i (by simp)).1
      have h2 : some S = some (gS Ss j) := (h j (by simp)).1
      have e := inj i (by simp) j (by simp) (Option.some.inj (h1.symm.trans h2))
      rw [e] at nd
      simp at nd
  | .look b c0 c1 c2 c3, l, m, nd, inj, ok, h => by
    have hb : b.length < n := ok.1
    have key : ∀ a, ∀ i ∈ prt Ss b a l, ((Pl.at a c0 c1 c2 c3).go (gS Ss i)).1 = some (gS Ss i) ∧ ((Pl.at a c0 c1 c2 c3).go (gS Ss i)).2 + 1 ≤ m := fun a i hi => by
      obtain ⟨hi1, hi2⟩ := mem_prt.mp hi
      have := h i hi1
      rw [Pl.go_look, hi2] at this
      exact this
    have sub : ∀ a, (prt Ss b a l).Nodup ∧ ∀ i ∈ prt Ss b a l, ∀ j ∈ prt Ss b a l, gS Ss i = gS Ss j → i = j := fun a => ⟨(prt_sub Ss b a l).nodup nd, fun i hi j hj => inj i (mem_prt.mp hi).1 j (mem_prt.mp hj).1⟩
    match m, h, key with
    | 0, h, key =>
      refine .one ?_
      match l, h with
      | [], _ => exact Nat.zero_le _
      | i :: r, h =>
        have := (h i (by simp)).2
        rw [Pl.go_look] at this
        exact absurd this (by show ¬ _ + 1 ≤ 0; omega)
    | m + 1, h, key =>
      refine .look b hb fun ⟨x, y⟩ => ?_
      have k := fun i hi => (fun z : _ ∧ _ => (⟨z.1, Nat.le_of_succ_le_succ z.2⟩ : _ ∧ _)) (key (x, y) i hi)
      have s := sub (x, y)
      cases x <;> cases y
      · exact can_of c0 s.1 s.2 ok.2.1 k
      · exact can_of c1 s.1 s.2 ok.2.2.1 k
      · exact can_of c2 s.1 s.2 ok.2.2.2.1 k
      · exact can_of c3 s.1 s.2 ok.2.2.2.2 k
theorem best_low {us R : List Bits} {T : Pl} {m : Nat} (W : PlS R us Ss n) (h : Best Ss n T (List.range Ss.length) m) : Low Ss n (List.range Ss.length) m :=
  ⟨can_of T List.nodup_range (fun i hi j hj => gS_inj W.nd (List.mem_range.mp hi) (List.mem_range.mp hj)) h.ok h.go, h.low⟩
end
/-! ### the memo: numbers by tuples of numbers -/
def dI (kvs : List (List Nat × Nat)) : List (List Key × V) := kvs.map fun p => (kN p.1, vN p.2)
theorem dI_val : ∀ (kvs : List (List Nat × Nat)) (l : List Nat), valV (dI kvs) (kN l) = (kvs.lookup l).map vN
  | [], _ => rfl
  | (k, v) :: r, l => by
    unfold valV dI
    rw [List.map_cons, List.find?_cons, List.lookup_cons]
    have : (l == k) = decide (k = l) := by
      by_cases h : k = l
      · rw [decide_eq_true h, h]; simp
      · rw [decide_eq_false h]
        exact beq_eq_false_iff_ne.mpr fun e => h e.symm
    rw [this]
    show Option.map _ (match decide (kN k = kN l) with | true => _ | false => _) = _
    rw [kN_dec]
    cases decide (k = l) with
    | true => rfl
    | false => exact dI_val r l
theorem dI_put {kvs : List (List Nat × Nat)} {l : List Nat} {p : Nat} (h : kvs.lookup l = none) : putK (dI kvs) (kN l) (vN p) = dI (kvs ++ [(l, p)]) := by
  rw [putK_new]
  · unfold dI
    rw [List.map_append]
    rfl
  · rw [dI_val, h]
    rfl
def putI (kvs : List (List Nat × Nat)) (l : List Nat) (p : Nat) : List (List Nat × Nat) := match kvs.lookup l with
  | none => kvs ++ [(l, p)]
  | some _ => kvs.map fun kv => if kv.1 = l then (kv.1, p) else kv
theorem lookup_appI {kvs : List (List Nat × Nat)} {l l' : List Nat} {p : Nat} : (kvs ++ [(l, p)]).lookup l' = match kvs.lookup l' with
    | some q => some q
    | none => if l' = l then some p else none := by
  induction kvs with
  | nil =>
    rw [List.nil_append, List.lookup_cons, List.lookup_nil]
    by_cases h : l' = l
    · rw [if_pos h, h]
      simp
    · rw [if_neg h, beq_eq_false_iff_ne.mpr h]
  | cons x r ih =>
    obtain ⟨k, v⟩ := x
    rw [List.cons_append, List.lookup_cons, List.lookup_cons]
    cases e : l' == k with
    | true => rfl
    | false => exact ih
theorem lookup_oneI {k l' : List Nat} {v : Addr} {r : List (List Nat × Nat)} : ((k, v) :: r).lookup l' = if l' = k then some v else r.lookup l' := by
  rw [List.lookup_cons]
  by_cases e : l' = k
  · rw [if_pos e, e]
    simp
  · rw [if_neg e, beq_eq_false_iff_ne.mpr e]
theorem lookup_putJ {kvs : List (List Nat × Nat)} {l l' : List Nat} {p : Nat} : (kvs.map fun kv => if kv.1 = l then (kv.1, p) else kv).lookup l' = if l' = l then (kvs.lookup l).map (fun _ => p) else kvs.lookup l' := by
  induction kvs with
  | nil => by_cases e : l' = l <;> simp [e]
  | cons x r ih =>
    obtain ⟨k, v⟩ := x
    have hh : (if (k, v).1 = l then ((k, v).1, p) else (k, v)) = (k, if k = l then p else v) := by
      show (if k = l then (k, p) else (k, v)) = _
      split <;> rfl
    rw [List.map_cons, hh, lookup_oneI, lookup_oneI, lookup_oneI, ih]
    by_cases e : l' = k
    · subst e
      by_cases e2 : l' = l
      · subst e2
        simp
      · simp [e2]
    · rw [if_neg e, if_neg e]
      by_cases e2 : l' = l
      · subst e2
        rw [if_pos rfl, if_pos rfl, if_neg e]
      · rw [if_neg e2, if_neg e2]
theorem lookup_putI {kvs : List (List Nat × Nat)} {l l' : List Nat} {p : Nat} : (putI kvs l p).lookup l' = if l' = l then some p else kvs.lookup l' := by
  unfold putI
  cases h : kvs.lookup l with
  | none =>
    rw [lookup_appI]
    by_cases e : l' = l
    · rw [e, h, if_pos rfl]

    · rw [if_neg e, if_neg e]
      cases kvs.lookup l' <;> rfl
  | some q =>
    show (kvs.map fun kv => if kv.1 = l then (kv.1, p) else kv).lookup l' = _
    rw [lookup_putJ, h]
    rfl
theorem dI_putI {kvs : List (List Nat × Nat)} {l : List Nat} {p : Nat} : putK (dI kvs) (kN l) (vN p) = dI (putI kvs l p) := by
  unfold putI
  cases h : kvs.lookup l with
  | none => exact dI_put h
  | some q =>
    unfold putK
    rw [if_pos]
    · unfold dI
      rw [List.map_map, List.map_map]
      refine List.map_congr_left fun x _ => ?_
      obtain ⟨k, v⟩ := x
      show (if kN k = kN l then (kN k, vN p) else (kN k, vN v)) = (kN (if k = l then (k, p) else (k, v)).1, vN (if k = l then (k, p) else (k, v)).2)
      by_cases e : k = l
      · rw [if_pos e, if_pos (by rw [e])]
      · rw [if_neg e, if_neg (fun q => e (kN_inj q))]
    · rw [valV_any, dI_val, h]
      rfl
theorem putI_keys {kvs : List (List Nat × Nat)} {l : List Nat} {p : Nat} (nd : (kvs.map (·.1)).Nodup) : ((putI kvs l p).map (·.1)).Nodup ∧ ∀ k, k ∈ (putI kvs l p).map (·.1) → k ∈ kvs.map (·.1) ∨ k = l := by
  unfold putI
  cases h : kvs.lookup l with
  | none =>
    have hn : l ∉ kvs.map (·.1) := fun q => by
      obtain ⟨x, hx, e⟩ := List.mem_map.mp q
      have := List.lookup_eq_none_iff.mp h x hx
      rw [e] at this
      simp at this
    rw [show (kvs ++ [(l, p)]).map (·.1) = kvs.map (·.1) ++ [l] by rw [List.map_append]; rfl]
    refine ⟨List.nodup_append.mpr ⟨nd, by simp, fun x hx y hy e => ?_⟩, fun k hk => ?_⟩
    · rw [List.mem_singleton] at hy
      rw [e, hy] at hx
      exact hn hx
    · rcases List.mem_append.mp hk with q | q
      · exact .inl q
      · exact .inr (List.mem_singleton.mp q)
  | some q =>
    have e : (kvs.map fun kv => if kv.1 = l then (kv.1, p) else kv).map (·.1) = kvs.map (·.1) := by
      rw [List.map_map]
      refine List.map_congr_left fun x _ => ?_
      show (if x.1 = l then (x.1, p) else x).1 = x.1
      split <;> rfl
    show ((kvs.map fun kv => if kv.1 = l then (kv.1, p) else kv).map (·.1)).Nodup ∧ _
    rw [e]
    exact ⟨nd, fun k hk => .inl hk⟩
def MemoW (d : Addr) (Ss : List (List Bits)) (n : Nat) (H : Hp) : Prop := ∃ kvs : List (List Nat × Nat), H d = some (.dT (dI kvs)) ∧ (∀ l m, kvs.lookup l = some m → Low Ss n l m) ∧ (kvs.map (·.1)).Nodup ∧ ∀ l ∈ kvs.map (·.1), KeyOk Ss.length l
section
variable {K : PySem.W.Frag} {d : Addr} {Ss : List (List Bits)} {n : Nat} {H H1 : Hp} {Q : VK}
theorem MemoW.ext (h : MemoW d Ss n H) (e : Ext H H1) : MemoW d Ss n H1 := by
  obtain ⟨kvs, h1, h2⟩ := h
  exact ⟨kvs, e.st _ _ h1 nsh_dT, h2⟩
theorem MemoW.upd {D : Addr} {o : HO} (h : MemoW d Ss n H) (hD : D ≠ d) : MemoW d Ss n (upd H D o) := by
  obtain ⟨kvs, h1, h2⟩ := h
  exact ⟨kvs, by rw [upd_ne (Ne.symm hD)]; exact h1, h2⟩
theorem MemoW.dt (h : MemoW d Ss n H) : ∃ kvs, H d = some (.dT kvs) := by
  obtain ⟨kvs, h, _⟩ := h
  exact ⟨_, h⟩
theorem w_dnotI {t : Addr} {kvs : List (List Nat × Nat)} {l : List Nat} (h : H d = some (.dT (dI kvs))) (hb : H t = some (.tup (l.map vN))) (k : Q (.bl (kvs.lookup l).isNone) H) : DnotOk (.ref t) (.ref d) H Q :=
  ⟨d, _, rfl, DGet.t h (k := kN l) (by rw [kN_V]; exact hb), by
    rw [dI_val]
    cases q : kvs.lookup l with
    | none => rw [q] at k; exact k
    | some p => rw [q] at k; exact k⟩
theorem w_dgetI {t : Addr} {p : Nat} {kvs : List (List Nat × Nat)} {l : List Nat} (h : H d = some (.dT (dI kvs))) (hb : H t = some (.tup (l.map vN))) (hl : kvs.lookup l = some p) (k : Q (vN p) H) : DgetOk (.ref d) (.ref t) H Q :=
  ⟨d, _, rfl, by
    have := DGet.t h (k := kN l) (by rw [kN_V]; exact hb)
    rw [dI_val, hl] at this
    exact this, k⟩
theorem w_memoW {S : Hp → Prop} {t : Addr} {m : Nat} {l : List Nat} (Z : MemoW d Ss n H) (hN : Ss.length ≤ 16) (ht : H t = some (.tup (l.map vN))) (hb : Low Ss n l m) (hk : KeyOk Ss.length l)
    (k : ∀ H', MemoW d Ss n H' → Step [d] [d] H H' → (∃ kvs, H' d = some (.dT (dI kvs)) ∧ kvs.lookup l = some m) → S H') : DputOk (.int (m : Int)) (.ref d) (.ref t) H S := by
  obtain ⟨kvs, h1, h2, h3, h4⟩ := Z
  have hz := keys_few hN h3 h4
  rw [List.length_map] at hz
  obtain ⟨n1, n2⟩ := putI_keys (l := l) (p := m) h3
  refine ⟨d, _, rfl, DPut.t h1 (k := kN l) (by rw [kN_V]; exact ht) (by unfold dI; rw [List.length_map]; exact Nat.lt_of_le_of_lt hz (by decide)), ?_⟩
  have e := dI_putI (kvs := kvs) (l := l) (p := m)
  unfold vN at e
  rw [e]
  refine k _ ⟨_, upd_same, fun l' p' hl => ?_, n1, fun k' hk' => ?_⟩ (Step.wr h1 (by simp)) ⟨_, upd_same, ?_⟩
  · rw [lookup_putI] at hl
    by_cases e : l' = l
    · rw [if_pos e] at hl
      cases hl
      subst e
      exact hb
    · rw [if_neg e] at hl
      exact h2 l' p' hl
  · rcases n2 k' hk' with q | q
    · exact h4 k' q
    · rw [q]; exact hk
  · rw [lookup_putI, if_pos rfl]
end
end Lw
end

section
set_option pp.maxSteps 700
open PySem L2 Lw
local macro_rules | `(tactic| tm_at "s") => `(tactic| first
  | with_reducible refine w_seq ?_ | with_reducible refine w_asg ?_ | with_reducible refine w_gname ?_ | with_reducible refine w_ret ?_ | with_reducible refine w_drop ?_ | with_reducible refine w_ifS ?_ | with_reducible refine w_next ?_ | with_reducible refine w_retN ?_
  | with_reducible refine w_c ?_ | ((with_reducible refine w_var (v := ?vv) ?hh ?kk); (case hh => exact rfl)) | with_reducible refine w_op ?_ | with_reducible refine w_un ?_ | with_reducible refine w_cons ?_ | with_reducible refine w_nil ?_ | with_reducible refine w_test ?_ | with_reducible refine w_B ?_
  | with_reducible refine w_isbl ?_ | with_reducible refine w_not ?_ | with_reducible refine w_and ?_ | with_reducible refine w_or ?_ | with_reducible refine w_andV ?_ | with_reducible refine w_orV ?_ | with_reducible refine w_notV ?_ | with_reducible refine w_if ?_ | with_reducible refine w_chain ?_
  | with_reducible refine w_isN ?_ | with_reducible refine w_notN ?_ | with_reducible refine w_yes ?_ | with_reducible refine w_call ?_ | with_reducible refine w_CB ?_ | with_reducible refine w_tup ?_ | with_reducible refine w_lst ?_ | with_reducible refine w_sl ?_ | with_reducible refine w_noPart ?_
  | with_reducible refine w_part ?_ | with_reducible refine w_isint ?_ | with_reducible refine w_gSub ?_ | with_reducible refine w_break ?_ | with_reducible refine w_cont ?_
  | with_reducible refine w_I0 ?_ | with_reducible refine w_eqI ?_ | with_reducible refine w_neI ?_ | with_reducible refine w_eqS ?_ | with_reducible refine w_neS ?_ | with_reducible refine w_eqB ?_ | with_reducible refine w_neB ?_ | ((with_reducible refine w_isi (d := ?dd) ?hh ?kk); (case hh => assumption))
  | with_reducible refine w_sg ?_ | with_reducible refine w_notSg ?_ | with_reducible refine w_starts ?_ | with_reducible refine w_max2 ?_ | with_reducible refine w_min2 ?_ | with_reducible refine w_intB ?_ | with_reducible refine w_intI ?_ | with_reducible refine w_bm ?_ | with_reducible refine w_bm0 ?_ | with_reducible refine w_m1 ?_ | with_reducible refine w_m0 ?_ | with_reducible refine w_isstr ?_
  | with_reducible refine w_for ?_ | with_reducible refine w_lc ?_ | with_reducible refine w_rng ?_ | with_reducible refine w_rng2 ?_ | with_reducible refine w_ilist ?_ | with_reducible refine w_itup ?_ | with_reducible refine w_istr ?_ | with_reducible refine w_strOk ?_
  | ((with_reducible refine w_rngOk ?hh ?h2 ?kk); (case hh => omega); (case h2 => omega)) | ((with_reducible refine w_lstOk (xs := ?xx) ?hh ?kk); (case hh => assumption))
  | ((with_reducible refine w_alL ?hh ?kk); (case hh => exact Nat.le_of_ble_eq_true rfl)) | ((with_reducible refine w_alT ?hh ?kk); (case hh => exact Nat.le_of_ble_eq_true rfl))
  | ((with_reducible refine w_lenL (xs := ?xx) ?hh ?kk); (case hh => assumption)) | ((with_reducible refine w_lenT (xs := ?xx) ?hh ?kk); (case hh => assumption))
  | ((with_reducible refine w_I ?hh ?kk); (case hh => first | (show _ ≠ (0 : Int); omega) | (show (0 : Int) < _; omega) | exact ⟨by omega, by omega⟩ | exact .inl ⟨by omega, by omega⟩ | exact .inr ⟨by omega, by omega⟩ | exact ⟨by decide, by decide, by decide⟩))
  | with_reducible refine w_din ?_ | with_reducible refine w_dnot ?_ | with_reducible refine w_dget ?_ | with_reducible refine w_dput ?_ | with_reducible refine w_fld ?_ | with_reducible refine w_sto ?_ | with_reducible refine w_meth ?_ | with_reducible refine w_pop1 ?_ | with_reducible refine w_pop2 ?_ | with_reducible refine w_ikeys ?_
  | ((with_reducible refine f_width (CW := ?v1) (dx := ?v2) (t := ?v3) (l := ?v4) (w := ?v5) (told := ?v6) (many := ?v7) ?tw ?hh ?kk); (case tw => assumption); (case hh => assumption))
  | ((with_reducible refine f_things (CW := ?v1) (dx := ?v2) (t := ?v3) (l := ?v4) (w := ?v5) (told := ?v6) (many := ?v7) ?tw ?hh ?kk); (case tw => assumption); (case hh => assumption))
  | ((with_reducible refine f_listening (CW := ?v1) (dx := ?v2) (t := ?v3) (l := ?v4) (w := ?v5) (told := ?v6) (many := ?v7) ?tw ?hh ?kk); (case tw => assumption); (case hh => assumption))
  | ((with_reducible refine f_tolds (CW := ?v1) (dx := ?v2) (t := ?v3) (l := ?v4) (w := ?v5) (b := ?v6) (many := ?v7) ?tw ?hh ?kk); (case tw => assumption); (case hh => assumption))
  | ((with_reducible refine f_told (CW := ?v1) (dx := ?v2) (t := ?v3) (l := ?v4) (w := ?v5) (told := ?v6) (many := ?v7) ?tw ?hh ?kk); (case tw => assumption); (case hh => assumption))
  | ((with_reducible refine f_many (CW := ?v1) (dx := ?v2) (t := ?v3) (l := ?v4) (w := ?v5) (told := ?v6) (many := ?v7) ?tw ?hh ?kk); (case tw => assumption); (case hh => assumption))
  | ((with_reducible refine w_ixL (v := ?vv) (xs := ?xx) ?hh ?h2 ?kk); (case hh => assumption); (case h2 => exact rfl)) | ((with_reducible refine w_ixT (v := ?vv) (xs := ?xx) ?hh ?h2 ?kk); (case hh => assumption); (case h2 => exact rfl)))
local macro_rules | `(tactic| tm_at "r") => `(tactic| repeat tm_at "s")
local macro_rules | `(tactic| tm_at "b") => `(tactic| first | refine w_iteT (by with_reducible rfl) ?_ | refine w_iteF (by with_reducible rfl) ?_ | refine w_iteT (by rfl) ?_ | refine w_iteF (by rfl) ?_)
local macro_rules | `(tactic| tm_at "e") => `(tactic| repeat (first | tm_at "s" | tm_at "b"))
local macro_rules | `(tactic| tm_at "s") => `(tactic| first
  | with_reducible refine w_gcons ?_ | with_reducible refine w_gnil ?_
  | ((with_reducible refine g_wire (CK := ?v1) (dx := ?v2) (a := ?v3) (c := ?v4) (r := ?v5) (said := ?v6) (n := ?v7) (s := ?v8) ?tw ?hh ?kk); (case tw => assumption); (case hh => assumption))
  | ((with_reducible refine g_kind (CK := ?v1) (dx := ?v2) (a := ?v3) (c := ?v4) (r := ?v5) (said := ?v6) (n := ?v7) (s := ?v8) ?tw ?hh ?kk); (case tw => assumption); (case hh => assumption))
  | ((with_reducible refine g_rest (CK := ?v1) (dx := ?v2) (a := ?v3) (c := ?v4) (r := ?v5) (said := ?v6) (n := ?v7) (s := ?v8) ?tw ?hh ?kk); (case tw => assumption); (case hh => assumption))
  | ((with_reducible refine g_saids (CK := ?v1) (dx := ?v2) (a := ?v3) (c := ?v4) (r := ?v5) (b := ?v6) (n := ?v7) (s := ?v8) ?tw ?hh ?kk); (case tw => assumption); (case hh => assumption))
  | ((with_reducible refine g_said (CK := ?v1) (dx := ?v2) (a := ?v3) (c := ?v4) (r := ?v5) (said := ?v6) (n := ?v7) (s := ?v8) ?tw ?hh ?kk); (case tw => assumption); (case hh => assumption))
  | ((with_reducible refine g_names (CK := ?v1) (dx := ?v2) (a := ?v3) (c := ?v4) (r := ?v5) (said := ?v6) (n := ?v7) (s := ?v8) ?tw ?hh ?kk); (case tw => assumption); (case hh => assumption))
  | ((with_reducible refine g_seen (CK := ?v1) (dx := ?v2) (a := ?v3) (c := ?v4) (r := ?v5) (said := ?v6) (n := ?v7) (s := ?v8) ?tw ?hh ?kk); (case tw => assumption); (case hh => assumption)))
local macro_rules | `(tactic| tm_at "s") => `(tactic| first
  | with_reducible refine w_pcons ?_ | with_reducible refine w_pnil ?_
  | ((with_reducible refine m_width (w := ?v1) (t := ?v2) (l := ?v3) (told := ?v4) (many := ?v5) ?hh ?kk); (case hh => assumption))
  | ((with_reducible refine m_things (w := ?v1) (t := ?v2) (l := ?v3) (told := ?v4) (many := ?v5) ?hh ?kk); (case hh => assumption))
  | ((with_reducible refine m_lis (w := ?v1) (t := ?v2) (l := ?v3) (told := ?v4) (many := ?v5) ?hh ?kk); (case hh => assumption))
  | ((with_reducible refine m_saids (w := ?v1) (t := ?v2) (l := ?v3) (b := ?v4) (many := ?v5) ?hh ?kk); (case hh => assumption))
  | ((with_reducible refine m_said (w := ?v1) (t := ?v2) (l := ?v3) (told := ?v4) (many := ?v5) ?hh ?kk); (case hh => assumption))
  | ((with_reducible refine m_looks (w := ?v1) (t := ?v2) (l := ?v3) (told := ?v4) (many := ?v5) ?hh ?kk); (case hh => assumption))
  | ((with_reducible refine j_kind (c := ?v1) (r := ?v2) (said := ?v3) (n := ?v4) (s := ?v5) ?hh ?kk); (case hh => assumption))
  | ((with_reducible refine j_rest (c := ?v1) (r := ?v2) (said := ?v3) (n := ?v4) (s := ?v5) ?hh ?kk); (case hh => assumption))
  | ((with_reducible refine j_saids (c := ?v1) (r := ?v2) (b := ?v3) (n := ?v4) (s := ?v5) ?hh ?kk); (case hh => assumption))
  | ((with_reducible refine j_said (c := ?v1) (r := ?v2) (said := ?v3) (n := ?v4) (s := ?v5) ?hh ?kk); (case hh => assumption))
  | ((with_reducible refine j_found (c := ?v1) (r := ?v2) (said := ?v3) (n := ?v4) (s := ?v5) ?hh ?kk); (case hh => assumption))
  | ((with_reducible refine j_paper (c := ?v1) (r := ?v2) (said := ?v3) (n := ?v4) (s := ?v5) ?hh ?kk); (case hh => assumption)))
namespace My
abbrev s_law_looked : Stmt := top 45
theorem sc_law_looked : FnScope ["_law_numbers", "_law_beginning", "_law_zero", "_law_one", "_law_number_here"] ["_law_numbers", "_law_beginning"] (defScope s_law_looked) := ⟨rfl, rfl, rfl, by decide +kernel, rfl, by decide +kernel, by decide +kernel⟩
section
variable (K : PySem.W.Frag)
def sp_looked : Sp := fun vs H Q _ => ∃ (p : Addr) (ls : List Bits) (b : Bits), vs = [.ref p, .str (B b)] ∧ SqL K H p (bvs ls) ∧ ls.length ≤ 1000 ∧ (∀ l ∈ ls, b.length < l.length ∧ l.length ≤ 1000) ∧
  ∀ (q : Addr) (H' : Hp), H q = none → Ext H H' → H' q = some (.tup [.bl (lookZ ls b false), .bl (lookZ ls b true)]) → Q (.ref q) H'
def sp_model : Sp := fun vs H Q _ => ∃ n : Nat, vs = [.int (n : Int)] ∧ ∀ (d t l : Addr) (H' : Hp), H d = none → H t = none → H l = none → Ext H H' → MAt d t l ⟨n, [], [], none, 0⟩ H' → Q (.ref d) H'
def sp_begun : Sp := fun vs H Q _ => ∃ (d t l : Addr) (M : WM) (c : Bool), vs = [.ref d, .str (kindS c)] ∧ MAt d t l M H ∧ WOk M ∧ ∀ (l' : Addr) (H' : Hp), MAt d t l' (M.begin c) H' → Step [d, t, l] [d, t, l'] H H' → Q .non H'
def sp_said : Sp := fun vs H Q _ => ∃ (d t l : Addr) (M : WM) (b : Bits) (c : Bool), vs = [.ref d, .int (bi c)] ∧ MAt d t l M H ∧ WOk M ∧ M.told = some b ∧ b.length < M.width ∧ ∀ (l' : Addr) (H' : Hp), MAt d t l' (M.say b c) H' → Step [d, t, l] [d, t, l'] H H' → Q .non H'
def sp_deed : Sp := fun vs H Q _ => ∃ (d t l : Addr) (M : WM) (wd : Str) (x : Bits), vs = [.ref d, .str wd, .str (B x)] ∧ MAt d t l M H ∧ WOk M ∧ M.things.length < 60 ∧ ∀ (l' : Addr) (H' : Hp), MAt d t l' (deedM M wd x).1 H' → Step [d, t, l] [d, t, l'] H H' → Q (.str (deedM M wd x).2) H'
end
theorem lookZ_take (ls : List Bits) (b : Bits) (c : Bool) {i : Nat} {x : Bits} (h : ls[i]? = some x) (hl : b.length < x.length) : lookZ (ls.take (i + 1)) b c = (lookZ (ls.take i) b c || (decide (b <+: x) && decide (x[b.length]? = some c))) := by
  have e : ls.take (i + 1) = ls.take i ++ [x] := by
    rw [List.take_succ, h]
    rfl
  unfold lookZ
  rw [e, List.any_append]
  congr 1
  simp only [List.any_cons, List.any_nil, Bool.or_false]
  rw [Bool.eq_iff_iff, Bool.and_eq_true, decide_eq_true_eq, decide_eq_true_eq, decide_eq_true_eq]
  constructor
  · intro h
    have hb := snoc_pre h
    exact ⟨hb, (one_more hb hl).mpr h⟩
  · rintro ⟨hb, h⟩
    exact (one_more hb hl).mp h
section
variable {P : Program} {w : World} {K : PySem.W.Frag} {mg : Str → Option Value} {base : Heap}
theorem ok_looked {f : Addr} {fd : FuncData} (F : Fun K "_law_looked" "_law_looked" s_law_looked f fd) (T : TxB mg) : FnOk P w K mg base (L2.CX P w) 1 f fd ["_law_numbers", "_law_beginning"] (sp_looked K) := by
  refine F.okX sc_law_looked (fun vs H Q E h => ?_) (fun cdv A outer s H vs Q E hr h => ⟨_, (pss_cons (ps_asg (pe_tup (pa_cons pe_bl (pa_cons pe_bl pa_nil))) (pg_tup rfl (pgs_cons (pg_name (i := 2) sc_law_looked.nd rfl (by first | exact Or.inl rfl | exact Or.inr rfl)) (pgs_cons (pg_name (i := 3) sc_law_looked.nd rfl (by first | exact Or.inl rfl | exact Or.inr rfl)) pgs_nil))))
 (pss_cons (ps_for (passes_of rfl) rfl (piL (K := K) rfl (pv 0)) (pg_name (i := 4) sc_law_looked.nd rfl (by first | exact Or.inl rfl | exact Or.inr rfl))
 (pss_one (ps_if (pt_cmpR op_eq (pe_slice sl_str (pv 4) po_none (po_some (pe_callB c_lenT (by rfl) T.n_len (by decide +kernel) (pa_cons (pv 1) pa_nil)))) (pv 1) (nomark _))
 (pss_cons (ps_set (i := 2) sc_law_looked.nd rfl (by first | exact Or.inl rfl | exact Or.inr rfl) (pe_or (pv 2) (pe_one (pe_cmpR op_eq (pe_ix ix_str (pv 4) (pe_callB c_lenT (by rfl) T.n_len (by decide +kernel) (pa_cons (pv 1) pa_nil)) (fun _ _ => rfl)) pe_str (nomark _)))))
 (pss_one (ps_set (i := 3) sc_law_looked.nd rfl (by first | exact Or.inl rfl | exact Or.inr rfl) (pe_or (pv 3) (pe_one (pe_cmpR op_eq (pe_ix ix_str (pv 4) (pe_callB c_lenT (by rfl) T.n_len (by decide +kernel) (pa_cons (pv 1) pa_nil)) (fun _ _ => rfl)) pe_str (nomark _)))))))
 pss_nil)))
 (pss_one (ps_ret (pe_tup (pa_cons (pv 2) (pa_cons (pv 3) pa_nil))))))), ?_⟩)
  · obtain ⟨p, ls, b, rfl, _⟩ := h
    rfl
  · obtain ⟨p, ls, b, rfl, hp, hz, hl, q⟩ := h
    tm_at "r"
    intro z H1 hz1 e1 hz2
    refine ⟨z, _, rfl, SqT.of hz2, rfl, ?_⟩
    tm_at "r"
    have hp1 := e1.seq (nsh_bvs ls) hp
    refine w_lstOk hp1 ?_
    refine forL (fun i σ2 H2 => ∃ v : Option V, σ2 = [some (.ref p), some (.str (B b)), some (.bl (lookZ (ls.take i) b false)), some (.bl (lookZ (ls.take i) b true)), v] ∧ H2 = H1) (fun i σ2 H2 ⟨v, _, e⟩ => by rw [e]; exact hp1) ⟨none, rfl, rfl⟩ ?_ ?_
    · rintro i x σ2 H2 NN hi ⟨v, rfl, rfl⟩ kN
      obtain ⟨l, hl1, rfl⟩ := bvs_get hi
      obtain ⟨h1, h2⟩ := hl l (List.mem_of_getElem? hl1)
      have e0 := lookZ_take ls b false hl1 h1
      have e1 := lookZ_take ls b true hl1 h1
      obtain ⟨c, hc⟩ : ∃ c, l[b.length]? = some c := ⟨l[b.length], List.getElem?_eq_getElem h1⟩
      tm_at "r"
      refine w_lenS (by rw [B_len]; omega) ?_
      rw [B_len]
      tm_at "r"
      refine w_slS (by rw [B_len]; omega) ?_
      rw [cutS_to]
      tm_at "r"
      have et : decide (B (l.take b.length) = B b) = decide (b <+: l) := by
        rw [Bool.eq_iff_iff, decide_eq_true_eq, decide_eq_true_eq, B_eq, List.prefix_iff_eq_take]
        exact ⟨fun h => h.symm, fun h => h.symm⟩
      rw [et]
      have fin : ∀ (o1 o2 : Bool), o1 = lookZ (ls.take (i + 1)) b false → o2 = lookZ (ls.take (i + 1)) b true → NN [some (.ref p), some (.str (B b)), some (.bl o1), some (.bl o2), some (.str (B l))] H2 := fun o1 o2 h3 h4 => by
        subst h3
        subst h4
        exact kN _ _ ⟨_, rfl, rfl⟩
      have d0 : decide (B [c] = B [false]) = decide (some c = some false) := by
        rw [Bool.eq_iff_iff, decide_eq_true_eq, decide_eq_true_eq, B_eq]
        simp
      have d1 : decide (B [c] = B [true]) = decide (some c = some true) := by
        rw [Bool.eq_iff_iff, decide_eq_true_eq, decide_eq_true_eq, B_eq]
        simp
      rw [hc] at e0 e1
      refine w_iteD (fun hb => ?_) fun hb => ?_
      · rw [decide_eq_true hb, Bool.true_and] at e0 e1
        tm_at "r"
        cases z0 : lookZ (ls.take i) b false <;> cases z1 : lookZ (ls.take i) b true
        all_goals rw [z0] at e0
        all_goals rw [z1] at e1
        all_goals tm_at "e"
        all_goals repeat (first | refine w_lenS (by rw [B_len]; omega) ?_ | refine w_ixS (by rw [B_len]; omega) (B_at (atI_k hc)) ?_ | rw [B_len] | rw [B_one] | rw [B_0] | rw [B_1] | rw [d0] | rw [d1] | tm_at "s" | tm_at "b")
        all_goals exact fin _ _ (by rw [e0]; simp) (by rw [e1]; simp)
      · rw [decide_eq_false hb, Bool.false_and, Bool.or_false] at e0 e1
        tm_at "r"
        exact fin _ _ e0.symm e1.symm
    · rintro σ2 H2 ⟨v, rfl, rfl⟩
      rw [bvs_len, List.take_length]
      tm_at "r"
      intro t H3 ht e3 ht3
      exact q t H3 (e1.free ht) (e1.trans e3) ht3
end
end My
end

section
set_option pp.maxSteps 700
open PySem L2 Lw
local macro_rules | `(tactic| tm_at "s") => `(tactic| first
  | with_reducible refine w_seq ?_ | with_reducible refine w_asg ?_ | with_reducible refine w_gname ?_ | with_reducible refine w_ret ?_ | with_reducible refine w_drop ?_ | with_reducible refine w_ifS ?_ | with_reducible refine w_next ?_ | with_reducible refine w_retN ?_
  | with_reducible refine w_c ?_ | ((with_reducible refine w_var (v := ?vv) ?hh ?kk); (case hh => exact rfl)) | with_reducible refine w_op ?_ | with_reducible refine w_un ?_ | with_reducible refine w_cons ?_ | with_reducible refine w_nil ?_ | with_reducible refine w_test ?_ | with_reducible refine w_B ?_
  | with_reducible refine w_isbl ?_ | with_reducible refine w_not ?_ | with_reducible refine w_and ?_ | with_reducible refine w_or ?_ | with_reducible refine w_andV ?_ | with_reducible refine w_orV ?_ | with_reducible refine w_notV ?_ | with_reducible refine w_if ?_ | with_reducible refine w_chain ?_
  | with_reducible refine w_isN ?_ | with_reducible refine w_notN ?_ | with_reducible refine w_yes ?_ | with_reducible refine w_call ?_ | with_reducible refine w_CB ?_ | with_reducible refine w_tup ?_ | with_reducible refine w_lst ?_ | with_reducible refine w_sl ?_ | with_reducible refine w_noPart ?_
  | with_reducible refine w_part ?_ | with_reducible refine w_isint ?_ | with_reducible refine w_gSub ?_ | with_reducible refine w_break ?_ | with_reducible refine w_cont ?_
  | with_reducible refine w_I0 ?_ | with_reducible refine w_eqI ?_ | with_reducible refine w_neI ?_ | with_reducible refine w_eqS ?_ | with_reducible refine w_neS ?_ | with_reducible refine w_eqB ?_ | with_reducible refine w_neB ?_ | ((with_reducible refine w_isi (d := ?dd) ?hh ?kk); (case hh => assumption))
  | with_reducible refine w_sg ?_ | with_reducible refine w_notSg ?_ | with_reducible refine w_starts ?_ | with_reducible refine w_max2 ?_ | with_reducible refine w_min2 ?_ | with_reducible refine w_intB ?_ | with_reducible refine w_intI ?_ | with_reducible refine w_bm ?_ | with_reducible refine w_bm0 ?_ | with_reducible refine w_m1 ?_ | with_reducible refine w_m0 ?_ | with_reducible refine w_isstr ?_
  | with_reducible refine w_for ?_ | with_reducible refine w_lc ?_ | with_reducible refine w_rng ?_ | with_reducible refine w_rng2 ?_ | with_reducible refine w_ilist ?_ | with_reducible refine w_itup ?_ | with_reducible refine w_istr ?_ | with_reducible refine w_strOk ?_
  | ((with_reducible refine w_rngOk ?hh ?h2 ?kk); (case hh => omega); (case h2 => omega)) | ((with_reducible refine w_lstOk (xs := ?xx) ?hh ?kk); (case hh => assumption))
  | ((with_reducible refine w_alL ?hh ?kk); (case hh => exact Nat.le_of_ble_eq_true rfl)) | ((with_reducible refine w_alT ?hh ?kk); (case hh => exact Nat.le_of_ble_eq_true rfl))
  | ((with_reducible refine w_lenL (xs := ?xx) ?hh ?kk); (case hh => assumption)) | ((with_reducible refine w_lenT (xs := ?xx) ?hh ?kk); (case hh => assumption))
  | ((with_reducible refine w_I ?hh ?kk); (case hh => first | (show _ ≠ (0 : Int); omega) | (show (0 : Int) < _; omega) | exact ⟨by omega, by omega⟩ | exact .inl ⟨by omega, by omega⟩ | exact .inr ⟨by omega, by omega⟩ | exact ⟨by decide, by decide, by decide⟩))
  | with_reducible refine w_din ?_ | with_reducible refine w_dnot ?_ | with_reducible refine w_dget ?_ | with_reducible refine w_dput ?_ | with_reducible refine w_fld ?_ | with_reducible refine w_sto ?_ | with_reducible refine w_meth ?_ | with_reducible refine w_pop1 ?_ | with_reducible refine w_pop2 ?_ | with_reducible refine w_ikeys ?_
  | ((with_reducible refine f_width (CW := ?v1) (dx := ?v2) (t := ?v3) (l := ?v4) (w := ?v5) (told := ?v6) (many := ?v7) ?tw ?hh ?kk); (case tw => assumption); (case hh => assumption))
  | ((with_reducible refine f_things (CW := ?v1) (dx := ?v2) (t := ?v3) (l := ?v4) (w := ?v5) (told := ?v6) (many := ?v7) ?tw ?hh ?kk); (case tw => assumption); (case hh => assumption))
  | ((with_reducible refine f_listening (CW := ?v1) (dx := ?v2) (t := ?v3) (l := ?v4) (w := ?v5) (told := ?v6) (many := ?v7) ?tw ?hh ?kk); (case tw => assumption); (case hh => assumption))
  | ((with_reducible refine f_tolds (CW := ?v1) (dx := ?v2) (t := ?v3) (l := ?v4) (w := ?v5) (b := ?v6) (many := ?v7) ?tw ?hh ?kk); (case tw => assumption); (case hh => assumption))
  | ((with_reducible refine f_told (CW := ?v1) (dx := ?v2) (t := ?v3) (l := ?v4) (w := ?v5) (told := ?v6) (many := ?v7) ?tw ?hh ?kk); (case tw => assumption); (case hh => assumption))
  | ((with_reducible refine f_many (CW := ?v1) (dx := ?v2) (t := ?v3) (l := ?v4) (w := ?v5) (told := ?v6) (many := ?v7) ?tw ?hh ?kk); (case tw => assumption); (case hh => assumption))
  | ((with_reducible refine w_ixL (v := ?vv) (xs := ?xx) ?hh ?h2 ?kk); (case hh => assumption); (case h2 => exact rfl)) | ((with_reducible refine w_ixT (v := ?vv) (xs := ?xx) ?hh ?h2 ?kk); (case hh => assumption); (case h2 => exact rfl)))
local macro_rules | `(tactic| tm_at "r") => `(tactic| repeat tm_at "s")
local macro_rules | `(tactic| tm_at "b") => `(tactic| first | refine w_iteT (by with_reducible rfl) ?_ | refine w_iteF (by with_reducible rfl) ?_ | refine w_iteT (by rfl) ?_ | refine w_iteF (by rfl) ?_)
local macro_rules | `(tactic| tm_at "e") => `(tactic| repeat (first | tm_at "s" | tm_at "b"))
local macro_rules | `(tactic| tm_at "s") => `(tactic| ((with_reducible refine w_isE (b := ?bb) ?hh ?kk); (case hh => assumption)))
namespace My
abbrev s_law_word : Stmt := top 40
theorem sc_law_word : FnScope ["_law_work", "e", "_law_kinds", "_law_words", "_law_word_here"] ["_law_work"] (defScope s_law_word) := ⟨rfl, rfl, rfl, by decide +kernel, rfl, by decide +kernel, by decide +kernel⟩
end My
local macro_rules | `(tactic| tm_at "s") => `(tactic| ((with_reducible refine w_isE (b := ?bb) ?hh ?kk); (case hh => assumption)))
namespace My
theorem gives_wordR (X : Cx) {K : PySem.W.Frag} {mg : Str → Option Value} (hK : X.K = K) (hmg : X.mg = mg) (T : TxB mg) (g : Kinds K mg) (f0 : Addr) (cdv : Value) :
    GivesR X ["_law_work", "e", "_law_kinds", "_law_words", "_law_word_here"] "_law_word" (defScope s_law_word) f0 cdv (defBody s_law_word) "_law_work" (TWord g) := by
  subst hK
  subst hmg
  intro R f s H Q tl act hc h
  refine ⟨_, pss_cons (ps_try_as (X := (cxOf C8.CX0 X.prog X.w X.K X.mg X.base ["_law_work", "e", "_law_kinds", "_law_words", "_law_word_here"] "_law_word" (defScope s_law_word) f0 cdv X.A X.stack s H C8.E0).nox) (i := 1) (c := .ref g.c_BusError) (Wout := fun _ _ _ _ => False)
      (tb := fun W D σ H => ∃ Ech : XK, (∀ cls d σ' H', Ech cls d H' → W cls d σ' H') ∧ σ[0]? = some (some (.ref f)) ∧ R H ∧ tl Ech H (fun _ H' => D.nx σ H'))
      (ts := fun a cls d D σ H => (∃ σ0 : St, σ = σ0.set 1 (some (.ref a))) ∧ WordOk g cls d H D.rt)
      rfl rfl sc_law_word.nd rfl rfl ⟨rfl, by decide, .inl g.m_BusError⟩ LamX.takes0 (fun W pn xe tk _ => ?_) (fun a oe cls d pn hz hf => ?_)) (pss_one (ps_ret pe_str)), ?_⟩
  · refine ⟨fun pins s' σ H' D I h' => ?_⟩
    obtain ⟨Ech, hW, h1, h2, h3⟩ := h'
    exact (pss_one (ps_expr (act W pn xe Ech _ _ tk hW))).run pins s' σ H' D I ⟨h1, h2, h3⟩
  · refine suite_by fun D σ2 H2 hlen h2 => ?_
    obtain ⟨⟨σ0, hσ⟩, i, c, x, hci, hxi, n9, n13, n14, rfl, rfl, k2⟩ := h2
    subst hσ
    rw [List.length_set] at hlen
    obtain ⟨y0, y1, y2, y3, y4, rfl⟩ := five hlen
    clear hlen
    rw [show List.set [y0, y1, y2, y3, y4] 1 (some (V.ref a)) = [y0, some (V.ref a), y2, y3, y4] from rfl]
    have hi15 : i < 15 := (List.getElem?_eq_some_iff.mp hxi).1
    obtain ⟨hv, hC, _⟩ := g.kv c (List.mem_of_getElem? hci)
    have h0 := g.kk i 0 c _ hci rfl
    have h1 := g.kk i 1 c _ hci rfl
    have h2 := g.kk i 2 c _ hci rfl
    have h3 := g.kk i 3 c _ hci rfl
    have h4 := g.kk i 4 c _ hci rfl
    have h5 := g.kk i 5 c _ hci rfl
    have h6 := g.kk i 6 c _ hci rfl
    have h7 := g.kk i 7 c _ hci rfl
    have h8 := g.kk i 8 c _ hci rfl
    have h9 := g.kk i 9 c _ hci rfl
    have h10 := g.kk i 10 c _ hci rfl
    have h11 := g.kk i 11 c _ hci rfl
    have h12 := g.kk i 12 c _ hci rfl
    have h13 := g.kk i 13 c _ hci rfl
    have h14 := g.kk i 14 c _ hci rfl
    refine ⟨_, (pss_cons (ps_set (i := 2) sc_law_word.nd rfl (by first | exact Or.inl rfl | exact Or.inr rfl) (pe_lst (pa_cons (pe_callB (cIsE (K := X.K) rfl hC hz hf) (by rfl) T.n_isinstance (by decide +kernel) (pa_cons (pv 1) (pa_cons (pe_glob (v := .ref g.c_BadWidth) rfl g.m_BadWidth rfl) pa_nil))) (pa_cons (pe_callB (cIsE (K := X.K) rfl hC hz hf) (by rfl) T.n_isinstance (by decide +kernel) (pa_cons (pv 1) (pa_cons (pe_glob (v := .ref g.c_BadNumber) rfl g.m_BadNumber rfl) pa_nil))) (pa_cons (pe_callB (cIsE (K := X.K) rfl hC hz hf) (by rfl) T.n_isinstance (by decide +kernel) (pa_cons (pv 1) (pa_cons (pe_glob (v := .ref g.c_BadKind) rfl g.m_BadKind rfl) pa_nil))) (pa_cons (pe_callB (cIsE (K := X.K) rfl hC hz hf) (by rfl) T.n_isinstance (by decide +kernel) (pa_cons (pv 1) (pa_cons (pe_glob (v := .ref g.c_BadBit) rfl g.m_BadBit rfl) pa_nil))) pa_nil))))))
 (pss_cons (ps_set (i := 2) sc_law_word.nd rfl (by first | exact Or.inl rfl | exact Or.inr rfl) (pe_op op_cat (pv 2) (pe_lst (pa_cons (pe_callB (cIsE (K := X.K) rfl hC hz hf) (by rfl) T.n_isinstance (by decide +kernel) (pa_cons (pv 1) (pa_cons (pe_glob (v := .ref g.c_There) rfl g.m_There rfl) pa_nil))) (pa_cons (pe_callB (cIsE (K := X.K) rfl hC hz hf) (by rfl) T.n_isinstance (by decide +kernel) (pa_cons (pv 1) (pa_cons (pe_glob (v := .ref g.c_NotThere) rfl g.m_NotThere rfl) pa_nil))) (pa_cons (pe_callB (cIsE (K := X.K) rfl hC hz hf) (by rfl) T.n_isinstance (by decide +kernel) (pa_cons (pv 1) (pa_cons (pe_glob (v := .ref g.c_NoRound) rfl g.m_NoRound rfl) pa_nil))) (pa_cons (pe_callB (cIsE (K := X.K) rfl hC hz hf) (by rfl) T.n_isinstance (by decide +kernel) (pa_cons (pv 1) (pa_cons (pe_glob (v := .ref g.c_Over) rfl g.m_Over rfl) pa_nil))) pa_nil)))))))
 (pss_cons (ps_set (i := 2) sc_law_word.nd rfl (by first | exact Or.inl rfl | exact Or.inr rfl) (pe_op op_cat (pv 2) (pe_lst (pa_cons (pe_callB (cIsE (K := X.K) rfl hC hz hf) (by rfl) T.n_isinstance (by decide +kernel) (pa_cons (pv 1) (pa_cons (pe_glob (v := .ref g.c_Busy) rfl g.m_Busy rfl) pa_nil))) (pa_cons (pe_callB (cIsE (K := X.K) rfl hC hz hf) (by rfl) T.n_isinstance (by decide +kernel) (pa_cons (pv 1) (pa_cons (pe_glob (v := .ref g.c_BadLooks) rfl g.m_BadLooks rfl) pa_nil))) (pa_cons (pe_callB (cIsE (K := X.K) rfl hC hz hf) (by rfl) T.n_isinstance (by decide +kernel) (pa_cons (pv 1) (pa_cons (pe_glob (v := .ref g.c_BadRoster) rfl g.m_BadRoster rfl) pa_nil))) pa_nil))))))
 (pss_cons (ps_set (i := 2) sc_law_word.nd rfl (by first | exact Or.inl rfl | exact Or.inr rfl) (pe_op op_cat (pv 2) (pe_lst (pa_cons (pe_callB (cIsE (K := X.K) rfl hC hz hf) (by rfl) T.n_isinstance (by decide +kernel) (pa_cons (pv 1) (pa_cons (pe_glob (v := .ref g.c_TooMany) rfl g.m_TooMany rfl) pa_nil))) (pa_cons (pe_callB (cIsE (K := X.K) rfl hC hz hf) (by rfl) T.n_isinstance (by decide +kernel) (pa_cons (pv 1) (pa_cons (pe_glob (v := .ref g.c_BadPlan) rfl g.m_BadPlan rfl) pa_nil))) (pa_cons (pe_callB (cIsE (K := X.K) rfl hC hz hf) (by rfl) T.n_isinstance (by decide +kernel) (pa_cons (pv 1) (pa_cons (pe_glob (v := .ref g.c_BadStep) rfl g.m_BadStep rfl) pa_nil))) (pa_cons (pe_callB (cIsE (K := X.K) rfl hC hz hf) (by rfl) T.n_isinstance (by decide +kernel) (pa_cons (pv 1) (pa_cons (pe_glob (v := .ref g.c_BadText) rfl g.m_BadText rfl) pa_nil))) pa_nil)))))))
 (pss_cons (ps_if (PW.pt (pw_or (pt_cmpR op_ne (pBm (K := X.K) rfl PySem.F.plainAttrs_list PySem.F.slot_list_count PySem.F.type_list_count (mtCount (K := X.K) rfl) (pv 2) (pa_cons pe_bl pa_nil)) pe_int (nomark _)) (pw_or1 (pt_not (pt_val (pe_callB (cIsE (K := X.K) rfl hC hz hf) (by rfl) T.n_isinstance (by decide +kernel) (pa_cons (pv 1) (pa_cons (pe_bltn (v := .ty "ValueError") rfl T.n_ValueError (by decide +kernel) rfl) pa_nil))))))))
 (pss_one (ps_ret pe_str))
 pss_nil)
 (pss_cons (ps_set (i := 3) sc_law_word.nd rfl (by first | exact Or.inl rfl | exact Or.inr rfl) (pe_lst (pa_cons pe_str (pa_cons pe_str (pa_cons pe_str (pa_cons pe_str (pa_cons pe_str (pa_cons pe_str (pa_cons pe_str (pa_cons pe_str (pa_cons pe_str (pa_cons pe_str (pa_cons pe_str (pa_cons pe_str pa_nil))))))))))))))
 (pss_cons (ps_set (i := 4) sc_law_word.nd rfl (by first | exact Or.inl rfl | exact Or.inr rfl) (pe_ix (ixL (K := X.K) rfl) (pe_op op_cat (pv 3) (pe_lst (pa_cons pe_str (pa_cons pe_str (pa_cons pe_str pa_nil))))) (pBm (K := X.K) rfl PySem.F.plainAttrs_list PySem.F.slot_list_index PySem.F.type_list_index (mtIndex (K := X.K) rfl) (pv 2) (pa_cons pe_bl pa_nil)) (fun _ _ => rfl)))
 (pss_cons (ps_if (pt_cmpR (oIn (K := X.K) rfl) (pv 4) (pe_tup (pa_cons pe_str (pa_cons pe_str pa_nil))) (by rfl))
 (pss_one (ps_ret (pe_tup (pa_cons (pv 4) (pa_cons pe_nev pa_nil)))))
 pss_nil)
 (pss_one (ps_ret (pe_ifExp (pt_cmpR op_eq (pv 4) pe_str (nomark _)) (pe_tup (pa_cons (pv 4) (pa_cons pe_nev pa_nil))) (pv 4)))))))))))), ?_⟩
    tm_at "r"
    intro p1 H3 _ e3 hp1
    tm_at "r"
    intro p2 H4 _ e4 hp2
    have hp1 := e4.st _ _ hp1 (nsh_of fun a i m z e => by cases e)
    refine w_cat hp1 hp2 (by show 8 ≤ 100000; decide) fun p3 H5 _ e5 hp3 => ?_
    tm_at "r"
    intro p4 H6 _ e6 hp4
    have hp3 := e6.st _ _ hp3 (nsh_of fun a i m z e => by cases e)
    refine w_cat hp3 hp4 (by show 11 ≤ 100000; decide) fun p5 H7 _ e7 hp5 => ?_
    tm_at "r"
    intro p6 H8 _ e8 hp6
    have hp5 := e8.st _ _ hp5 (nsh_of fun a i m z e => by cases e)
    refine w_cat hp5 hp6 (by show 15 ≤ 100000; decide) fun p7 H9 _ e9 hp7 => ?_
    have hp7 : H9 p7 = some (.lst (kbs i)) := hp7
    have nk : ¬ RowSh (.lst (kbs i)) := nsh_of fun a b m z e => by
      have := congrArg (fun o => match o with | HO.lst xs => xs.length | _ => 0) e
      cases this
    clear hp1 hp2 hp3 hp4 hp5 hp6
    tm_at "r"
    refine w_tyL (SqL.of hp7) ?_
    tm_at "r"
    refine w_lcount (SqL.of hp7) rfl (kbs_flat i) ?_
    rw [kbs_count hi15]
    tm_at "r"
    tm_at "b"
    tm_at "r"
    refine w_isET hv ?_
    tm_at "r"
    tm_at "b"
    tm_at "r"
    intro p8 H10 _ e10 hp8
    tm_at "r"
    intro p9 H11 _ e11 hp9
    have hp8 := e11.st _ _ hp8 (nsh_of fun a i m z e => by cases e)
    refine w_cat hp8 hp9 (by show 15 ≤ 100000; decide) fun p10 H12 _ e12 hp10 => ?_
    have hp10 : H12 p10 = some (.lst (wordsL.map V.str)) := hp10
    have hp7 := e12.st _ _ (e11.st _ _ (e10.st _ _ hp7 nk) nk) nk
    tm_at "r"
    refine w_tyL (SqL.of hp7) ?_
    tm_at "r"
    refine w_lindex (SqL.of hp7) rfl (kbs_flat i) (kbs_at hi15) rfl (fun m z hm hz => kbs_no hm hz) ?_
    refine w_ixL (v := .str x) (SqL.of hp10) (atI_k (by rw [List.getElem?_map, hxi]; rfl)) ?_
    have en : x ≠ "looks" ∧ x ≠ "step" ∧ x ≠ "text" := by
      have key : ∀ i : Nat, i < 15 → i ≠ 9 → i ≠ 13 → i ≠ 14 → ∀ x : Str, wordsL[i]? = some x → x ≠ "looks" ∧ x ≠ "step" ∧ x ≠ "text" := by
        intro i hi a b c x hx
        have : i = 0 ∨ i = 1 ∨ i = 2 ∨ i = 3 ∨ i = 4 ∨ i = 5 ∨ i = 6 ∨ i = 7 ∨ i = 8 ∨ i = 10 ∨ i = 11 ∨ i = 12 := by omega
        rcases this with rfl | rfl | rfl | rfl | rfl | rfl | rfl | rfl | rfl | rfl | rfl | rfl
        all_goals
          have e := Option.some.inj hx
          subst e
          decide +kernel
      exact key i hi15 n9 n13 n14 x hxi
    have ei : inV (.str x) [V.str "looks", V.str "step"] = false := by
      simp only [inV, List.any_cons, List.any_nil, Bool.or_false, eqV]
      rw [Bool.or_eq_false_iff]
      exact ⟨beq_eq_false_iff_ne.mpr (Ne.symm en.1), beq_eq_false_iff_ne.mpr (Ne.symm en.2.1)⟩
    tm_at "r"
    intro p11 H13 _ e13 hp11
    refine w_inT (SqT.of hp11) rfl rfl ?_
    rw [ei]
    tm_at "r"
    tm_at "b"
    tm_at "r"
    rw [decide_eq_false en.2.2]
    tm_at "r"
    tm_at "b"
    tm_at "r"
    exact k2 _ ((((((((((e3.trans e4).trans e5).trans e6).trans e7).trans e8).trans e9).trans e10).trans e11).trans e12).trans e13)
  · refine ⟨fun cls d H' => WordOk g cls d H' Q, fun cls d σ' H' hw => ?_, rfl, hc, ?_⟩
    · have hw2 := hw
      obtain ⟨i, c, x, hci, hxi, n9, n13, n14, rfl, rfl, k2⟩ := hw
      obtain ⟨hv, hC, hx⟩ := g.kv c (List.mem_of_getElem? hci)
      exact ⟨true, hx, fun _ a _ => ⟨⟨σ', rfl⟩, hw2⟩, fun h => by cases h⟩
    · exact h
end My
end

section
set_option pp.maxSteps 700
open PySem L2 Lw
local macro_rules | `(tactic| tm_at "s") => `(tactic| first
  | with_reducible refine w_seq ?_ | with_reducible refine w_asg ?_ | with_reducible refine w_gname ?_ | with_reducible refine w_ret ?_ | with_reducible refine w_drop ?_ | with_reducible refine w_ifS ?_ | with_reducible refine w_next ?_ | with_reducible refine w_retN ?_
  | with_reducible refine w_c ?_ | ((with_reducible refine w_var (v := ?vv) ?hh ?kk); (case hh => exact rfl)) | with_reducible refine w_op ?_ | with_reducible refine w_un ?_ | with_reducible refine w_cons ?_ | with_reducible refine w_nil ?_ | with_reducible refine w_test ?_ | with_reducible refine w_B ?_
  | with_reducible refine w_isbl ?_ | with_reducible refine w_not ?_ | with_reducible refine w_and ?_ | with_reducible refine w_or ?_ | with_reducible refine w_andV ?_ | with_reducible refine w_orV ?_ | with_reducible refine w_notV ?_ | with_reducible refine w_if ?_ | with_reducible refine w_chain ?_
  | with_reducible refine w_isN ?_ | with_reducible refine w_notN ?_ | with_reducible refine w_yes ?_ | with_reducible refine w_call ?_ | with_reducible refine w_CB ?_ | with_reducible refine w_tup ?_ | with_reducible refine w_lst ?_ | with_reducible refine w_sl ?_ | with_reducible refine w_noPart ?_
  | with_reducible refine w_part ?_ | with_reducible refine w_isint ?_ | with_reducible refine w_gSub ?_ | with_reducible refine w_break ?_ | with_reducible refine w_cont ?_
  | with_reducible refine w_I0 ?_ | with_reducible refine w_eqI ?_ | with_reducible refine w_neI ?_ | with_reducible refine w_eqS ?_ | with_reducible refine w_neS ?_ | with_reducible refine w_eqB ?_ | with_reducible refine w_neB ?_ | ((with_reducible refine w_isi (d := ?dd) ?hh ?kk); (case hh => assumption))
  | with_reducible refine w_sg ?_ | with_reducible refine w_notSg ?_ | with_reducible refine w_starts ?_ | with_reducible refine w_max2 ?_ | with_reducible refine w_min2 ?_ | with_reducible refine w_intB ?_ | with_reducible refine w_intI ?_ | with_reducible refine w_bm ?_ | with_reducible refine w_bm0 ?_ | with_reducible refine w_m1 ?_ | with_reducible refine w_m0 ?_ | with_reducible refine w_isstr ?_
  | with_reducible refine w_for ?_ | with_reducible refine w_lc ?_ | with_reducible refine w_rng ?_ | with_reducible refine w_rng2 ?_ | with_reducible refine w_ilist ?_ | with_reducible refine w_itup ?_ | with_reducible refine w_istr ?_ | with_reducible refine w_strOk ?_
  | ((with_reducible refine w_rngOk ?hh ?h2 ?kk); (case hh => omega); (case h2 => omega)) | ((with_reducible refine w_lstOk (xs := ?xx) ?hh ?kk); (case hh => assumption))
  | ((with_reducible refine w_alL ?hh ?kk); (case hh => exact Nat.le_of_ble_eq_true rfl)) | ((with_reducible refine w_alT ?hh ?kk); (case hh => exact Nat.le_of_ble_eq_true rfl))
  | ((with_reducible refine w_lenL (xs := ?xx) ?hh ?kk); (case hh => assumption)) | ((with_reducible refine w_lenT (xs := ?xx) ?hh ?kk); (case hh => assumption))
  | ((with_reducible refine w_I ?hh ?kk); (case hh => first | (show _ ≠ (0 : Int); omega) | (show (0 : Int) < _; omega) | exact ⟨by omega, by omega⟩ | exact .inl ⟨by omega, by omega⟩ | exact .inr ⟨by omega, by omega⟩ | exact ⟨by decide, by decide, by decide⟩))
  | with_reducible refine w_din ?_ | with_reducible refine w_dnot ?_ | with_reducible refine w_dget ?_ | with_reducible refine w_dput ?_ | with_reducible refine w_fld ?_ | with_reducible refine w_sto ?_ | with_reducible refine w_meth ?_ | with_reducible refine w_pop1 ?_ | with_reducible refine w_pop2 ?_ | with_reducible refine w_ikeys ?_
  | ((with_reducible refine f_width (CW := ?v1) (dx := ?v2) (t := ?v3) (l := ?v4) (w := ?v5) (told := ?v6) (many := ?v7) ?tw ?hh ?kk); (case tw => assumption); (case hh => assumption))
  | ((with_reducible refine f_things (CW := ?v1) (dx := ?v2) (t := ?v3) (l := ?v4) (w := ?v5) (told := ?v6) (many := ?v7) ?tw ?hh ?kk); (case tw => assumption); (case hh => assumption))
  | ((with_reducible refine f_listening (CW := ?v1) (dx := ?v2) (t := ?v3) (l := ?v4) (w := ?v5) (told := ?v6) (many := ?v7) ?tw ?hh ?kk); (case tw => assumption); (case hh => assumption))
  | ((with_reducible refine f_tolds (CW := ?v1) (dx := ?v2) (t := ?v3) (l := ?v4) (w := ?v5) (b := ?v6) (many := ?v7) ?tw ?hh ?kk); (case tw => assumption); (case hh => assumption))
  | ((with_reducible refine f_told (CW := ?v1) (dx := ?v2) (t := ?v3) (l := ?v4) (w := ?v5) (told := ?v6) (many := ?v7) ?tw ?hh ?kk); (case tw => assumption); (case hh => assumption))
  | ((with_reducible refine f_many (CW := ?v1) (dx := ?v2) (t := ?v3) (l := ?v4) (w := ?v5) (told := ?v6) (many := ?v7) ?tw ?hh ?kk); (case tw => assumption); (case hh => assumption))
  | ((with_reducible refine w_ixL (v := ?vv) (xs := ?xx) ?hh ?h2 ?kk); (case hh => assumption); (case h2 => exact rfl)) | ((with_reducible refine w_ixT (v := ?vv) (xs := ?xx) ?hh ?h2 ?kk); (case hh => assumption); (case h2 => exact rfl)))
local macro_rules | `(tactic| tm_at "r") => `(tactic| repeat tm_at "s")
local macro_rules | `(tactic| tm_at "b") => `(tactic| first | refine w_iteT (by with_reducible rfl) ?_ | refine w_iteF (by with_reducible rfl) ?_ | refine w_iteT (by rfl) ?_ | refine w_iteF (by rfl) ?_)
local macro_rules | `(tactic| tm_at "e") => `(tactic| repeat (first | tm_at "s" | tm_at "b"))
namespace My
abbrev s_law_met : Stmt := top 46
theorem sc_law_met : FnScope ["_law_width_here", "_law_numbers", "_law_found", "_law_number_here", "_law_many"] ["_law_width_here", "_law_numbers"] (defScope s_law_met) := ⟨rfl, rfl, rfl, by decide +kernel, rfl, by decide +kernel, by decide +kernel⟩
def sp_met (K : PySem.W.Frag) : Sp := fun vs H Q _ => ∃ (n : Nat) (p : Addr) (ls : List Bits), vs = [.int (n : Int), .ref p] ∧ 1 ≤ n ∧ n ≤ 12 ∧ SqL K H p (bvs ls) ∧ ls.length ≤ 40 ∧ (∀ x ∈ ls, x.length = n) ∧
  ∀ (us : List Bits) (q : Addr) (H' : Hp), H q = none → Ext H H' → H' q = some (.lst (bvs us)) → Rise us → (∀ b, b ∈ us ↔ Beg ls b ∧ b.length < n) → Q (.ref q) H'
theorem pre_takes {u b : Bits} {n : Nat} (hu : u.length = n) : b <+: u ∧ b.length < n ∧ b ≠ [] ↔ ∃ k, k < n - 1 ∧ b = u.take (k + 1) := by
  constructor
  · rintro ⟨h1, h2, h3⟩
    have h4 : 0 < b.length := List.length_pos_iff.mpr h3
    refine ⟨b.length - 1, by omega, ?_⟩
    rw [show b.length - 1 + 1 = b.length by omega]
    exact List.prefix_iff_eq_take.mp h1
  · rintro ⟨k, hk, rfl⟩
    have hl : (u.take (k + 1)).length = k + 1 := by rw [List.length_take]; omega
    exact ⟨List.take_prefix _ _, by omega, fun e => by rw [e] at hl; cases hl⟩
section
variable {P : Program} {w : World} {K : PySem.W.Frag} {mg : Str → Option Value} {base : Heap}
theorem ok_met {f : Addr} {fd : FuncData} (F : Fun K "_law_met" "_law_met" s_law_met f fd) (T : TxB mg) : FnOk P w K mg base (L2.CX P w) 1 f fd ["_law_width_here", "_law_numbers"] (sp_met K) := by
  refine F.okX sc_law_met (fun vs H Q E h => ?_) (fun cdv A outer s H vs Q E hr h => ⟨_, (pss_cons (ps_set (i := 2) sc_law_met.nd rfl (by first | exact Or.inl rfl | exact Or.inr rfl) (pe_lst (pa_cons pe_str pa_nil)))
 (pss_cons (ps_for (passes_of rfl) rfl (piL (K := K) rfl (pv 1)) (pg_name (i := 3) sc_law_met.nd rfl (by first | exact Or.inl rfl | exact Or.inr rfl))
 (pss_one (ps_expr (pBm (K := K) rfl PySem.F.plainAttrs_list PySem.F.slot_list_extend PySem.F.type_list_extend mt_extend (pv 2) (pa_cons (pe_lc (own := [("_law_many", 4)]) (g := gName 4) (tt := tYes) rfl sc_law_met.nd (pi_range2 rfl T.n_range (pa_cons pe_int (pa_cons (pv 0) pa_nil))) (blkOk_by (own := [("_law_many", 4)]) (N := ["_law_width_here", "_law_numbers", "_law_found", "_law_number_here", "_law_many"]) (sc := defScope s_law_met) (by decide +kernel)) (fun _ _ _ _ _ => pg_name (i := 4) sc_law_met.nd rfl (Or.inl rfl)) (fun _ _ _ _ _ => pts_nil) (fun _ _ _ _ _ => (pe_slice sl_str (pv 3) po_none (po_some (pv 4))))) pa_nil)))))
 (pss_one (ps_ret (pe_callB (Lu.cSortSetT (w := w) rfl rfl) (by rfl) T.n_sorted (by decide +kernel) (pa_cons (pe_callTy (Lu.cSetT (K := K) (w := w) rfl rfl rfl) (by rfl) T.n_set (by decide +kernel) (pa_cons (pv 2) pa_nil)) pa_nil)))))), ?_⟩)
  · obtain ⟨n, p, ls, rfl, _⟩ := h
    rfl
  · obtain ⟨n, p, ls, rfl, hn1, hn2, hp, hl40, hlen, q⟩ := h
    tm_at "r"
    intro z H1 hz e1 hz1
    have hz1 : H1 z = some (.lst (bvs [[]])) := by rw [hz1, B_nil]; rfl
    tm_at "r"
    refine w_lstOk (e1.seq (nsh_bvs _) hp) ?_
    refine forL (fun i σ H2 => ∃ (v3 : Option V) (acc : List Bits), σ = [some (.int (n : Int)), some (.ref p), some (.ref z), v3, none] ∧ Ext H H2 ∧ H2 z = some (.lst (bvs acc)) ∧ acc.length ≤ 1 + i * 11 ∧ ∀ b, b ∈ acc ↔ b = [] ∨ ∃ x ∈ ls.take i, b <+: x ∧ b.length < n ∧ b ≠ [])
      (fun i σ H2 ⟨_, _, _, e, _⟩ => e.seq (nsh_bvs _) hp) ⟨_, [[]], rfl, e1, hz1, by simp, fun b => by simp⟩ ?_ ?_
    · rintro i x σ H2 NN hi ⟨v3, acc, rfl, e2, hz2, hal, hm⟩ kN
      obtain ⟨u, hu, rfl⟩ := bvs_get hi
      have hil : i < ls.length := (List.getElem?_eq_some_iff.mp hu).1
      have hul := hlen u (List.mem_of_getElem? hu)
      tm_at "r"
      refine w_tyL (SqL.of hz2) ?_
      tm_at "r"
      refine w_rngOk2 ⟨by omega, by omega⟩ ⟨by omega, by omega⟩ ?_
      refine lcN (n := n - 1) (src := by rw [show ((n : Int) - 1).toNat = n - 1 by omega]; exact src_rng) (fun k a2 => a2 = bvs ((List.range k).map fun j => u.take (j + 1))) rfl (fun k a2 h => by rw [h]; exact nsh_bvs _) (by omega) (fun _ => rfl) (fun k x a2 H3 NE hk hx ha e3 kE => ?_) fun q2 a2 H3 ha hq2 e3 hq2' _ => ?_
      · have hx : x = V.int (1 + (k : Int)) := hx
        subst hx
        tm_at "r"
        refine w_slS (by rw [B_len]; omega) ?_
        rw [show (1 + (k : Int)) = ((k + 1 : Nat) : Int) by omega, cutS_to]
        refine kE _ H3 (Ext.refl _) ?_
        rw [ha, List.range_succ, List.map_append]
        exact bvs_snoc _ _
      · subst ha
        have hz3 := e3.st _ _ hz2 (nsh_bvs _)
        have hnl : ((List.range (n - 1)).map fun j => u.take (j + 1)).length = n - 1 := by simp
        tm_at "r"
        refine ⟨z, q2, _, _, rfl, rfl, hz3, hq2', ?_, ?_⟩
        · rw [bvs_len, bvs_len, hnl]
          have : i * 11 ≤ 40 * 11 := Nat.mul_le_mul (by omega) (Nat.le_refl _)
          exact Nat.le_trans (by omega : acc.length + (n - 1) ≤ 1000) (by decide)
        · rw [bvs_append]
          refine kN _ _ ⟨_, _, rfl, (e2.trans e3).mut hz, upd_same, ?_, fun b => ?_⟩
          · rw [List.length_append, hnl]
            omega
          · rw [List.mem_append, hm b, List.take_succ, hu]
            have key : b ∈ ((List.range (n - 1)).map fun j => u.take (j + 1)) ↔ b <+: u ∧ b.length < n ∧ b ≠ [] := by
              rw [pre_takes hul, List.mem_map]
              constructor
              · rintro ⟨j, hj, e⟩
                exact ⟨j, List.mem_range.mp hj, e.symm⟩
              · rintro ⟨j, hj, e⟩
                exact ⟨j, List.mem_range.mpr hj, e.symm⟩
            rw [key]
            constructor
            · rintro ((h | ⟨x, hx, h⟩) | h)
              · exact .inl h
              · exact .inr ⟨x, List.mem_append_left _ hx, h⟩
              · exact .inr ⟨u, List.mem_append_right _ (by simp), h⟩
            · rintro (h | ⟨x, hx, h⟩)
              · exact .inl (.inl h)
              · rcases List.mem_append.mp hx with hx | hx
                · exact .inl (.inr ⟨x, hx, h⟩)
                · have hx : x = u := by simpa using hx
                  rw [hx] at h
                  exact .inr h
    · rintro σ H2 ⟨v3, acc, rfl, e2, hz2, hal, hm⟩
      rw [bvs_len] at hal hm
      rw [List.take_length] at hm
      tm_at "r"
      refine Lu.w_setT (SqL.of hz2) (by omega) fun ms p1 H3 hnd hmem hp1 e3 hp1' => ?_
      tm_at "r"
      refine Lu.w_sortSetT hp1' hnd fun us p2 H4 hu hru hp2 e4 hp2' => ?_
      refine q us p2 H4 (e2.free (e3.free hp2)) ((e2.trans e3).trans e4) hp2' hru fun b => ?_
      rw [hu.mem_iff, hmem b, hm b]
      unfold Beg
      constructor
      · rintro (rfl | ⟨x, hx, h1, h2, _⟩)
        · exact ⟨.inl rfl, by show 0 < n; omega⟩
        · exact ⟨.inr ⟨x, hx, h1⟩, h2⟩
      · rintro ⟨rfl | ⟨x, hx, h1⟩, h2⟩
        · exact .inl rfl
        · by_cases hb : b = []
          · exact .inl hb
          · exact .inr ⟨x, hx, h1, h2, hb⟩
end
end My
end

section
set_option pp.maxSteps 700
open PySem L2 Lw
local macro_rules | `(tactic| tm_at "s") => `(tactic| first
  | with_reducible refine w_seq ?_ | with_reducible refine w_asg ?_ | with_reducible refine w_gname ?_ | with_reducible refine w_ret ?_ | with_reducible refine w_drop ?_ | with_reducible refine w_ifS ?_ | with_reducible refine w_next ?_ | with_reducible refine w_retN ?_
  | with_reducible refine w_c ?_ | ((with_reducible refine w_var (v := ?vv) ?hh ?kk); (case hh => exact rfl)) | with_reducible refine w_op ?_ | with_reducible refine w_un ?_ | with_reducible refine w_cons ?_ | with_reducible refine w_nil ?_ | with_reducible refine w_test ?_ | with_reducible refine w_B ?_
  | with_reducible refine w_isbl ?_ | with_reducible refine w_not ?_ | with_reducible refine w_and ?_ | with_reducible refine w_or ?_ | with_reducible refine w_andV ?_ | with_reducible refine w_orV ?_ | with_reducible refine w_notV ?_ | with_reducible refine w_if ?_ | with_reducible refine w_chain ?_
  | with_reducible refine w_isN ?_ | with_reducible refine w_notN ?_ | with_reducible refine w_yes ?_ | with_reducible refine w_call ?_ | with_reducible refine w_CB ?_ | with_reducible refine w_tup ?_ | with_reducible refine w_lst ?_ | with_reducible refine w_sl ?_ | with_reducible refine w_noPart ?_
  | with_reducible refine w_part ?_ | with_reducible refine w_isint ?_ | with_reducible refine w_gSub ?_ | with_reducible refine w_break ?_ | with_reducible refine w_cont ?_
  | with_reducible refine w_I0 ?_ | with_reducible refine w_eqI ?_ | with_reducible refine w_neI ?_ | with_reducible refine w_eqS ?_ | with_reducible refine w_neS ?_ | with_reducible refine w_eqB ?_ | with_reducible refine w_neB ?_ | ((with_reducible refine w_isi (d := ?dd) ?hh ?kk); (case hh => assumption))
  | with_reducible refine w_sg ?_ | with_reducible refine w_notSg ?_ | with_reducible refine w_starts ?_ | with_reducible refine w_max2 ?_ | with_reducible refine w_min2 ?_ | with_reducible refine w_intB ?_ | with_reducible refine w_intI ?_ | with_reducible refine w_bm ?_ | with_reducible refine w_bm0 ?_ | with_reducible refine w_m1 ?_ | with_reducible refine w_m0 ?_ | with_reducible refine w_isstr ?_
  | with_reducible refine w_for ?_ | with_reducible refine w_lc ?_ | with_reducible refine w_rng ?_ | with_reducible refine w_rng2 ?_ | with_reducible refine w_ilist ?_ | with_reducible refine w_itup ?_ | with_reducible refine w_istr ?_ | with_reducible refine w_strOk ?_
  | ((with_reducible refine w_rngOk ?hh ?h2 ?kk); (case hh => omega); (case h2 => omega)) | ((with_reducible refine w_lstOk (xs := ?xx) ?hh ?kk); (case hh => assumption))
  | ((with_reducible refine w_alL ?hh ?kk); (case hh => exact Nat.le_of_ble_eq_true rfl)) | ((with_reducible refine w_alT ?hh ?kk); (case hh => exact Nat.le_of_ble_eq_true rfl))
  | ((with_reducible refine w_lenL (xs := ?xx) ?hh ?kk); (case hh => assumption)) | ((with_reducible refine w_lenT (xs := ?xx) ?hh ?kk); (case hh => assumption))
  | ((with_reducible refine w_I ?hh ?kk); (case hh => first | (show _ ≠ (0 : Int); omega) | (show (0 : Int) < _; omega) | exact ⟨by omega, by omega⟩ | exact .inl ⟨by omega, by omega⟩ | exact .inr ⟨by omega, by omega⟩ | exact ⟨by decide, by decide, by decide⟩))
  | with_reducible refine w_din ?_ | with_reducible refine w_dnot ?_ | with_reducible refine w_dget ?_ | with_reducible refine w_dput ?_ | with_reducible refine w_fld ?_ | with_reducible refine w_sto ?_ | with_reducible refine w_meth ?_ | with_reducible refine w_pop1 ?_ | with_reducible refine w_pop2 ?_ | with_reducible refine w_ikeys ?_
  | ((with_reducible refine f_width (CW := ?v1) (dx := ?v2) (t := ?v3) (l := ?v4) (w := ?v5) (told := ?v6) (many := ?v7) ?tw ?hh ?kk); (case tw => assumption); (case hh => assumption))
  | ((with_reducible refine f_things (CW := ?v1) (dx := ?v2) (t := ?v3) (l := ?v4) (w := ?v5) (told := ?v6) (many := ?v7) ?tw ?hh ?kk); (case tw => assumption); (case hh => assumption))
  | ((with_reducible refine f_listening (CW := ?v1) (dx := ?v2) (t := ?v3) (l := ?v4) (w := ?v5) (told := ?v6) (many := ?v7) ?tw ?hh ?kk); (case tw => assumption); (case hh => assumption))
  | ((with_reducible refine f_tolds (CW := ?v1) (dx := ?v2) (t := ?v3) (l := ?v4) (w := ?v5) (b := ?v6) (many := ?v7) ?tw ?hh ?kk); (case tw => assumption); (case hh => assumption))
  | ((with_reducible refine f_told (CW := ?v1) (dx := ?v2) (t := ?v3) (l := ?v4) (w := ?v5) (told := ?v6) (many := ?v7) ?tw ?hh ?kk); (case tw => assumption); (case hh => assumption))
  | ((with_reducible refine f_many (CW := ?v1) (dx := ?v2) (t := ?v3) (l := ?v4) (w := ?v5) (told := ?v6) (many := ?v7) ?tw ?hh ?kk); (case tw => assumption); (case hh => assumption))
  | ((with_reducible refine w_ixL (v := ?vv) (xs := ?xx) ?hh ?h2 ?kk); (case hh => assumption); (case h2 => exact rfl)) | ((with_reducible refine w_ixT (v := ?vv) (xs := ?xx) ?hh ?h2 ?kk); (case hh => assumption); (case h2 => exact rfl)))
local macro_rules | `(tactic| tm_at "r") => `(tactic| repeat tm_at "s")
local macro_rules | `(tactic| tm_at "b") => `(tactic| first | refine w_iteT (by with_reducible rfl) ?_ | refine w_iteF (by with_reducible rfl) ?_ | refine w_iteT (by rfl) ?_ | refine w_iteF (by rfl) ?_)
local macro_rules | `(tactic| tm_at "e") => `(tactic| repeat (first | tm_at "s" | tm_at "b"))
local macro_rules | `(tactic| tm_at "s") => `(tactic| first
  | with_reducible refine w_gcons ?_ | with_reducible refine w_gnil ?_
  | ((with_reducible refine g_wire (CK := ?v1) (dx := ?v2) (a := ?v3) (c := ?v4) (r := ?v5) (said := ?v6) (n := ?v7) (s := ?v8) ?tw ?hh ?kk); (case tw => assumption); (case hh => assumption))
  | ((with_reducible refine g_kind (CK := ?v1) (dx := ?v2) (a := ?v3) (c := ?v4) (r := ?v5) (said := ?v6) (n := ?v7) (s := ?v8) ?tw ?hh ?kk); (case tw => assumption); (case hh => assumption))
  | ((with_reducible refine g_rest (CK := ?v1) (dx := ?v2) (a := ?v3) (c := ?v4) (r := ?v5) (said := ?v6) (n := ?v7) (s := ?v8) ?tw ?hh ?kk); (case tw => assumption); (case hh => assumption))
  | ((with_reducible refine g_saids (CK := ?v1) (dx := ?v2) (a := ?v3) (c := ?v4) (r := ?v5) (b := ?v6) (n := ?v7) (s := ?v8) ?tw ?hh ?kk); (case tw => assumption); (case hh => assumption))
  | ((with_reducible refine g_said (CK := ?v1) (dx := ?v2) (a := ?v3) (c := ?v4) (r := ?v5) (said := ?v6) (n := ?v7) (s := ?v8) ?tw ?hh ?kk); (case tw => assumption); (case hh => assumption))
  | ((with_reducible refine g_names (CK := ?v1) (dx := ?v2) (a := ?v3) (c := ?v4) (r := ?v5) (said := ?v6) (n := ?v7) (s := ?v8) ?tw ?hh ?kk); (case tw => assumption); (case hh => assumption))
  | ((with_reducible refine g_seen (CK := ?v1) (dx := ?v2) (a := ?v3) (c := ?v4) (r := ?v5) (said := ?v6) (n := ?v7) (s := ?v8) ?tw ?hh ?kk); (case tw => assumption); (case hh => assumption)))
local macro_rules | `(tactic| tm_at "s") => `(tactic| first
  | with_reducible refine w_pcons ?_ | with_reducible refine w_pnil ?_
  | ((with_reducible refine m_width (w := ?v1) (t := ?v2) (l := ?v3) (told := ?v4) (many := ?v5) ?hh ?kk); (case hh => assumption))
  | ((with_reducible refine m_things (w := ?v1) (t := ?v2) (l := ?v3) (told := ?v4) (many := ?v5) ?hh ?kk); (case hh => assumption))
  | ((with_reducible refine m_lis (w := ?v1) (t := ?v2) (l := ?v3) (told := ?v4) (many := ?v5) ?hh ?kk); (case hh => assumption))
  | ((with_reducible refine m_saids (w := ?v1) (t := ?v2) (l := ?v3) (b := ?v4) (many := ?v5) ?hh ?kk); (case hh => assumption))
  | ((with_reducible refine m_said (w := ?v1) (t := ?v2) (l := ?v3) (told := ?v4) (many := ?v5) ?hh ?kk); (case hh => assumption))
  | ((with_reducible refine m_looks (w := ?v1) (t := ?v2) (l := ?v3) (told := ?v4) (many := ?v5) ?hh ?kk); (case hh => assumption))
  | ((with_reducible refine j_kind (c := ?v1) (r := ?v2) (said := ?v3) (n := ?v4) (s := ?v5) ?hh ?kk); (case hh => assumption))
  | ((with_reducible refine j_rest (c := ?v1) (r := ?v2) (said := ?v3) (n := ?v4) (s := ?v5) ?hh ?kk); (case hh => assumption))
  | ((with_reducible refine j_saids (c := ?v1) (r := ?v2) (b := ?v3) (n := ?v4) (s := ?v5) ?hh ?kk); (case hh => assumption))
  | ((with_reducible refine j_said (c := ?v1) (r := ?v2) (said := ?v3) (n := ?v4) (s := ?v5) ?hh ?kk); (case hh => assumption))
  | ((with_reducible refine j_found (c := ?v1) (r := ?v2) (said := ?v3) (n := ?v4) (s := ?v5) ?hh ?kk); (case hh => assumption))
  | ((with_reducible refine j_paper (c := ?v1) (r := ?v2) (said := ?v3) (n := ?v4) (s := ?v5) ?hh ?kk); (case hh => assumption)))
namespace My
abbrev s_beginnings_of : Stmt := top 22
theorem sc_beginnings_of : FnScope ["width", "numbers", "found", "number", "many"] ["width", "numbers"] (defScope s_beginnings_of) := ⟨rfl, rfl, rfl, by decide +kernel, rfl, by decide +kernel, by decide +kernel⟩
section
variable (K : PySem.W.Frag)
def sp_begof : Sp := fun vs H Q _ => ∃ (n : Nat) (p : Addr) (ls : List Bits), vs = [.int (n : Int), .ref p] ∧ 1 ≤ n ∧ n ≤ 12 ∧ SqL K H p (bvs ls) ∧ ls.length ≤ 40 ∧ (∀ x ∈ ls, x.length = n) ∧
  ∀ (us : List Bits) (q : Addr) (H' : Hp), H q = none → Ext H H' → H' q = some (.lst (bvs us)) → Rise us → (∀ b, b ∈ us ↔ Beg ls b ∧ b.length < n) → Q (.ref q) H'
end
theorem beg_step {u b : Bits} {n m : Nat} (hu : u.length = n) (hm : m < n) : (b <+: u ∧ b.length < m + 1) ↔ (b <+: u ∧ b.length < m) ∨ b = u.take m := by
  constructor
  · rintro ⟨h1, h2⟩
    by_cases h : b.length < m
    · exact .inl ⟨h1, h⟩
    · have e : b.length = m := by omega
      refine .inr ?_
      rw [← e]
      exact List.prefix_iff_eq_take.mp h1
  · rintro (⟨h1, h2⟩ | rfl)
    · exact ⟨h1, by omega⟩
    · exact ⟨List.take_prefix _ _, by rw [List.length_take]; omega⟩
section
variable {P : Program} {w : World} {K : PySem.W.Frag} {mg : Str → Option Value} {base : Heap}
theorem ok_begof {f : Addr} {fd : FuncData} (F : Fun K "beginnings_of" "beginnings_of" s_beginnings_of f fd) (T : TxB mg) : FnOk P w K mg base (L2.CX P w) 1 f fd ["width", "numbers"] (sp_begof K) := by
  refine F.okX sc_beginnings_of (fun vs H Q E h => ?_) (fun cdv A outer s H vs Q E hr h => ⟨_, (pss_cons (ps_set (i := 2) sc_beginnings_of.nd rfl (by first | exact Or.inl rfl | exact Or.inr rfl) (pe_disp (pps_cons pe_str pe_bl pps_nil) (by rfl) (by rfl) (fun z => by cases z) (by decide)))
 (pss_cons (ps_for (passes_of rfl) rfl (piL (K := K) rfl (pv 1)) (pg_name (i := 3) sc_beginnings_of.nd rfl (by first | exact Or.inl rfl | exact Or.inr rfl))
 (pss_one (ps_for (passes_of rfl) rfl (pi_range1 rfl T.n_range (pa_cons (pv 0) pa_nil)) (pg_name (i := 4) sc_beginnings_of.nd rfl (by first | exact Or.inl rfl | exact Or.inr rfl))
 (pss_one (ps_dput (hu_of hr) (pv 2) (pe_slice sl_str (pv 3) po_none (po_some (pv 4))) pe_bl rfl)))))
 (pss_one (ps_ret (pe_callB (Lw.cSortDT rfl) (by rfl) T.n_sorted (by decide +kernel) (pa_cons (pv 2) pa_nil)))))), ?_⟩)
  · obtain ⟨n, p, ls, rfl, _⟩ := h
    rfl
  · obtain ⟨n, p, ls, rfl, hn1, hn2, hp, hl40, hlen, q⟩ := h
    tm_at "r"
    refine w_disp fun z H1 hz e1 hz1 => ?_
    tm_at "r"
    refine ⟨hz1, [(.inr "", .bl true)], rfl, by show 1 ≤ 15; decide, ?_⟩
    have em : mergeK [] [((.inr "" : Key), V.bl true)] = tK V.bl (liK [[]]) := by
      rw [show tK V.bl (liK [[]]) = [((.inr (B []) : Key), V.bl true)] from rfl, ← B_nil]
      kernel_rfl
    rw [em]
    have e2 : Ext H (upd H1 z (.dK (tK V.bl (liK [[]])))) := e1.mut hz
    have hz2 : upd H1 z (.dK (tK V.bl (liK [[]]))) z = some (.dK (tK V.bl (liK [[]]))) := upd_same
    generalize upd H1 z (.dK (tK V.bl (liK [[]]))) = H2 at e2 hz2 ⊢
    tm_at "r"
    refine w_lstOk (e2.seq (nsh_bvs _) hp) ?_
    refine forL (fun i σ H3 => ∃ (v3 v4 : Option V) (ks : List Bits), σ = [some (.int (n : Int)), some (.ref p), some (.ref z), v3, v4] ∧ Ext H H3 ∧ H3 z = some (.dK (tK V.bl (liK ks))) ∧ ks.length ≤ 1 + i * 12 ∧ ks.Nodup ∧ ∀ b, b ∈ ks ↔ b = [] ∨ ∃ x ∈ ls.take i, b <+: x ∧ b.length < n)
      (fun i σ H3 ⟨_, _, _, _, e, _⟩ => e.seq (nsh_bvs _) hp) ⟨_, _, [[]], rfl, e2, hz2, by simp, by simp, fun b => by simp⟩ ?_ ?_
    · rintro i x σ H3 NN hi ⟨v3, v4, ks, rfl, e3, hz3, hal, hnd, hm⟩ kN
      obtain ⟨u, hu, rfl⟩ := bvs_get hi
      have hil : i < ls.length := (List.getElem?_eq_some_iff.mp hu).1
      have hul := hlen u (List.mem_of_getElem? hu)
      tm_at "r"
      refine forR (fun m σ H4 => ∃ (v4 : Option V) (ks : List Bits), σ = [some (.int (n : Int)), some (.ref p), some (.ref z), some (.str (B u)), v4] ∧ Ext H H4 ∧ H4 z = some (.dK (tK V.bl (liK ks))) ∧ ks.length ≤ 1 + i * 12 + m ∧ ks.Nodup ∧ ∀ b, b ∈ ks ↔ (b = [] ∨ ∃ x ∈ ls.take i, b <+: x ∧ b.length < n) ∨ (b <+: u ∧ b.length < m)) ⟨_, ks, rfl, e3, hz3, by omega, hnd, fun b => by rw [hm b]; simp⟩ ?_ ?_
      · clear hz3 hal hnd hm e3 ks
        rintro m σ H4 N4 hmn ⟨v4, ks, rfl, e4, hz4, hal, hnd, hm⟩ kN4
        tm_at "r"
        refine w_slS (by rw [B_len]; omega) ?_
        rw [show (0 + (m : Int)) = ((m : Nat) : Int) by omega, cutS_to]
        obtain ⟨ks2, h1, h2, h3, h4⟩ := liK_put ks (u.take m)
        have hi40 : i * 12 ≤ 40 * 12 := Nat.mul_le_mul (by omega) (Nat.le_refl _)
        refine w_dputB (g := V.bl) hz4 (by rw [liK_len]; omega) ?_
        rw [h1]
        refine kN4 _ _ ⟨_, ks2, rfl, e4.mut hz, upd_same, by omega, h3 hnd, fun b => ?_⟩
        rw [h2 b, hm b, beg_step hul (by omega)]
        constructor
        · rintro ((h | h) | h)
          · exact .inl h
          · exact .inr (.inl h)
          · exact .inr (.inr h)
        · rintro (h | h | h)
          · exact .inl (.inl h)
          · exact .inl (.inr h)
          · exact .inr h
      · rintro σ H4 ⟨v4, ks2, rfl, e4, hz4, hal2, hnd2, hm2⟩
        refine kN _ _ ⟨_, _, ks2, rfl, e4, hz4, by omega, hnd2, fun b => ?_⟩
        rw [hm2 b, List.take_succ, hu]
        have en : (n : Int).toNat = n := by omega
        rw [en]
        constructor
        · rintro ((h | ⟨x, hx, h⟩) | h)
          · exact .inl h
          · exact .inr ⟨x, List.mem_append_left _ hx, h⟩
          · exact .inr ⟨u, List.mem_append_right _ (by simp), h⟩
        · rintro (h | ⟨x, hx, h⟩)
          · exact .inl (.inl h)
          · rcases List.mem_append.mp hx with hx | hx
            · exact .inl (.inr ⟨x, hx, h⟩)
            · have hx : x = u := by simpa using hx
              rw [hx] at h
              exact .inr h
    · rintro σ H3 ⟨v3, v4, ks, rfl, e3, hz3, hal, hnd, hm⟩
      rw [bvs_len] at hal hm
      rw [List.take_length] at hm
      tm_at "r"
      refine w_sortDT (.inl hz3) (by rw [liK_len]; omega) (by rw [liK_keys]; exact hnd) fun us q4 H4 hpm hri hq4 e4 hq4' => ?_
      rw [liK_keys] at hpm
      refine q us q4 H4 (e3.free hq4) (e3.trans e4) hq4' hri fun b => ?_
      rw [hpm.mem_iff, hm b]
      unfold Beg
      constructor
      · rintro (rfl | ⟨x, hx, h1, h2⟩)
        · exact ⟨.inl rfl, by show 0 < n; omega⟩
        · exact ⟨.inr ⟨x, hx, h1⟩, h2⟩
      · rintro ⟨rfl | ⟨x, hx, h1⟩, h2⟩
        · exact .inl rfl
        · exact .inr ⟨x, hx, h1, h2⟩
end
end My
end

section
set_option pp.maxSteps 700
open PySem L2 Lw
local macro_rules | `(tactic| tm_at "s") => `(tactic| first
  | with_reducible refine w_seq ?_ | with_reducible refine w_asg ?_ | with_reducible refine w_gname ?_ | with_reducible refine w_ret ?_ | with_reducible refine w_drop ?_ | with_reducible refine w_ifS ?_ | with_reducible refine w_next ?_ | with_reducible refine w_retN ?_
  | with_reducible refine w_c ?_ | ((with_reducible refine w_var (v := ?vv) ?hh ?kk); (case hh => exact rfl)) | with_reducible refine w_op ?_ | with_reducible refine w_un ?_ | with_reducible refine w_cons ?_ | with_reducible refine w_nil ?_ | with_reducible refine w_test ?_ | with_reducible refine w_B ?_
  | with_reducible refine w_isbl ?_ | with_reducible refine w_not ?_ | with_reducible refine w_and ?_ | with_reducible refine w_or ?_ | with_reducible refine w_andV ?_ | with_reducible refine w_orV ?_ | with_reducible refine w_notV ?_ | with_reducible refine w_if ?_ | with_reducible refine w_chain ?_
  | with_reducible refine w_isN ?_ | with_reducible refine w_notN ?_ | with_reducible refine w_yes ?_ | with_reducible refine w_call ?_ | with_reducible refine w_CB ?_ | with_reducible refine w_tup ?_ | with_reducible refine w_lst ?_ | with_reducible refine w_sl ?_ | with_reducible refine w_noPart ?_
  | with_reducible refine w_part ?_ | with_reducible refine w_isint ?_ | with_reducible refine w_gSub ?_ | with_reducible refine w_break ?_ | with_reducible refine w_cont ?_
  | with_reducible refine w_I0 ?_ | with_reducible refine w_eqI ?_ | with_reducible refine w_neI ?_ | with_reducible refine w_eqS ?_ | with_reducible refine w_neS ?_ | with_reducible refine w_eqB ?_ | with_reducible refine w_neB ?_ | ((with_reducible refine w_isi (d := ?dd) ?hh ?kk); (case hh => assumption))
  | with_reducible refine w_sg ?_ | with_reducible refine w_notSg ?_ | with_reducible refine w_starts ?_ | with_reducible refine w_max2 ?_ | with_reducible refine w_min2 ?_ | with_reducible refine w_intB ?_ | with_reducible refine w_intI ?_ | with_reducible refine w_bm ?_ | with_reducible refine w_bm0 ?_ | with_reducible refine w_m1 ?_ | with_reducible refine w_m0 ?_ | with_reducible refine w_isstr ?_
  | with_reducible refine w_for ?_ | with_reducible refine w_lc ?_ | with_reducible refine w_rng ?_ | with_reducible refine w_rng2 ?_ | with_reducible refine w_ilist ?_ | with_reducible refine w_itup ?_ | with_reducible refine w_istr ?_ | with_reducible refine w_strOk ?_
  | ((with_reducible refine w_rngOk ?hh ?h2 ?kk); (case hh => omega); (case h2 => omega)) | ((with_reducible refine w_lstOk (xs := ?xx) ?hh ?kk); (case hh => assumption))
  | ((with_reducible refine w_alL ?hh ?kk); (case hh => exact Nat.le_of_ble_eq_true rfl)) | ((with_reducible refine w_alT ?hh ?kk); (case hh => exact Nat.le_of_ble_eq_true rfl))
  | ((with_reducible refine w_lenL (xs := ?xx) ?hh ?kk); (case hh => assumption)) | ((with_reducible refine w_lenT (xs := ?xx) ?hh ?kk); (case hh => assumption))
  | ((with_reducible refine w_I ?hh ?kk); (case hh => first | (show _ ≠ (0 : Int); omega) | (show (0 : Int) < _; omega) | exact ⟨by omega, by omega⟩ | exact .inl ⟨by omega, by omega⟩ | exact .inr ⟨by omega, by omega⟩ | exact ⟨by decide, by decide, by decide⟩))
  | with_reducible refine w_din ?_ | with_reducible refine w_dnot ?_ | with_reducible refine w_dget ?_ | with_reducible refine w_dput ?_ | with_reducible refine w_fld ?_ | with_reducible refine w_sto ?_ | with_reducible refine w_meth ?_ | with_reducible refine w_pop1 ?_ | with_reducible refine w_pop2 ?_ | with_reducible refine w_ikeys ?_
  | ((with_reducible refine f_width (CW := ?v1) (dx := ?v2) (t := ?v3) (l := ?v4) (w := ?v5) (told := ?v6) (many := ?v7) ?tw ?hh ?kk); (case tw => assumption); (case hh => assumption))
  | ((with_reducible refine f_things (CW := ?v1) (dx := ?v2) (t := ?v3) (l := ?v4) (w := ?v5) (told := ?v6) (many := ?v7) ?tw ?hh ?kk); (case tw => assumption); (case hh => assumption))
  | ((with_reducible refine f_listening (CW := ?v1) (dx := ?v2) (t := ?v3) (l := ?v4) (w := ?v5) (told := ?v6) (many := ?v7) ?tw ?hh ?kk); (case tw => assumption); (case hh => assumption))
  | ((with_reducible refine f_tolds (CW := ?v1) (dx := ?v2) (t := ?v3) (l := ?v4) (w := ?v5) (b := ?v6) (many := ?v7) ?tw ?hh ?kk); (case tw => assumption); (case hh => assumption))
  | ((with_reducible refine f_told (CW := ?v1) (dx := ?v2) (t := ?v3) (l := ?v4) (w := ?v5) (told := ?v6) (many := ?v7) ?tw ?hh ?kk); (case tw => assumption); (case hh => assumption))
  | ((with_reducible refine f_many (CW := ?v1) (dx := ?v2) (t := ?v3) (l := ?v4) (w := ?v5) (told := ?v6) (many := ?v7) ?tw ?hh ?kk); (case tw => assumption); (case hh => assumption))
  | ((with_reducible refine w_ixL (v := ?vv) (xs := ?xx) ?hh ?h2 ?kk); (case hh => assumption); (case h2 => exact rfl)) | ((with_reducible refine w_ixT (v := ?vv) (xs := ?xx) ?hh ?h2 ?kk); (case hh => assumption); (case h2 => exact rfl)))
local macro_rules | `(tactic| tm_at "r") => `(tactic| repeat tm_at "s")
local macro_rules | `(tactic| tm_at "b") => `(tactic| first | refine w_iteT (by with_reducible rfl) ?_ | refine w_iteF (by with_reducible rfl) ?_ | refine w_iteT (by rfl) ?_ | refine w_iteF (by rfl) ?_)
local macro_rules | `(tactic| tm_at "e") => `(tactic| repeat (first | tm_at "s" | tm_at "b"))
namespace My
abbrev s_law_sets : Stmt := top 47
theorem sc_law_sets : FnScope ["_law_numbers", "_law_found", "_law_number_here", "_law_one"] ["_law_numbers"] (defScope s_law_sets) := ⟨rfl, rfl, rfl, by decide +kernel, rfl, by decide +kernel, by decide +kernel⟩
def sp_sets (K : PySem.W.Frag) : Sp := fun vs H Q _ => ∃ (p : Addr) (ls : List Bits), vs = [.ref p] ∧ SqL K H p (bvs ls) ∧ ls.length ≤ 8 ∧ ls.Nodup ∧
  ∀ (q : Addr) (ps : List Addr) (Ss : List (List Bits)) (H' : Hp), H q = none → Ext H H' → H' q = some (.lst (ps.map V.ref)) → RowsAt H' ps Ss → Ss.Perm (subs ls) → RiseS Ss → (∀ a ∈ ps, H a = none) → Q (.ref q) H'
section
variable {P : Program} {w : World} {K : PySem.W.Frag} {mg : Str → Option Value} {base : Heap}
theorem ok_sets {f : Addr} {fd : FuncData} (F : Fun K "_law_sets" "_law_sets" s_law_sets f fd) (T : TxB mg) : FnOk P w K mg base (L2.CX P w) 1 f fd ["_law_numbers"] (sp_sets K) := by
  refine F.okX sc_law_sets (fun vs H Q E h => ?_) (fun cdv A outer s H vs Q E hr h => ⟨_, (pss_cons (ps_set (i := 1) sc_law_sets.nd rfl (by first | exact Or.inl rfl | exact Or.inr rfl) (pe_lst (pa_cons (pe_lst pa_nil) pa_nil)))
 (pss_cons (ps_for (passes_of rfl) rfl (piL (K := K) rfl (pv 0)) (pg_name (i := 2) sc_law_sets.nd rfl (by first | exact Or.inl rfl | exact Or.inr rfl))
 (pss_one (ps_set (i := 1) sc_law_sets.nd rfl (by first | exact Or.inl rfl | exact Or.inr rfl) (pe_op op_cat (pv 1) (pe_lc (own := [("_law_one", 3)]) (g := gName 3) (tt := tYes) rfl sc_law_sets.nd (piL (K := K) rfl (pv 1)) (blkOk_by (own := [("_law_one", 3)]) (N := ["_law_numbers", "_law_found", "_law_number_here", "_law_one"]) (sc := defScope s_law_sets) (by decide +kernel)) (fun _ _ _ _ _ => pg_name (i := 3) sc_law_sets.nd rfl (Or.inl rfl)) (fun _ _ _ _ _ => pts_nil) (fun _ _ _ _ _ => (pe_op op_cat (pv 3) (pe_lst (pa_cons (pv 2) pa_nil)))))))))
 (pss_one (ps_ret (pe_callB (cSortR (K := K) rfl (room65 hr)) (by rfl) T.n_sorted (by decide +kernel) (pa_cons (pv 1) pa_nil)))))), ?_⟩)
  · obtain ⟨p, ls, rfl, _⟩ := h
    rfl
  · obtain ⟨p, ls, rfl, hp, hz, nd, q⟩ := h
    tm_at "r"
    intro e0 H1 he0 e1 he1
    tm_at "r"
    intro z H2 hz0 e2 hz2
    have hpow : ∀ i, (subs (ls.take i)).length ≤ 256 := fun i => by
      rw [subs_len, List.length_take]
      exact Nat.le_trans (Nat.pow_le_pow_right (by decide) (show min i ls.length ≤ 8 by omega)) (by decide)
    have E0 := e1.trans e2
    tm_at "r"
    refine w_lstOk (E0.seq (nsh_bvs _) hp) ?_
    refine forL (fun i σ H' => ∃ (y2 : Option V) (q : Addr) (ps : List Addr), σ = [some (.ref p), some (.ref q), y2, none] ∧ Ext H H' ∧ H' q = some (.lst (ps.map V.ref)) ∧ RowsAt H' ps (subs (ls.take i)) ∧ H q = none ∧ ∀ a ∈ ps, H a = none)
      (fun i σ H' ⟨_, _, _, _, e, _⟩ => e.seq (nsh_bvs _) hp) ⟨none, z, [e0], rfl, E0, hz2, .cons (e2.st _ _ he1 nsh_nil) .nil, e1.free hz0, fun a ha => by rw [List.mem_singleton.mp ha]; exact he0⟩ ?_ ?_
    · rintro i x σ H3 NN hi ⟨y2, qq, ps, rfl, e3, hq, hps, hqn, hpn⟩ kN
      obtain ⟨u, hu, rfl⟩ := bvs_get hi
      have hsn : subs (ls.take (i + 1)) = subs (ls.take i) ++ (subs (ls.take i)).map fun s => s ++ [u] := by
        rw [List.take_succ, hu]
        exact subs_snoc _ u
      have hlen := paired_len hps
      have hb := hpow i
      have hin : ∀ S ∈ subs (ls.take i), S.length ≤ 8 := fun S hS => by
        have := (mem_subs.mp hS).length_le
        rw [List.length_take] at this
        omega
      rw [hsn] at kN
      generalize subs (ls.take i) = Ss at *
      tm_at "r"
      refine w_lstOk (SqL.of hq) ?_
      refine lcEN (src_lst (SqL.of hq) (nsh_refs _)) (fun D i acc H' => ∃ ts : List Addr, acc = ts.map V.ref ∧ RowsAt H' ts ((Ss.take i).map fun s => s ++ [u]) ∧ (∀ a ∈ ts, a ≠ D ∧ H3 a = none))
        (fun D i acc Ha Hb ⟨ts, h1, h2, h3⟩ e => ⟨ts, h1, h2.ext e, h3⟩) (fun D i acc Ha xs ys hD _ ⟨ts, h1, h2, h3⟩ => ⟨ts, h1, ?_, h3⟩) (fun D Ha _ _ => ⟨[], rfl, .nil, fun a ha => (by cases ha)⟩) (fun D i acc Ha ⟨ts, h1, _⟩ => (by rw [h1]; exact nsh_refs _)) (by rw [List.length_map]; omega) (fun _ => rfl) (fun i x acc H' D NE hil hY hD hDa hacc eH kE => ?_) (fun D acc H' hacc hD eH hDa hlen2 => ?_)
      · exact rows_upd h2 fun a ha => (h3 a ha).1
      · obtain ⟨ts, rfl, hts, htn⟩ := hacc
        rw [List.getElem?_map] at hY
        cases hpi : ps[i]? with
        | none => rw [hpi] at hY; cases hY
        | some pi =>
          rw [hpi] at hY
          cases hY
          obtain ⟨S, hS, hSp⟩ := paired_at hps hpi
          have hSl := hin S (List.mem_of_getElem? hS)
          have hSp' := eH.st _ _ hSp (nsh_bvs _)
          tm_at "r"
          intro n1 H5 hn1 e5 hn1'
          refine w_cat (e5.st _ _ hSp' (nsh_bvs _)) hn1' (by rw [bvs_len]; simp; omega) fun n2 H6 hn2 e6 hn2' => ?_
          have e56 := e5.trans e6
          refine kE _ _ e56 ⟨ts ++ [n2], by rw [List.map_append]; rfl, ?_, fun a ha => ?_⟩
          · rw [List.take_succ, hS]
            simp only [Option.toList_some, List.map_append]
            refine paired_snoc ?_ (hts.ext e56)
            rw [hn2']
            exact congrArg (fun x => some (HO.lst x)) (bvs_append S [u])
          · rcases List.mem_append.mp ha with ha | ha
            · exact htn a ha
            · rw [List.mem_singleton.mp ha]
              refine ⟨fun e => ?_, eH.free (e5.free hn2)⟩
              rw [e] at hn2
              rw [(e5.st _ _ hDa (nsh_refs _))] at hn2
              cases hn2
      · obtain ⟨ts, rfl, hts, htn⟩ := hacc
        rw [List.length_map, hlen, List.take_length] at hts
        rw [List.length_map] at hlen2
        have hq' := eH.st _ _ hq (nsh_refs _)
        rw [List.length_map] at hlen2
        tm_at "r"
        refine w_cat hq' hDa (by rw [List.length_map, List.length_map]; omega) fun n2 H6 hn2 e6 hn2' => ?_
        have e36 := eH.trans e6
        refine kN _ _ ⟨_, n2, ps ++ ts, rfl, e3.trans e36, by rw [hn2', List.map_append], paired_append (hts.ext e6) (hps.ext e36), e3.free (eH.free hn2), fun a ha => ?_⟩
        rcases List.mem_append.mp ha with ha | ha
        · exact hpn a ha
        · exact e3.free (htn a ha).2
    · rintro σ H3 ⟨y2, qq, ps, rfl, e3, hq, hps, hqn, hpn⟩
      rw [bvs_len, List.take_length] at hps
      tm_at "r"
      refine w_sortR (SqL.of hq) hps (subs_nodup nd) fun qs Ts l H4 hpm hsub hri hl e4 hl' hrows => ?_
      tm_at "r"
      exact q l qs Ts H4 (e3.free hl) (e3.trans e4) hl' hrows hpm hri fun a ha => hpn a (hsub a ha)
end
end My
end

section
set_option pp.maxSteps 700
open PySem L2 Lw
local macro_rules | `(tactic| tm_at "s") => `(tactic| first
  | with_reducible refine w_seq ?_ | with_reducible refine w_asg ?_ | with_reducible refine w_gname ?_ | with_reducible refine w_ret ?_ | with_reducible refine w_drop ?_ | with_reducible refine w_ifS ?_ | with_reducible refine w_next ?_ | with_reducible refine w_retN ?_
  | with_reducible refine w_c ?_ | ((with_reducible refine w_var (v := ?vv) ?hh ?kk); (case hh => exact rfl)) | with_reducible refine w_op ?_ | with_reducible refine w_un ?_ | with_reducible refine w_cons ?_ | with_reducible refine w_nil ?_ | with_reducible refine w_test ?_ | with_reducible refine w_B ?_
  | with_reducible refine w_isbl ?_ | with_reducible refine w_not ?_ | with_reducible refine w_and ?_ | with_reducible refine w_or ?_ | with_reducible refine w_andV ?_ | with_reducible refine w_orV ?_ | with_reducible refine w_notV ?_ | with_reducible refine w_if ?_ | with_reducible refine w_chain ?_
  | with_reducible refine w_isN ?_ | with_reducible refine w_notN ?_ | with_reducible refine w_yes ?_ | with_reducible refine w_call ?_ | with_reducible refine w_CB ?_ | with_reducible refine w_tup ?_ | with_reducible refine w_lst ?_ | with_reducible refine w_sl ?_ | with_reducible refine w_noPart ?_
  | with_reducible refine w_part ?_ | with_reducible refine w_isint ?_ | with_reducible refine w_gSub ?_ | with_reducible refine w_break ?_ | with_reducible refine w_cont ?_
  | with_reducible refine w_I0 ?_ | with_reducible refine w_eqI ?_ | with_reducible refine w_neI ?_ | with_reducible refine w_eqS ?_ | with_reducible refine w_neS ?_ | with_reducible refine w_eqB ?_ | with_reducible refine w_neB ?_ | ((with_reducible refine w_isi (d := ?dd) ?hh ?kk); (case hh => assumption))
  | with_reducible refine w_sg ?_ | with_reducible refine w_notSg ?_ | with_reducible refine w_starts ?_ | with_reducible refine w_max2 ?_ | with_reducible refine w_min2 ?_ | with_reducible refine w_intB ?_ | with_reducible refine w_intI ?_ | with_reducible refine w_bm ?_ | with_reducible refine w_bm0 ?_ | with_reducible refine w_m1 ?_ | with_reducible refine w_m0 ?_ | with_reducible refine w_isstr ?_
  | with_reducible refine w_for ?_ | with_reducible refine w_lc ?_ | with_reducible refine w_rng ?_ | with_reducible refine w_rng2 ?_ | with_reducible refine w_ilist ?_ | with_reducible refine w_itup ?_ | with_reducible refine w_istr ?_ | with_reducible refine w_strOk ?_
  | ((with_reducible refine w_rngOk ?hh ?h2 ?kk); (case hh => omega); (case h2 => omega)) | ((with_reducible refine w_lstOk (xs := ?xx) ?hh ?kk); (case hh => assumption))
  | ((with_reducible refine w_alL ?hh ?kk); (case hh => exact Nat.le_of_ble_eq_true rfl)) | ((with_reducible refine w_alT ?hh ?kk); (case hh => exact Nat.le_of_ble_eq_true rfl))
  | ((with_reducible refine w_lenL (xs := ?xx) ?hh ?kk); (case hh => assumption)) | ((with_reducible refine w_lenT (xs := ?xx) ?hh ?kk); (case hh => assumption))
  | ((with_reducible refine w_I ?hh ?kk); (case hh => first | (show _ ≠ (0 : Int); omega) | (show (0 : Int) < _; omega) | exact ⟨by omega, by omega⟩ | exact .inl ⟨by omega, by omega⟩ | exact .inr ⟨by omega, by omega⟩ | exact ⟨by decide, by decide, by decide⟩))
  | with_reducible refine w_din ?_ | with_reducible refine w_dnot ?_ | with_reducible refine w_dget ?_ | with_reducible refine w_dput ?_ | with_reducible refine w_fld ?_ | with_reducible refine w_sto ?_ | with_reducible refine w_meth ?_ | with_reducible refine w_pop1 ?_ | with_reducible refine w_pop2 ?_ | with_reducible refine w_ikeys ?_
  | ((with_reducible refine f_width (CW := ?v1) (dx := ?v2) (t := ?v3) (l := ?v4) (w := ?v5) (told := ?v6) (many := ?v7) ?tw ?hh ?kk); (case tw => assumption); (case hh => assumption))
  | ((with_reducible refine f_things (CW := ?v1) (dx := ?v2) (t := ?v3) (l := ?v4) (w := ?v5) (told := ?v6) (many := ?v7) ?tw ?hh ?kk); (case tw => assumption); (case hh => assumption))
  | ((with_reducible refine f_listening (CW := ?v1) (dx := ?v2) (t := ?v3) (l := ?v4) (w := ?v5) (told := ?v6) (many := ?v7) ?tw ?hh ?kk); (case tw => assumption); (case hh => assumption))
  | ((with_reducible refine f_tolds (CW := ?v1) (dx := ?v2) (t := ?v3) (l := ?v4) (w := ?v5) (b := ?v6) (many := ?v7) ?tw ?hh ?kk); (case tw => assumption); (case hh => assumption))
  | ((with_reducible refine f_told (CW := ?v1) (dx := ?v2) (t := ?v3) (l := ?v4) (w := ?v5) (told := ?v6) (many := ?v7) ?tw ?hh ?kk); (case tw => assumption); (case hh => assumption))
  | ((with_reducible refine f_many (CW := ?v1) (dx := ?v2) (t := ?v3) (l := ?v4) (w := ?v5) (told := ?v6) (many := ?v7) ?tw ?hh ?kk); (case tw => assumption); (case hh => assumption))
  | ((with_reducible refine w_ixL (v := ?vv) (xs := ?xx) ?hh ?h2 ?kk); (case hh => assumption); (case h2 => exact rfl)) | ((with_reducible refine w_ixT (v := ?vv) (xs := ?xx) ?hh ?h2 ?kk); (case hh => assumption); (case h2 => exact rfl)))
local macro_rules | `(tactic| tm_at "r") => `(tactic| repeat tm_at "s")
local macro_rules | `(tactic| tm_at "b") => `(tactic| first | refine w_iteT (by with_reducible rfl) ?_ | refine w_iteF (by with_reducible rfl) ?_ | refine w_iteT (by rfl) ?_ | refine w_iteF (by rfl) ?_)
local macro_rules | `(tactic| tm_at "e") => `(tactic| repeat (first | tm_at "s" | tm_at "b"))
namespace My
abbrev s_law_every : Stmt := top 48
theorem sc_law_every : FnScope ["_law_width_here", "_law_found", "_law_k", "_law_longer", "_law_text"] ["_law_width_here"] (defScope s_law_every) := ⟨rfl, rfl, rfl, by decide +kernel, rfl, by decide +kernel, by decide +kernel⟩
def sp_every : Sp := fun vs H Q _ => ∃ n : Nat, vs = [.int (n : Int)] ∧ n ≤ 4 ∧ ∀ (q : Addr) (H' : Hp), H q = none → Ext H H' → H' q = some (.lst (bvs (every n))) → Q (.ref q) H'
section
variable {P : Program} {w : World} {K : PySem.W.Frag} {mg : Str → Option Value} {base : Heap}
theorem ok_every {f : Addr} {fd : FuncData} (F : Fun K "_law_every" "_law_every" s_law_every f fd) (T : TxB mg) : FnOk P w K mg base (L2.CX P w) 1 f fd ["_law_width_here"] sp_every := by
  refine F.okX sc_law_every (fun vs H Q E h => ?_) (fun cdv A outer s H vs Q E hr h => ⟨_, (pss_cons (ps_set (i := 1) sc_law_every.nd rfl (by first | exact Or.inl rfl | exact Or.inr rfl) (pe_lst (pa_cons pe_str pa_nil)))
 (pss_cons (ps_for (passes_of rfl) rfl (pi_range1 rfl T.n_range (pa_cons (pv 0) pa_nil)) (pg_name (i := 2) sc_law_every.nd rfl (by first | exact Or.inl rfl | exact Or.inr rfl))
 (pss_cons (ps_set (i := 3) sc_law_every.nd rfl (by first | exact Or.inl rfl | exact Or.inr rfl) (pe_lst pa_nil))
 (pss_cons (ps_for (passes_of rfl) rfl (piL (K := K) rfl (pv 1)) (pg_name (i := 4) sc_law_every.nd rfl (by first | exact Or.inl rfl | exact Or.inr rfl))
 (pss_one (ps_set (i := 3) sc_law_every.nd rfl (by first | exact Or.inl rfl | exact Or.inr rfl) (pe_op op_cat (pv 3) (pe_lst (pa_cons (pe_op o_addS (pv 4) pe_str) (pa_cons (pe_op o_addS (pv 4) pe_str) pa_nil)))))))
 (pss_one (ps_set (i := 1) sc_law_every.nd rfl (by first | exact Or.inl rfl | exact Or.inr rfl) (pv 3))))))
 (pss_one (ps_ret (pv 1))))), ?_⟩)
  · obtain ⟨n, rfl, _⟩ := h
    rfl
  · obtain ⟨n, rfl, hn, q⟩ := h
    have hsz : ∀ i, i ≤ n → (every i).length ≤ 16 := fun i hi => by
      rw [every_len]
      exact Nat.le_trans (Nat.pow_le_pow_right (by decide) (show i ≤ 4 by omega)) (by decide)
    tm_at "r"
    intro z H1 hz e1 hz1
    tm_at "r"
    refine forR (fun i σ H' => ∃ (y2 y3 y4 : Option V) (q : Addr), σ = [some (.int (n : Int)), some (.ref q), y2, y3, y4] ∧ Ext H H' ∧ H q = none ∧ H' q = some (.lst (bvs (every i)))) ⟨none, none, none, z, rfl, e1, hz, hz1⟩ ?_ ?_
    · rintro i σ H2 NN hi ⟨y2, y3, y4, p, rfl, e2, hp, hp2⟩ kN
      have hi : i < n := by simpa using hi
      have hs := hsz i (by omega)
      tm_at "r"
      intro l H3 hl e3 hl3
      have hp3 := e3.st _ _ hp2 (nsh_bvs _)
      tm_at "r"
      refine w_lstOk (SqL.of hp3) ?_
      refine forL (fun j σ H' => ∃ (y4 : Option V) (l : Addr), σ = [some (.int (n : Int)), some (.ref p), some (.int (0 + (i : Int))), some (.ref l), y4] ∧ Ext H H' ∧ H l = none ∧ H' p = some (.lst (bvs (every i))) ∧ H' l = some (.lst (bvs (((every i).take j).flatMap fun t => [t ++ [false], t ++ [true]]))))
        (fun j σ H' ⟨_, _, _, _, _, h, _⟩ => SqL.of h) ⟨_, l, rfl, e2.trans e3, e2.free hl, hp3, hl3⟩ ?_ ?_
      · rintro j x σ H4 N4 hj ⟨y4, l, rfl, e4, hl, hp4, hl4⟩ kN4
        obtain ⟨u, hu, rfl⟩ := bvs_get hj
        have hul : u.length ≤ 4 := by
          have := mem_every.mp (List.mem_of_getElem? hu)
          omega
        have hfl : (((every i).take j).flatMap fun t => ([t ++ [false], t ++ [true]] : List Bits)).length ≤ 32 := by
          have : ∀ l : List Bits, (l.flatMap fun t => ([t ++ [false], t ++ [true]] : List Bits)).length = 2 * l.length := fun l => by
            induction l with
            | nil => rfl
            | cons a l ih => rw [List.flatMap_cons, List.length_append, ih]; simp only [List.length_cons, List.length_nil]; omega
          rw [this, List.length_take]
          omega
        have hst : ((every i).take (j + 1)).flatMap (fun t => ([t ++ [false], t ++ [true]] : List Bits)) = ((every i).take j).flatMap (fun t => [t ++ [false], t ++ [true]]) ++ [u ++ [false], u ++ [true]] := by
          rw [List.take_succ, hu, List.flatMap_append]
          simp
        rw [hst] at kN4
        generalize ((every i).take j).flatMap (fun t => ([t ++ [false], t ++ [true]] : List Bits)) = acc at *
        tm_at "r"
        refine w_addS (by rw [B_len]; show u.length + 1 ≤ _; omega) ?_
        tm_at "r"
        refine w_addS (by rw [B_len]; show u.length + 1 ≤ _; omega) ?_
        rw [B_0, B_1, B_app, B_app]
        tm_at "r"
        intro m H5 hm e5 hm5
        refine w_cat (e5.st _ _ hl4 (nsh_bvs _)) hm5 (by rw [bvs_len]; simp; omega) fun m2 H6 hm2 e6 hm6 => ?_
        have e56 := e5.trans e6
        exact kN4 _ _ ⟨_, m2, rfl, e4.trans e56, e4.free (e5.free hm2), e56.st _ _ hp4 (nsh_bvs _), by
          rw [hm6]
          exact congrArg (fun x => some (HO.lst x)) (bvs_append acc [u ++ [false], u ++ [true]])⟩
      · rintro σ H4 ⟨y4, l, rfl, e4, hl, hp4, hl4⟩
        rw [bvs_len, List.take_length] at hl4
        tm_at "r"
        exact kN _ _ ⟨_, _, _, l, rfl, e4, hl, hl4⟩
    · rintro σ H2 ⟨y2, y3, y4, p, rfl, e2, hp, hp2⟩
      tm_at "r"
      exact q p H2 hp e2 (by simpa using hp2)
end
end My
end

section
set_option pp.maxSteps 700
open PySem L2 Lw
local macro_rules | `(tactic| tm_at "s") => `(tactic| first
  | with_reducible refine w_seq ?_ | with_reducible refine w_asg ?_ | with_reducible refine w_gname ?_ | with_reducible refine w_ret ?_ | with_reducible refine w_drop ?_ | with_reducible refine w_ifS ?_ | with_reducible refine w_next ?_ | with_reducible refine w_retN ?_
  | with_reducible refine w_c ?_ | ((with_reducible refine w_var (v := ?vv) ?hh ?kk); (case hh => exact rfl)) | with_reducible refine w_op ?_ | with_reducible refine w_un ?_ | with_reducible refine w_cons ?_ | with_reducible refine w_nil ?_ | with_reducible refine w_test ?_ | with_reducible refine w_B ?_
  | with_reducible refine w_isbl ?_ | with_reducible refine w_not ?_ | with_reducible refine w_and ?_ | with_reducible refine w_or ?_ | with_reducible refine w_andV ?_ | with_reducible refine w_orV ?_ | with_reducible refine w_notV ?_ | with_reducible refine w_if ?_ | with_reducible refine w_chain ?_
  | with_reducible refine w_isN ?_ | with_reducible refine w_notN ?_ | with_reducible refine w_yes ?_ | with_reducible refine w_call ?_ | with_reducible refine w_CB ?_ | with_reducible refine w_tup ?_ | with_reducible refine w_lst ?_ | with_reducible refine w_sl ?_ | with_reducible refine w_noPart ?_
  | with_reducible refine w_part ?_ | with_reducible refine w_isint ?_ | with_reducible refine w_gSub ?_ | with_reducible refine w_break ?_ | with_reducible refine w_cont ?_
  | with_reducible refine w_I0 ?_ | with_reducible refine w_eqI ?_ | with_reducible refine w_neI ?_ | with_reducible refine w_eqS ?_ | with_reducible refine w_neS ?_ | with_reducible refine w_eqB ?_ | with_reducible refine w_neB ?_ | ((with_reducible refine w_isi (d := ?dd) ?hh ?kk); (case hh => assumption))
  | with_reducible refine w_sg ?_ | with_reducible refine w_notSg ?_ | with_reducible refine w_starts ?_ | with_reducible refine w_max2 ?_ | with_reducible refine w_min2 ?_ | with_reducible refine w_intB ?_ | with_reducible refine w_intI ?_ | with_reducible refine w_bm ?_ | with_reducible refine w_bm0 ?_ | with_reducible refine w_m1 ?_ | with_reducible refine w_m0 ?_ | with_reducible refine w_isstr ?_
  | with_reducible refine w_for ?_ | with_reducible refine w_lc ?_ | with_reducible refine w_rng ?_ | with_reducible refine w_rng2 ?_ | with_reducible refine w_ilist ?_ | with_reducible refine w_itup ?_ | with_reducible refine w_istr ?_ | with_reducible refine w_strOk ?_
  | ((with_reducible refine w_rngOk ?hh ?h2 ?kk); (case hh => omega); (case h2 => omega)) | ((with_reducible refine w_lstOk (xs := ?xx) ?hh ?kk); (case hh => assumption))
  | ((with_reducible refine w_alL ?hh ?kk); (case hh => exact Nat.le_of_ble_eq_true rfl)) | ((with_reducible refine w_alT ?hh ?kk); (case hh => exact Nat.le_of_ble_eq_true rfl))
  | ((with_reducible refine w_lenL (xs := ?xx) ?hh ?kk); (case hh => assumption)) | ((with_reducible refine w_lenT (xs := ?xx) ?hh ?kk); (case hh => assumption))
  | ((with_reducible refine w_I ?hh ?kk); (case hh => first | (show _ ≠ (0 : Int); omega) | (show (0 : Int) < _; omega) | exact ⟨by omega, by omega⟩ | exact .inl ⟨by omega, by omega⟩ | exact .inr ⟨by omega, by omega⟩ | exact ⟨by decide, by decide, by decide⟩))
  | with_reducible refine w_din ?_ | with_reducible refine w_dnot ?_ | with_reducible refine w_dget ?_ | with_reducible refine w_dput ?_ | with_reducible refine w_fld ?_ | with_reducible refine w_sto ?_ | with_reducible refine w_meth ?_ | with_reducible refine w_pop1 ?_ | with_reducible refine w_pop2 ?_ | with_reducible refine w_ikeys ?_
  | ((with_reducible refine f_width (CW := ?v1) (dx := ?v2) (t := ?v3) (l := ?v4) (w := ?v5) (told := ?v6) (many := ?v7) ?tw ?hh ?kk); (case tw => assumption); (case hh => assumption))
  | ((with_reducible refine f_things (CW := ?v1) (dx := ?v2) (t := ?v3) (l := ?v4) (w := ?v5) (told := ?v6) (many := ?v7) ?tw ?hh ?kk); (case tw => assumption); (case hh => assumption))
  | ((with_reducible refine f_listening (CW := ?v1) (dx := ?v2) (t := ?v3) (l := ?v4) (w := ?v5) (told := ?v6) (many := ?v7) ?tw ?hh ?kk); (case tw => assumption); (case hh => assumption))
  | ((with_reducible refine f_tolds (CW := ?v1) (dx := ?v2) (t := ?v3) (l := ?v4) (w := ?v5) (b := ?v6) (many := ?v7) ?tw ?hh ?kk); (case tw => assumption); (case hh => assumption))
  | ((with_reducible refine f_told (CW := ?v1) (dx := ?v2) (t := ?v3) (l := ?v4) (w := ?v5) (told := ?v6) (many := ?v7) ?tw ?hh ?kk); (case tw => assumption); (case hh => assumption))
  | ((with_reducible refine f_many (CW := ?v1) (dx := ?v2) (t := ?v3) (l := ?v4) (w := ?v5) (told := ?v6) (many := ?v7) ?tw ?hh ?kk); (case tw => assumption); (case hh => assumption))
  | ((with_reducible refine w_ixL (v := ?vv) (xs := ?xx) ?hh ?h2 ?kk); (case hh => assumption); (case h2 => exact rfl)) | ((with_reducible refine w_ixT (v := ?vv) (xs := ?xx) ?hh ?h2 ?kk); (case hh => assumption); (case h2 => exact rfl)))
local macro_rules | `(tactic| tm_at "r") => `(tactic| repeat tm_at "s")
local macro_rules | `(tactic| tm_at "b") => `(tactic| first | refine w_iteT (by with_reducible rfl) ?_ | refine w_iteF (by with_reducible rfl) ?_ | refine w_iteT (by rfl) ?_ | refine w_iteF (by rfl) ?_)
local macro_rules | `(tactic| tm_at "e") => `(tactic| repeat (first | tm_at "s" | tm_at "b"))
namespace My
abbrev s_are_rising : Stmt := top 26
theorem sc_are_rising : FnScope ["width", "numbers", "number", "k"] ["width", "numbers"] (defScope s_are_rising) := ⟨rfl, rfl, rfl, by decide +kernel, rfl, by decide +kernel, by decide +kernel⟩
abbrev s_need_roster : Stmt := top 27
theorem sc_need_roster : FnScope ["width", "roster"] ["width", "roster"] (defScope s_need_roster) := ⟨rfl, rfl, rfl, by decide +kernel, rfl, by decide +kernel, by decide +kernel⟩
theorem num_is2 {w : Nat} {s : Str} (h : numD (w : Int) (.str s) = true) : ∃ x, s = B x ∧ x.length = w := by
  simp only [numD, Bool.and_eq_true, decide_eq_true_eq] at h
  obtain ⟨x, rfl⟩ := bits_is h.1
  exact ⟨x, rfl, by have := h.2; rw [B_len] at this; omega⟩
def TxOk (xs : List Str) : Prop := ∀ x ∈ xs, PyData.canLay0 (.str x) = true ∧ x.length ≤ 100000
theorem txOk_bits {ls : List Bits} (h : ∀ l ∈ ls, l.length ≤ 100000) : TxOk (ls.map B) := fun x hx => by
  obtain ⟨l, hl, rfl⟩ := List.mem_map.mp hx
  exact ⟨lay_B l, by rw [B_len]; exact h l hl⟩
def sp_are_rising (K : PySem.W.Frag) : Sp := fun vs H Q _ => ∃ (w : Nat) (p : Addr) (xs : List Str), vs = [.int (w : Int), .ref p] ∧ SqL K H p (xs.map V.str) ∧ xs.length ≤ 1000 ∧ TxOk xs ∧
  (IsRise w xs → ∀ H', Ext H H' → Q (.bl true) H') ∧ (¬ IsRise w xs → ∀ H', Ext H H' → Q (.bl false) H')
def IsRoster (w : Nat) (xs : List Str) : Prop := (1 ≤ xs.length ∧ xs.length ≤ 8) ∧ IsRise w xs
def sp_need_roster (K : PySem.W.Frag) (cW cR : Addr) : Sp := fun vs H Q E => ∃ (w : Int) (p : Addr) (xs : List Str), vs = [.int w, .ref p] ∧ SqL K H p (xs.map V.str) ∧ xs.length ≤ 1000 ∧ TxOk xs ∧ (¬ (1 ≤ w ∧ w ≤ 12) → E (.ref cW) none H) ∧
  ∀ n : Nat, w = (n : Int) → 1 ≤ n ∧ n ≤ 12 → (IsRoster n xs → ∀ H', Ext H H' → Q .non H') ∧ (¬ IsRoster n xs → ∀ H', Ext H H' → E (.ref cR) none H')
section
variable {P : Program} {w : World} {K : PySem.W.Frag} {mg : Str → Option Value} {base : Heap}
theorem ok_are_rising {f : Addr} {fd : FuncData} (F : Fun K "are_rising" "are_rising" s_are_rising f fd) (T : TxB mg) (C_is_number : Cal P w K mg base 2 "is_number" ["width", "part"] (sp_is_number K)) : FnOk P w K mg base (L2.CX P w) 3 f fd ["width", "numbers"] (sp_are_rising K) := by
  refine F.okX sc_are_rising (fun vs H Q E h => ?_) (fun cdv A outer s H vs Q E hr h => ⟨_, (pss_cons (ps_if (pt_cmpR (oNeD (K := K) rfl hr.units) (pe_lc (own := [("number", 2)]) (g := gName 2) rfl sc_are_rising.nd (piL (K := K) rfl (pv 1)) (blkOk_by (own := [("number", 2)]) (N := ["width", "numbers", "number", "k"]) (sc := defScope s_are_rising) (by decide +kernel)) (fun _ _ _ _ _ => pg_name (i := 2) sc_are_rising.nd rfl (Or.inl rfl)) (fun _ _ _ _ _ => pts_one (pt_not (pt_val (pe_cal (E := E0) C_is_number (hr.mono (by first | decide | omega)) passL (pa_cons (pv 0) (pa_cons (pv 2) pa_nil)))))) (fun _ _ _ _ _ => (pv 2))) (pe_lst pa_nil) (nomark _))
 (pss_one (ps_ret pe_bl))
 pss_nil)
 (pss_one (ps_ret (pe_cmpR (oEqD (K := K) rfl hr.units) (pe_lc (own := [("k", 3)]) (g := gName 3) rfl sc_are_rising.nd (pi_range2 rfl T.n_range (pa_cons pe_int (pa_cons (pe_callB (cLen (K := K) rfl) (by rfl) T.n_len (by decide +kernel) (pa_cons (pv 1) pa_nil)) pa_nil))) (blkOk_by (own := [("k", 3)]) (N := ["width", "numbers", "number", "k"]) (sc := defScope s_are_rising) (by decide +kernel)) (fun _ _ _ _ _ => pg_name (i := 3) sc_are_rising.nd rfl (Or.inl rfl)) (fun _ _ _ _ _ => pts_one (pt_cmpR (opLeS (room65 hr)) (pe_ix (ixL (K := K) rfl) (pv 1) (pv 3) (fun _ _ => rfl)) (pe_ix (ixL (K := K) rfl) (pv 1) (pe_op op_sub (pv 3) pe_int) (fun _ _ => rfl)) (nomark _))) (fun _ _ _ _ _ => (pv 3))) (pe_lst pa_nil) (nomark _))))), ?_⟩)
  · obtain ⟨n, p, xs, rfl, _⟩ := h
    rfl
  · obtain ⟨n, p, xs, rfl, hp, hz, ht, q1, q2⟩ := h
    tm_at "r"
    refine lcFx (gv := V.str) (bs := xs) (fun x => !numD (n : Int) (.str x)) hp (fun l => nsh_strs l) (by omega) (fun _ => rfl) (fun x H1 NF NE hx e1 kF kE => ?_) fun D H1 hD e1 hD1 => ?_
    · tm_at "r"
      refine u_is_number (.str _) ⟨(ht x hx).1, fun y e => by cases e; exact (ht x hx).2⟩ fun H2 e2 => ?_
      tm_at "r"
      refine w_iteB (fun c => ?_) fun c => ?_
      · tm_at "r"
        exact kE c _ e2
      · exact kF c _ e2
    · tm_at "r"
      intro z H2 hz2 e2 hz3
      have e12 := e1.trans e2
      refine w_neDb (b := decide ((xs.filter fun x => !numD (n : Int) (.str x)) = [])) (dp_texts (SqL.of (e2.st _ _ hD1 (nsh_strs _)))) (dp_e (SqL.of hz3)) (shaped_texts fun x hx => (ht x (List.mem_filter.mp hx).1).1) shaped_e (eqv_e _ _) ?_
      tm_at "r"
      refine w_iteN (fun c => ?_) fun c => ?_
      · tm_at "r"
        refine q2 (fun h => c ?_) _ e12
        obtain ⟨ls, rfl, h2, _⟩ := h
        rw [List.filter_eq_nil_iff]
        intro x hx
        obtain ⟨l, hl, rfl⟩ := List.mem_map.mp hx
        rw [numD_bits, h2 l hl]
        simp
      · have hall : ∀ x ∈ xs, ∃ l, x = B l ∧ l.length = n := fun x hx => by
          have := List.filter_eq_nil_iff.mp c x hx
          exact num_is2 (by simpa using this)
        obtain ⟨ls, rfl, hls⟩ : ∃ ls : List Bits, xs = ls.map B ∧ ∀ l ∈ ls, l.length = n := by
          clear q1 q2 c hp ht hz hD1
          induction xs with
          | nil => exact ⟨[], rfl, by simp⟩
          | cons x xs ih =>
            obtain ⟨l, rfl, hl⟩ := hall x (by simp)
            obtain ⟨ls, rfl, h2⟩ := ih fun y hy => hall y (List.mem_cons_of_mem _ hy)
            exact ⟨l :: ls, rfl, fun y hy => by
              rcases List.mem_cons.mp hy with rfl | hy
              · exact hl
              · exact h2 y hy⟩
        have ebv : (ls.map B).map V.str = bvs ls := by rw [List.map_map]; rfl
        rw [ebv] at hp
        have hp2 := e12.seq (nsh_bvs _) hp
        rw [List.length_map] at hz
        tm_at "r"
        rw [bvs_len]
        refine w_rngOk2 (lo := 1) (n := (ls.length : Int)) (by omega) (by omega) ?_
        rw [show ((ls.length : Int) - 1).toNat = ls.length - 1 by omega]
        refine lcFy (gv := fun j : Nat => V.int (1 + (j : Int))) (bs := List.range (ls.length - 1)) (fun j => !blt (ls.getD j []) (ls.getD (j + 1) [])) src_rngL (fun l => nsh_mapint _ l) (by rw [List.length_range]; omega) (fun _ => rfl) (fun j H3 NF NE hj e3 kF kE => ?_) fun D2 H3 hD2 e3 hD3 => ?_
        · have hj := List.mem_range.mp hj
          have hp3 := e3.seq (nsh_bvs _) hp2
          obtain ⟨a, ha⟩ : ∃ a, ls[j]? = some a := ⟨_, List.getElem?_eq_getElem (by omega)⟩
          obtain ⟨b, hb⟩ : ∃ b, ls[j + 1]? = some b := ⟨_, List.getElem?_eq_getElem (by omega)⟩
          have ea : ls.getD j [] = a := by rw [List.getD_eq_getElem?_getD, ha]; rfl
          have eb : ls.getD (j + 1) [] = b := by rw [List.getD_eq_getElem?_getD, hb]; rfl
          rw [ea, eb] at kF kE
          tm_at "r"
          refine w_ixL (v := .str (B b)) hp3 (by
            rw [show (1 : Int) + (j : Int) = ((j + 1 : Nat) : Int) by omega]
            exact atI_k (bvs_at hb)) ?_
          tm_at "r"
          refine w_ixL (v := .str (B a)) hp3 (by
            rw [show (1 : Int) + (j : Int) - 1 = ((j : Nat) : Int) by omega]
            exact atI_k (bvs_at ha)) ?_
          refine w_leB ?_
          tm_at "r"
          refine w_iteB (fun c => ?_) fun c => ?_
          · tm_at "r"
            exact kE c _ (Ext.refl _)
          · exact kF c _ (Ext.refl _)
        · tm_at "r"
          intro z2 H4 hz4 e4 hz5
          refine w_eqDb (b := decide (((List.range (ls.length - 1)).filter fun j => !blt (ls.getD j []) (ls.getD (j + 1) [])) = [])) (dp_intl (SqL.of (e4.st _ _ hD3 (nsh_mapint _ _)))) (dp_e (SqL.of hz5)) (shaped_intl _ _) shaped_e (eqv_e _ _) ?_
          tm_at "r"
          have e14 := e12.trans (e3.trans e4)
          by_cases c : Rise ls
          · rw [decide_eq_true (rise_chain_iff.mpr c)]
            exact q1 ((isRise_bits hls).mpr c) _ e14
          · rw [decide_eq_false fun h => c (rise_chain_iff.mp h)]
            exact q2 (fun h => c ((isRise_bits hls).mp h)) _ e14
theorem ok_need_roster {f cW cR : Addr} {fd : FuncData} {tn : Tok} (F : Fun K "need_roster" "need_roster" s_need_roster f fd) (T : TxB mg) (k_MOST_NAMES_rosters : mg "MOST_NAMES_rosters" = some (.int 8 tn)) (C_need_width : Cal P w K mg base 1 "need_width" ["width"] (sp_need_width cW)) (C_are_rising : Cal P w K mg base 3 "are_rising" ["width", "numbers"] (sp_are_rising K)) (X_BadRoster : ExcC K mg "BadRoster" cR) :
    FnOk P w K mg base (L2.CX P w) 4 f fd ["width", "roster"] (sp_need_roster K cW cR) := by
  refine F.okX sc_need_roster (fun vs H Q E h => ?_) (fun cdv A outer s H vs Q E hr h => ⟨_, (pss_cons (ps_expr (pe_cal (E := E) C_need_width (hr.mono (by first | decide | omega)) (passes_call (takes_of rfl rfl rfl rfl) (fun _ _ _ _ h => h)) (pa_cons (pv 0) pa_nil)))
 (pss_one (ps_if (PW.pt (pw_or (pt_not (pt_chain op_le op_le pe_int (pe_callB (cLen (K := K) rfl) (by rfl) T.n_len (by decide +kernel) (pa_cons (pv 1) pa_nil)) (pe_glob (v := .int 8) rfl k_MOST_NAMES_rosters ⟨_, rfl⟩))) (pw_or1 (pt_not (pt_val (pe_cal (E := E) C_are_rising (hr.mono (by first | decide | omega)) (passes_call (takes_of rfl rfl rfl rfl) (fun _ _ _ _ h => h)) (pa_cons (pv 0) (pa_cons (pv 1) pa_nil))))))))
 (pss_one (ps_raise rfl (takes_of rfl rfl rfl rfl) (pmkC X_BadRoster)))
 pss_nil))), ?_⟩)
  · obtain ⟨n, p, xs, rfl, _⟩ := h
    rfl
  · obtain ⟨n, p, xs, rfl, hp, hz, ht, kw, kr⟩ := h
    tm_at "r"
    refine ⟨n, rfl, fun hw => ?_, kw⟩
    obtain ⟨m, rfl⟩ : ∃ m : Nat, n = (m : Int) := ⟨n.toNat, by omega⟩
    obtain ⟨k1, k2⟩ := kr m rfl (by omega)
    tm_at "r"
    rw [List.length_map]
    refine w_iteD (fun c1 => ?_) fun c1 => ?_
    · tm_at "r"
      refine w_iteN (fun c2 => ?_) fun c2 => ?_
      · tm_at "r"
        tm_at "b"
        exact k2 (fun h => c2 (by have := h.1.2; omega)) _ (Ext.refl _)
      · tm_at "r"
        refine ⟨m, p, xs, rfl, hp, hz, ht, fun hr => ?_, fun hr => ?_⟩
        · intro H1 e1
          tm_at "r"
          tm_at "b"
          tm_at "r"
          exact k1 ⟨⟨by omega, by omega⟩, hr⟩ _ e1
        · intro H1 e1
          tm_at "r"
          tm_at "b"
          exact k2 (fun h => hr h.2) _ e1
    · tm_at "r"
      tm_at "b"
      tm_at "b"
      exact k2 (fun h => c1 (by have := h.1.1; omega)) _ (Ext.refl _)
end
end My
end

section
set_option pp.maxSteps 700
open PySem L2 Lw
local macro_rules | `(tactic| tm_at "s") => `(tactic| first
  | with_reducible refine w_seq ?_ | with_reducible refine w_asg ?_ | with_reducible refine w_gname ?_ | with_reducible refine w_ret ?_ | with_reducible refine w_drop ?_ | with_reducible refine w_ifS ?_ | with_reducible refine w_next ?_ | with_reducible refine w_retN ?_
  | with_reducible refine w_c ?_ | ((with_reducible refine w_var (v := ?vv) ?hh ?kk); (case hh => exact rfl)) | with_reducible refine w_op ?_ | with_reducible refine w_un ?_ | with_reducible refine w_cons ?_ | with_reducible refine w_nil ?_ | with_reducible refine w_test ?_ | with_reducible refine w_B ?_
  | with_reducible refine w_isbl ?_ | with_reducible refine w_not ?_ | with_reducible refine w_and ?_ | with_reducible refine w_or ?_ | with_reducible refine w_andV ?_ | with_reducible refine w_orV ?_ | with_reducible refine w_notV ?_ | with_reducible refine w_if ?_ | with_reducible refine w_chain ?_
  | with_reducible refine w_isN ?_ | with_reducible refine w_notN ?_ | with_reducible refine w_yes ?_ | with_reducible refine w_call ?_ | with_reducible refine w_CB ?_ | with_reducible refine w_tup ?_ | with_reducible refine w_lst ?_ | with_reducible refine w_sl ?_ | with_reducible refine w_noPart ?_
  | with_reducible refine w_part ?_ | with_reducible refine w_isint ?_ | with_reducible refine w_gSub ?_ | with_reducible refine w_break ?_ | with_reducible refine w_cont ?_
  | with_reducible refine w_I0 ?_ | with_reducible refine w_eqI ?_ | with_reducible refine w_neI ?_ | with_reducible refine w_eqS ?_ | with_reducible refine w_neS ?_ | with_reducible refine w_eqB ?_ | with_reducible refine w_neB ?_ | ((with_reducible refine w_isi (d := ?dd) ?hh ?kk); (case hh => assumption))
  | with_reducible refine w_sg ?_ | with_reducible refine w_notSg ?_ | with_reducible refine w_starts ?_ | with_reducible refine w_max2 ?_ | with_reducible refine w_min2 ?_ | with_reducible refine w_intB ?_ | with_reducible refine w_intI ?_ | with_reducible refine w_bm ?_ | with_reducible refine w_bm0 ?_ | with_reducible refine w_m1 ?_ | with_reducible refine w_m0 ?_ | with_reducible refine w_isstr ?_
  | with_reducible refine w_for ?_ | with_reducible refine w_lc ?_ | with_reducible refine w_rng ?_ | with_reducible refine w_rng2 ?_ | with_reducible refine w_ilist ?_ | with_reducible refine w_itup ?_ | with_reducible refine w_istr ?_ | with_reducible refine w_strOk ?_
  | ((with_reducible refine w_rngOk ?hh ?h2 ?kk); (case hh => omega); (case h2 => omega)) | ((with_reducible refine w_lstOk (xs := ?xx) ?hh ?kk); (case hh => assumption))
  | ((with_reducible refine w_alL ?hh ?kk); (case hh => exact Nat.le_of_ble_eq_true rfl)) | ((with_reducible refine w_alT ?hh ?kk); (case hh => exact Nat.le_of_ble_eq_true rfl))
  | ((with_reducible refine w_lenL (xs := ?xx) ?hh ?kk); (case hh => assumption)) | ((with_reducible refine w_lenT (xs := ?xx) ?hh ?kk); (case hh => assumption))
  | ((with_reducible refine w_I ?hh ?kk); (case hh => first | (show _ ≠ (0 : Int); omega) | (show (0 : Int) < _; omega) | exact ⟨by omega, by omega⟩ | exact .inl ⟨by omega, by omega⟩ | exact .inr ⟨by omega, by omega⟩ | exact ⟨by decide, by decide, by decide⟩))
  | with_reducible refine w_din ?_ | with_reducible refine w_dnot ?_ | with_reducible refine w_dget ?_ | with_reducible refine w_dput ?_ | with_reducible refine w_fld ?_ | with_reducible refine w_sto ?_ | with_reducible refine w_meth ?_ | with_reducible refine w_pop1 ?_ | with_reducible refine w_pop2 ?_ | with_reducible refine w_ikeys ?_
  | ((with_reducible refine f_width (CW := ?v1) (dx := ?v2) (t := ?v3) (l := ?v4) (w := ?v5) (told := ?v6) (many := ?v7) ?tw ?hh ?kk); (case tw => assumption); (case hh => assumption))
  | ((with_reducible refine f_things (CW := ?v1) (dx := ?v2) (t := ?v3) (l := ?v4) (w := ?v5) (told := ?v6) (many := ?v7) ?tw ?hh ?kk); (case tw => assumption); (case hh => assumption))
  | ((with_reducible refine f_listening (CW := ?v1) (dx := ?v2) (t := ?v3) (l := ?v4) (w := ?v5) (told := ?v6) (many := ?v7) ?tw ?hh ?kk); (case tw => assumption); (case hh => assumption))
  | ((with_reducible refine f_tolds (CW := ?v1) (dx := ?v2) (t := ?v3) (l := ?v4) (w := ?v5) (b := ?v6) (many := ?v7) ?tw ?hh ?kk); (case tw => assumption); (case hh => assumption))
  | ((with_reducible refine f_told (CW := ?v1) (dx := ?v2) (t := ?v3) (l := ?v4) (w := ?v5) (told := ?v6) (many := ?v7) ?tw ?hh ?kk); (case tw => assumption); (case hh => assumption))
  | ((with_reducible refine f_many (CW := ?v1) (dx := ?v2) (t := ?v3) (l := ?v4) (w := ?v5) (told := ?v6) (many := ?v7) ?tw ?hh ?kk); (case tw => assumption); (case hh => assumption))
  | ((with_reducible refine w_ixL (v := ?vv) (xs := ?xx) ?hh ?h2 ?kk); (case hh => assumption); (case h2 => exact rfl)) | ((with_reducible refine w_ixT (v := ?vv) (xs := ?xx) ?hh ?h2 ?kk); (case hh => assumption); (case h2 => exact rfl)))
local macro_rules | `(tactic| tm_at "r") => `(tactic| repeat tm_at "s")
local macro_rules | `(tactic| tm_at "b") => `(tactic| first | refine w_iteT (by with_reducible rfl) ?_ | refine w_iteF (by with_reducible rfl) ?_ | refine w_iteT (by rfl) ?_ | refine w_iteF (by rfl) ?_)
local macro_rules | `(tactic| tm_at "e") => `(tactic| repeat (first | tm_at "s" | tm_at "b"))
namespace My
abbrev s_all_sets : Stmt := top 28
theorem sc_all_sets : FnScope ["roster", "found", "number", "some"] ["roster"] (defScope s_all_sets) := ⟨rfl, rfl, rfl, by decide +kernel, rfl, by decide +kernel, by decide +kernel⟩
def sp_all_sets (K : PySem.W.Frag) : Sp := fun vs H Q _ => ∃ (p : Addr) (ls : List Bits), vs = [.ref p] ∧ SqL K H p (bvs ls) ∧ ls.length ≤ 8 ∧ ls.Nodup ∧
  ∀ (q : Addr) (ps : List Addr) (Ss : List (List Bits)) (H' : Hp), H q = none → Ext H H' → H' q = some (.lst (ps.map V.ref)) → TupsB K H' ps Ss → Ss.Perm (subs ls) → RiseS Ss → Q (.ref q) H'
section
variable {P : Program} {w : World} {K : PySem.W.Frag} {mg : Str → Option Value} {base : Heap}
theorem ok_all_sets {f : Addr} {fd : FuncData} (F : Fun K "all_sets" "all_sets" s_all_sets f fd) (T : TxB mg) : FnOk P w K mg base (L2.CX P w) 1 f fd ["roster"] (sp_all_sets K) := by
  refine F.okX sc_all_sets (fun vs H Q E h => ?_) (fun cdv A outer s H vs Q E hr h => ⟨_, (pss_cons (ps_set (i := 1) sc_all_sets.nd rfl (by first | exact Or.inl rfl | exact Or.inr rfl) (pe_lst (pa_cons (pe_tup pa_nil) pa_nil)))
 (pss_cons (ps_for (passes_of rfl) rfl (piL (K := K) rfl (pv 0)) (pg_name (i := 2) sc_all_sets.nd rfl (by first | exact Or.inl rfl | exact Or.inr rfl))
 (pss_one (ps_set (i := 1) sc_all_sets.nd rfl (by first | exact Or.inl rfl | exact Or.inr rfl) (pe_op op_cat (pv 1) (pe_lc (own := [("some", 3)]) (g := gName 3) (tt := tYes) rfl sc_all_sets.nd (piL (K := K) rfl (pv 1)) (blkOk_by (own := [("some", 3)]) (N := ["roster", "found", "number", "some"]) (sc := defScope s_all_sets) (by decide +kernel)) (fun _ _ _ _ _ => pg_name (i := 3) sc_all_sets.nd rfl (Or.inl rfl)) (fun _ _ _ _ _ => pts_nil) (fun _ _ _ _ _ => (pe_op (oCatT (K := K) rfl) (pv 3) (pe_tup (pa_cons (pv 2) pa_nil)))))))))
 (pss_one (ps_ret (pe_callB (cSortU (K := K) rfl (room65 hr)) (by rfl) T.n_sorted (by decide +kernel) (pa_cons (pv 1) pa_nil)))))), ?_⟩)
  · obtain ⟨p, ls, rfl, _⟩ := h
    rfl
  · obtain ⟨p, ls, rfl, hp, hz, nd, q⟩ := h
    tm_at "r"
    intro e0 H1 he0 e1 he1
    tm_at "r"
    intro z H2 hz0 e2 hz2
    have hpow : ∀ i, (subs (ls.take i)).length ≤ 256 := fun i => by
      rw [subs_len, List.length_take]
      exact Nat.le_trans (Nat.pow_le_pow_right (by decide) (show min i ls.length ≤ 8 by omega)) (by decide)
    have E0 := e1.trans e2
    tm_at "r"
    refine w_lstOk (E0.seq (nsh_bvs _) hp) ?_
    refine forL (fun i σ H' => ∃ (y2 : Option V) (q : Addr) (ps : List Addr), σ = [some (.ref p), some (.ref q), y2, none] ∧ Ext H H' ∧ H' q = some (.lst (ps.map V.ref)) ∧ TupsB K H' ps (subs (ls.take i)) ∧ H q = none)
      (fun i σ H' ⟨_, _, _, _, e, _⟩ => e.seq (nsh_bvs _) hp) ⟨none, z, [e0], rfl, E0, hz2, .cons (SqT.of (e2.st _ _ he1 nsh_tup)) .nil, e1.free hz0⟩ ?_ ?_
    · rintro i x σ H3 NN hi ⟨y2, qq, ps, rfl, e3, hq, hps, hqn⟩ kN
      obtain ⟨u, hu, rfl⟩ := bvs_get hi
      have hsn : subs (ls.take (i + 1)) = subs (ls.take i) ++ (subs (ls.take i)).map fun s => s ++ [u] := by
        rw [List.take_succ, hu]
        exact subs_snoc _ u
      have hlen := paired_len hps
      have hb := hpow i
      have hin : ∀ S ∈ subs (ls.take i), S.length ≤ 8 := fun S hS => by
        have := (mem_subs.mp hS).length_le
        rw [List.length_take] at this
        omega
      rw [hsn] at kN
      generalize subs (ls.take i) = Ss at *
      tm_at "r"
      refine w_lstOk (SqL.of hq) ?_
      refine lcH (src_lst (SqL.of hq) (nsh_refs _)) (fun i acc H' => ∃ ts : List Addr, acc = ts.map V.ref ∧ TupsB K H' ts ((Ss.take i).map fun s => s ++ [u]))
        (fun i acc Ha Hb ⟨ts, h1, h2⟩ e => ⟨ts, h1, h2.ext e⟩) (fun i acc Ha D xs o hD ⟨ts, h1, h2⟩ => ⟨ts, h1, paired_mono (fun t p h => sqT_upd hD h) h2⟩) (fun Ha _ => ⟨[], rfl, .nil⟩) (fun i acc Ha ⟨ts, h1, _⟩ => (by rw [h1]; exact nsh_refs _)) (by rw [List.length_map]; omega) (fun _ => rfl) (fun i x acc H' NE hil hY hacc eH kE => ?_) (fun D acc H' hacc hD eH hDa hlen2 => ?_)
      · obtain ⟨ts, rfl, hts⟩ := hacc
        rw [List.getElem?_map] at hY
        cases hpi : ps[i]? with
        | none => rw [hpi] at hY; cases hY
        | some pi =>
          rw [hpi] at hY
          cases hY
          obtain ⟨S, hS, hSp⟩ := paired_at hps hpi
          have hSl := hin S (List.mem_of_getElem? hS)
          have hSp' := eH.tup hSp
          tm_at "r"
          intro n1 H5 hn1 e5 hn1'
          refine w_catA (e5.tup hSp') (SqT.of hn1') (by rw [bvs_len]; simp; omega) fun n2 H6 e6 hn2 => ?_
          have e56 := e5.trans e6
          refine kE _ _ e56 ⟨ts ++ [n2], by rw [List.map_append]; rfl, ?_⟩
          rw [List.take_succ, hS]
          simp only [Option.toList_some, List.map_append]
          refine paired_snoc ?_ (hts.ext e56)
          rw [show bvs S ++ [.str (B u)] = bvs (S ++ [u]) from bvs_append S [u]] at hn2
          exact hn2
      · obtain ⟨ts, rfl, hts⟩ := hacc
        rw [List.length_map, hlen, List.take_length] at hts
        rw [List.length_map] at hlen2
        have hq' := eH.st _ _ hq (nsh_refs _)
        rw [List.length_map] at hlen2
        tm_at "r"
        refine w_cat hq' hDa (by rw [List.length_map, List.length_map]; omega) fun n2 H6 hn2 e6 hn2' => ?_
        have e36 := eH.trans e6
        exact kN _ _ ⟨_, n2, ps ++ ts, rfl, e3.trans e36, by rw [hn2', List.map_append], paired_append (hts.ext e6) (hps.ext e36), e3.free (eH.free hn2)⟩
    · rintro σ H3 ⟨y2, qq, ps, rfl, e3, hq, hps, hqn⟩
      rw [bvs_len, List.take_length] at hps
      tm_at "r"
      refine w_sortU (SqL.of hq) hps (subs_nodup nd) (fun S r e => subs_head ls e) fun qs Ts l H4 hpm hsub hri hl e4 hl' hrows => ?_
      tm_at "r"
      exact q l qs Ts H4 (e3.free hl) (e3.trans e4) hl' hrows hpm hri
end
end My
end

section
set_option pp.maxSteps 700
open PySem L2 Lw
local macro_rules | `(tactic| tm_at "s") => `(tactic| first
  | with_reducible refine w_seq ?_ | with_reducible refine w_asg ?_ | with_reducible refine w_gname ?_ | with_reducible refine w_ret ?_ | with_reducible refine w_drop ?_ | with_reducible refine w_ifS ?_ | with_reducible refine w_next ?_ | with_reducible refine w_retN ?_
  | with_reducible refine w_c ?_ | ((with_reducible refine w_var (v := ?vv) ?hh ?kk); (case hh => exact rfl)) | with_reducible refine w_op ?_ | with_reducible refine w_un ?_ | with_reducible refine w_cons ?_ | with_reducible refine w_nil ?_ | with_reducible refine w_test ?_ | with_reducible refine w_B ?_
  | with_reducible refine w_isbl ?_ | with_reducible refine w_not ?_ | with_reducible refine w_and ?_ | with_reducible refine w_or ?_ | with_reducible refine w_andV ?_ | with_reducible refine w_orV ?_ | with_reducible refine w_notV ?_ | with_reducible refine w_if ?_ | with_reducible refine w_chain ?_
  | with_reducible refine w_isN ?_ | with_reducible refine w_notN ?_ | with_reducible refine w_yes ?_ | with_reducible refine w_call ?_ | with_reducible refine w_CB ?_ | with_reducible refine w_tup ?_ | with_reducible refine w_lst ?_ | with_reducible refine w_sl ?_ | with_reducible refine w_noPart ?_
  | with_reducible refine w_part ?_ | with_reducible refine w_isint ?_ | with_reducible refine w_gSub ?_ | with_reducible refine w_break ?_ | with_reducible refine w_cont ?_
  | with_reducible refine w_I0 ?_ | with_reducible refine w_eqI ?_ | with_reducible refine w_neI ?_ | with_reducible refine w_eqS ?_ | with_reducible refine w_neS ?_ | with_reducible refine w_eqB ?_ | with_reducible refine w_neB ?_ | ((with_reducible refine w_isi (d := ?dd) ?hh ?kk); (case hh => assumption))
  | with_reducible refine w_sg ?_ | with_reducible refine w_notSg ?_ | with_reducible refine w_starts ?_ | with_reducible refine w_max2 ?_ | with_reducible refine w_min2 ?_ | with_reducible refine w_intB ?_ | with_reducible refine w_intI ?_ | with_reducible refine w_bm ?_ | with_reducible refine w_bm0 ?_ | with_reducible refine w_m1 ?_ | with_reducible refine w_m0 ?_ | with_reducible refine w_isstr ?_
  | with_reducible refine w_for ?_ | with_reducible refine w_lc ?_ | with_reducible refine w_rng ?_ | with_reducible refine w_rng2 ?_ | with_reducible refine w_ilist ?_ | with_reducible refine w_itup ?_ | with_reducible refine w_istr ?_ | with_reducible refine w_strOk ?_
  | ((with_reducible refine w_rngOk ?hh ?h2 ?kk); (case hh => omega); (case h2 => omega)) | ((with_reducible refine w_lstOk (xs := ?xx) ?hh ?kk); (case hh => assumption))
  | ((with_reducible refine w_alL ?hh ?kk); (case hh => exact Nat.le_of_ble_eq_true rfl)) | ((with_reducible refine w_alT ?hh ?kk); (case hh => exact Nat.le_of_ble_eq_true rfl))
  | ((with_reducible refine w_lenL (xs := ?xx) ?hh ?kk); (case hh => assumption)) | ((with_reducible refine w_lenT (xs := ?xx) ?hh ?kk); (case hh => assumption))
  | ((with_reducible refine w_I ?hh ?kk); (case hh => first | (show _ ≠ (0 : Int); omega) | (show (0 : Int) < _; omega) | exact ⟨by omega, by omega⟩ | exact .inl ⟨by omega, by omega⟩ | exact .inr ⟨by omega, by omega⟩ | exact ⟨by decide, by decide, by decide⟩))
  | with_reducible refine w_din ?_ | with_reducible refine w_dnot ?_ | with_reducible refine w_dget ?_ | with_reducible refine w_dput ?_ | with_reducible refine w_fld ?_ | with_reducible refine w_sto ?_ | with_reducible refine w_meth ?_ | with_reducible refine w_pop1 ?_ | with_reducible refine w_pop2 ?_ | with_reducible refine w_ikeys ?_
  | ((with_reducible refine f_width (CW := ?v1) (dx := ?v2) (t := ?v3) (l := ?v4) (w := ?v5) (told := ?v6) (many := ?v7) ?tw ?hh ?kk); (case tw => assumption); (case hh => assumption))
  | ((with_reducible refine f_things (CW := ?v1) (dx := ?v2) (t := ?v3) (l := ?v4) (w := ?v5) (told := ?v6) (many := ?v7) ?tw ?hh ?kk); (case tw => assumption); (case hh => assumption))
  | ((with_reducible refine f_listening (CW := ?v1) (dx := ?v2) (t := ?v3) (l := ?v4) (w := ?v5) (told := ?v6) (many := ?v7) ?tw ?hh ?kk); (case tw => assumption); (case hh => assumption))
  | ((with_reducible refine f_tolds (CW := ?v1) (dx := ?v2) (t := ?v3) (l := ?v4) (w := ?v5) (b := ?v6) (many := ?v7) ?tw ?hh ?kk); (case tw => assumption); (case hh => assumption))
  | ((with_reducible refine f_told (CW := ?v1) (dx := ?v2) (t := ?v3) (l := ?v4) (w := ?v5) (told := ?v6) (many := ?v7) ?tw ?hh ?kk); (case tw => assumption); (case hh => assumption))
  | ((with_reducible refine f_many (CW := ?v1) (dx := ?v2) (t := ?v3) (l := ?v4) (w := ?v5) (told := ?v6) (many := ?v7) ?tw ?hh ?kk); (case tw => assumption); (case hh => assumption))
  | ((with_reducible refine w_ixL (v := ?vv) (xs := ?xx) ?hh ?h2 ?kk); (case hh => assumption); (case h2 => exact rfl)) | ((with_reducible refine w_ixT (v := ?vv) (xs := ?xx) ?hh ?h2 ?kk); (case hh => assumption); (case h2 => exact rfl)))
local macro_rules | `(tactic| tm_at "r") => `(tactic| repeat tm_at "s")
local macro_rules | `(tactic| tm_at "b") => `(tactic| first | refine w_iteT (by with_reducible rfl) ?_ | refine w_iteF (by with_reducible rfl) ?_ | refine w_iteT (by rfl) ?_ | refine w_iteF (by rfl) ?_)
local macro_rules | `(tactic| tm_at "e") => `(tactic| repeat (first | tm_at "s" | tm_at "b"))
namespace My
abbrev s_parting : Stmt := top 29
theorem sc_parting : FnScope ["width", "roster", "sets", "found", "known", "beginning", "told", "alike", "some", "one"] ["width", "roster", "sets"] (defScope s_parting) := ⟨rfl, rfl, rfl, by decide +kernel, rfl, by decide +kernel, by decide +kernel⟩
def sp_parting (K : PySem.W.Frag) : Sp := fun vs H Q _ => ∃ (n : Nat) (p q : Addr) (ls : List Bits) (ps : List Addr) (Ss : List (List Bits)), vs = [.int (n : Int), .ref p, .ref q] ∧ (1 ≤ n ∧ n ≤ 12) ∧ SqL K H p (bvs ls) ∧ ls.length ≤ 40 ∧ (∀ x ∈ ls, x.length = n) ∧
  SqL K H q (ps.map V.ref) ∧ TupsB K H ps Ss ∧ (0 < Ss.length ∧ Ss.length ≤ 300) ∧ (∀ S ∈ Ss, S.length ≤ 40 ∧ ∀ x ∈ S, x.length = n) ∧
  ∀ (us : List Bits) (r : Addr) (rs : List Addr) (H' : Hp), H r = none → Ext H H' → H' r = some (.lst (rs.map V.ref)) → Rise us → (∀ b, b ∈ us ↔ Beg ls b ∧ b.length < n) → Paired (RowP K (fun _ => False) H' Ss) rs (unl Ss us) → Q (.ref r) H'
section
variable {P : Program} {w : World} {K : PySem.W.Frag} {mg : Str → Option Value} {base : Heap}
theorem ok_parting {f : Addr} {fd : FuncData} (F : Fun K "parting" "parting" s_parting f fd) (T : TxB mg) (C_beginnings_of : Cal P w K mg base 1 "beginnings_of" ["width", "numbers"] (sp_begof K)) (C_look_at : Cal P w K mg base 1 "look_at" ["numbers", "beginning"] (sp_look_at K)) : FnOk P w K mg base (L2.CX P w) 2 f fd ["width", "roster", "sets"] (sp_parting K) := by
  refine F.okX sc_parting (fun vs H Q E h => ?_) (fun cdv A outer s H vs Q E hr h => ⟨_, (pss_cons (ps_set (i := 3) sc_parting.nd rfl (by first | exact Or.inl rfl | exact Or.inr rfl) (pe_lst pa_nil))
 (pss_cons (ps_set (i := 4) sc_parting.nd rfl (by first | exact Or.inl rfl | exact Or.inr rfl) pe_dnewT)
 (pss_cons (ps_for (passes_of rfl) rfl (piL (K := K) rfl (pe_cal (E := E0) C_beginnings_of (hr.mono (by first | decide | omega)) passL (pa_cons (pv 0) (pa_cons (pv 1) pa_nil)))) (pg_name (i := 5) sc_parting.nd rfl (by first | exact Or.inl rfl | exact Or.inr rfl))
 (pss_cons (ps_set (i := 6) sc_parting.nd rfl (by first | exact Or.inl rfl | exact Or.inr rfl) (pe_lc (own := [("some", 8)]) (g := gName 8) (tt := tYes) rfl sc_parting.nd (piL (K := K) rfl (pv 2)) (blkOk_by (own := [("some", 8)]) (N := ["width", "roster", "sets", "found", "known", "beginning", "told", "alike", "some", "one"]) (sc := defScope s_parting) (by decide +kernel)) (fun _ _ _ _ _ => pg_name (i := 8) sc_parting.nd rfl (Or.inl rfl)) (fun _ _ _ _ _ => pts_nil) (fun _ _ _ _ _ => (pe_cal (E := E0) C_look_at (hr.mono (by first | decide | omega)) passL (pa_cons (pv 8) (pa_cons (pv 5) pa_nil))))))
 (pss_cons (ps_set (i := 7) sc_parting.nd rfl (by first | exact Or.inl rfl | exact Or.inr rfl) (pe_callTy (cTup (K := K) rfl) (by rfl) T.n_tuple (by decide +kernel) (pa_cons (pe_lc (own := [("one", 9)]) (g := gName 9) (tt := tYes) rfl sc_parting.nd (piL (K := K) rfl (pv 6)) (blkOk_by (own := [("one", 9)]) (N := ["width", "roster", "sets", "found", "known", "beginning", "told", "alike", "some", "one"]) (sc := defScope s_parting) (by decide +kernel)) (fun _ _ _ _ _ => pg_name (i := 9) sc_parting.nd rfl (Or.inl rfl)) (fun _ _ _ _ _ => pts_nil) (fun _ _ _ _ _ => (pBm (K := K) rfl PySem.F.plainAttrs_list PySem.F.slot_list_index PySem.F.type_list_index (mtIndexD (K := K) rfl (room65 hr)) (pv 6) (pa_cons (pv 9) pa_nil)))) pa_nil)))
 (pss_one (ps_if (PW.pt (pw_and (pt_cmp (pc_dnotin (hu_of hr) (pv 7) (pv 4))) (pw_and1 (pt_cmpR op_gt (pe_callB (cMaxT (K := K) rfl rfl (room65 hr)) (by rfl) T.n_max (by decide +kernel) (pa_cons (pv 7) pa_nil)) pe_int (nomark _)))))
 (pss_cons (ps_dput (hu_of hr) (pv 4) (pv 7) pe_bl rfl)
 (pss_one (ps_expr (pBm (K := K) rfl PySem.F.plainAttrs_list PySem.F.slot_list_append PySem.F.type_list_append mt_append (pv 3) (pa_cons (pe_tup (pa_cons (pv 5) (pa_cons (pv 6) pa_nil))) pa_nil)))))
 pss_nil)))))
 (pss_one (ps_ret (pv 3)))))), ?_⟩)
  · obtain ⟨n, p, q, ls, ps, Ss, rfl, _⟩ := h
    rfl
  · obtain ⟨n, p, q, ls, ps, Ss, rfl, hn, hp, hl40, hlen, hq, hps, hSz, hSl, k⟩ := h
    have hpl := paired_len hps
    tm_at "r"
    intro fo H1 hfo e1 hfo1
    tm_at "r"
    intro d hd
    have e2 : Ext H1 (upd H1 d (.dT [])) := Ext.new hd
    have hd2 : upd H1 d (.dT []) d = some (.dT (dN [])) := upd_same
    generalize upd H1 d (.dT []) = H2 at e2 hd2 ⊢
    have E0 := e1.trans e2
    tm_at "r"
    refine ⟨n, p, ls, rfl, hn.1, hn.2, E0.seq (nsh_bvs _) hp, hl40, hlen, fun us u H3 hu3 e3 hu3' hri hum => ?_⟩
    have nfu : u ≠ fo := fun e => by
      rw [e] at hu3
      rw [e2.st _ _ hfo1 nsh_nil] at hu3
      cases hu3
    have huz := beg_many hl40 hn.2 (rise_nodup hri) fun b hb => (hum b).mp hb
    have E3 := E0.trans e3
    have hfo3 := (e2.trans e3).st _ _ hfo1 nsh_nil
    have hd3 := e3.st _ _ hd2 nsh_dT
    have hfoH : H fo = none := hfo
    have hdH : H d = none := e1.free hd
    tm_at "r"
    refine w_lstOk (SqL.of hu3') ?_
    refine forL (fun i σ H' => ∃ (y5 y6 y7 : Option V) (rs : List Addr), σ = [some (.int (n : Int)), some (.ref p), some (.ref q), some (.ref fo), some (.ref d), y5, y6, y7, none, none] ∧ Ext H H' ∧ H' u = some (.lst (bvs us)) ∧ H' fo = some (.lst (rs.map V.ref)) ∧ H' d = some (.dT (dN ((unl Ss (us.take i)).map (al Ss)))) ∧ Paired (RowP K (fun t => t = fo ∨ t = u) H' Ss) rs (unl Ss (us.take i)))
      (fun i σ H' ⟨_, _, _, _, _, _, h, _⟩ => SqL.of h) ⟨none, none, none, [], rfl, E3, hu3', hfo3, hd3, .nil⟩ ?_ ?_
    · rintro i x σ H4 NN hi ⟨y5, y6, y7, rs, rfl, e4, hu4, hfo4, hd4, hrs⟩ kN
      obtain ⟨b, hb, rfl⟩ := bvs_get hi
      have hst : unl Ss (us.take (i + 1)) = if kp Ss (unl Ss (us.take i)) b then unl Ss (us.take i) ++ [b] else unl Ss (us.take i) := by
        rw [List.take_succ, hb]
        exact unl_snoc Ss _ b
      have hbl : b.length < n := ((hum b).mp (List.mem_of_getElem? hb)).2
      have hfz : (unl Ss (us.take i)).length ≤ 481 := Nat.le_trans (unl_len _ _) (by rw [List.length_take]; omega)
      have hrl := paired_len hrs
      rw [hst] at kN
      generalize unl Ss (us.take i) = fs at *
      have hq4 := e4.seq (nsh_refs _) hq
      have hps4 := hps.ext e4
      tm_at "r"
      refine lcH (src_lst hq4 (nsh_refs _)) (fun i acc H' => ∃ ts : List Addr, acc = ts.map V.ref ∧ BbsAt K H' ts ((Ss.take i).map (pr b)))
        (fun i acc Ha Hb ⟨ts, h1, h2⟩ e => ⟨ts, h1, h2.ext e⟩) (fun i acc Ha D xs o hD ⟨ts, h1, h2⟩ => ⟨ts, h1, paired_mono (fun t p h => sqT_upd hD h) h2⟩) (fun Ha _ => ⟨[], rfl, .nil⟩) (fun i acc Ha ⟨ts, h1, _⟩ => (by rw [h1]; exact nsh_refs _)) (by rw [List.length_map]; omega) (fun _ => rfl) (fun j x acc H5 NE hil hY hacc e5 kE => ?_) (fun t acc H5 hacc ht5 e5 ht5' hlen2 => ?_)
      · obtain ⟨ts, rfl, hts⟩ := hacc
        rw [List.getElem?_map] at hY
        cases hpi : ps[j]? with
        | none => rw [hpi] at hY; cases hY
        | some pi =>
          rw [hpi] at hY
          cases hY
          obtain ⟨S, hS, hSp⟩ := paired_at hps4 hpi
          obtain ⟨s1, s2⟩ := hSl S (List.mem_of_getElem? hS)
          tm_at "r"
          refine u_look_atT (e5.tup hSp) (by omega) (fun l hl => ⟨by rw [s2 l hl]; exact hbl, by rw [s2 l hl]; omega⟩) fun t H6 ht e6 ht6 => ?_
          refine kE _ _ e6 ⟨ts ++ [t], by rw [List.map_append]; rfl, ?_⟩
          rw [List.take_succ, hS]
          simp only [Option.toList_some, List.map_append]
          exact paired_snoc (r := fun t x => SqT K H6 t (bbV x)) (y := pr b S) (SqT.of ht6) (hts.ext e6)
      · obtain ⟨ts, rfl, hts⟩ := hacc
        rw [List.length_map, hpl, List.take_length] at hts
        have hfo5 := e5.st _ _ hfo4 (nsh_refs _)
        have hd5 := e5.st _ _ hd4 nsh_dT
        have hu5 := e5.st _ _ hu4 (nsh_bvs _)
        have nt : ¬ (t = fo ∨ t = u) := by
          rintro (rfl | rfl)
          · rw [hfo4] at ht5; cases ht5
          · rw [hu4] at ht5; cases ht5
        have hst5 := SqL.of (K := K) ht5'
        tm_at "r"
        have hX : ∃ X, X = Ss.map (pr b) := ⟨_, rfl⟩
        obtain ⟨X, hX⟩ := hX
        have hal : al Ss b = X.map (ix X) := by rw [hX]; rfl
        rw [← hX] at hts
        obtain ⟨bs, hb1, hb2, hbs⟩ := paired_zip hts
        have hbz : bs.length ≤ 300 := by
          have := congrArg List.length hb2
          rw [hX, List.length_map, List.length_map] at this
          omega
        have et : ts.map V.ref = bs.map fun c => V.ref c.1 := by rw [hb1, ← map_ref]
        refine lcMy (bs := bs) (gv := fun c : Addr × BB => V.ref c.1) (gw := fun c : Addr × BB => vN (ix X c.2)) (by
          have := src_lst hst5 (nsh_refs _)
          rw [et, List.length_map] at this
          exact this) (fun l => nsh_mapint (fun c : Addr × BB => (ix X c.2 : Int)) l) (by omega) (fun _ => rfl) (fun c H6 NE hc e6 kE => ?_) fun D H6 hD e6 hD6 => ?_
        · tm_at "r"
          refine w_tyL (SqL.of (e6.st _ _ ht5' (nsh_refs _))) ?_
          tm_at "r"
          refine w_indexN nice_bb (by decide) (x := c.2) (l := X) (by rw [hb2]; exact List.mem_map.mpr ⟨c, hc, rfl⟩) (dp_told (SqL.of (e6.st _ _ ht5' (nsh_refs _))) (hts.ext e6)) (dp_bbT (e6.tup (hbs c hc))) ?_
          exact kE _ (Ext.refl _)
        · have eD : (bs.map fun c : Addr × BB => vN (ix X c.2)) = (al Ss b).map vN := by
            have hm : ∀ f : BB → V, X.map f = bs.map fun c => f c.2 := fun f => by rw [hb2, List.map_map]; rfl
            rw [hal, List.map_map, hm]
            rfl
          rw [eD] at hD6
          tm_at "r"
          refine w_tupL (SqL.of hD6) fun a7 H7 ha7 e7 ha7' => ?_
          have e57 := e6.trans e7
          have hd7 := e57.st _ _ hd5 nsh_dT
          have hfo7 := e57.st _ _ hfo5 (nsh_refs _)
          have hu7 := e57.st _ _ hu5 (nsh_bvs _)
          have ht7 := e57.st _ _ ht5' (nsh_refs _)
          have hts7 : BbsAt K H7 ts X := hts.ext e57
          have hrs7 := paired_mono (fun r b (h : RowP K (fun t => t = fo ∨ t = u) H4 Ss r b) => h.ext (e5.trans e57)) hrs
          have E7 := e4.trans (e5.trans e57)
          tm_at "r"
          refine w_dnotN hd7 ha7' ?_
          tm_at "r"
          refine w_iteD (fun c1 => ?_) fun c1 => ?_
          · have hai : SqT K H7 a7 (((al Ss b).map fun k : Nat => (k : Int)).map V.int) := by
              rw [List.map_map]
              exact SqT.of ha7'
            tm_at "r"
            refine w_maxT hai (by rw [List.length_map, al_len]; exact hSz.1) fun m h1 h2 => ?_
            tm_at "r"
            rw [show decide ((0 : Int) < m) = (al Ss b).any fun k => decide (0 < k) from any_max h1 h2]
            refine w_iteB (fun c2 => ?_) fun c2 => ?_
            · have hkp : kp Ss fs b = true := by unfold kp; rw [decide_eq_true c1, c2]; rfl
              rw [if_pos hkp] at kN
              have nfd : fo ≠ d := fun e => by rw [e, hd7] at hfo7; cases hfo7
              have nud : u ≠ d := fun e => by rw [e, hd7] at hu7; cases hu7
              have ntd : t ≠ d := fun e => by rw [e, hd7] at ht7; cases ht7
              tm_at "r"
              refine w_dputN hd7 ha7' c1 (by rw [List.length_map]; omega) ?_
              have hrs8 : Paired (RowP K (fun t => t = fo ∨ t = u) (upd H7 d (.dT (dN (fs.map (al Ss) ++ [al Ss b])))) Ss) rs fs := by
                refine paired_mono (r := RowP K (fun t => t = fo ∨ t = u) H7 Ss) (fun r b h => ?_) hrs7
                exact h.updD hd7
              have hfo8 : upd H7 d (.dT (dN (fs.map (al Ss) ++ [al Ss b]))) fo = some (.lst (rs.map V.ref)) := (upd_ne nfd).trans hfo7
              have hu8 : upd H7 d (.dT (dN (fs.map (al Ss) ++ [al Ss b]))) u = some (.lst (bvs us)) := (upd_ne nud).trans hu7
              have ht8 : upd H7 d (.dT (dN (fs.map (al Ss) ++ [al Ss b]))) t = some (.lst (ts.map V.ref)) := (upd_ne ntd).trans ht7
              have hts8 : BbsAt K (upd H7 d (.dT (dN (fs.map (al Ss) ++ [al Ss b])))) ts X := paired_mono (fun t x h => sqT_updD hd7 h) hts7
              have hd8 : upd H7 d (.dT (dN (fs.map (al Ss) ++ [al Ss b]))) d = some (.dT (dN (fs.map (al Ss) ++ [al Ss b]))) := upd_same
              have E8 : Ext H (upd H7 d (.dT (dN (fs.map (al Ss) ++ [al Ss b])))) := E7.mut hdH
              generalize upd H7 d (.dT (dN (fs.map (al Ss) ++ [al Ss b]))) = H8 at *
              tm_at "r"
              refine w_tyL (SqL.of hfo8) ?_
              tm_at "r"
              intro r H9 hr9 e9 hr9'
              have hfo9 := e9.st _ _ hfo8 (nsh_refs _)
              tm_at "r"
              refine w_append hfo9 (by rw [List.length_map]; omega) ?_
              tm_at "r"
              refine kN _ _ ⟨_, _, _, rs ++ [r], rfl, (E8.trans e9).mut hfoH, ?_, ?_, ?_, ?_⟩
              · rw [upd_ne nfu]
                exact e9.st _ _ hu8 (nsh_bvs _)
              · rw [upd_same, List.map_append]
                rfl
              · rw [upd_ne nfd.symm, List.map_append]
                exact e9.st _ _ hd8 nsh_dT
              · refine paired_snoc ⟨t, nt, sqT_upd hfo9 (SqT.of hr9'), ts, ?_, ?_⟩ (paired_mono (fun r b h => (h.ext e9).updL hfo9 (.inl rfl)) hrs8)
                · rw [upd_ne (fun e => nt (.inl e))]
                  exact e9.st _ _ ht8 (nsh_refs _)
                · rw [← hX]
                  exact paired_mono (fun t x h => sqT_upd hfo9 h) (hts8.ext e9)
            · have hkp : kp Ss fs b = false := by unfold kp; rw [c2, Bool.and_false]
              rw [if_neg (by rw [hkp]; exact Bool.false_ne_true)] at kN
              tm_at "r"
              exact kN _ _ ⟨_, _, _, rs, rfl, E7, hu7, hfo7, hd7, hrs7⟩
          · have hkp : kp Ss fs b = false := by unfold kp; rw [decide_eq_false c1]; rfl
            rw [if_neg (by rw [hkp]; exact Bool.false_ne_true)] at kN
            tm_at "r"
            exact kN _ _ ⟨_, _, _, rs, rfl, E7, hu7, hfo7, hd7, hrs7⟩
    · rintro σ H4 ⟨y5, y6, y7, rs, rfl, e4, hu4, hfo4, hd4, hrs⟩
      rw [bvs_len, List.take_length] at hrs
      tm_at "r"
      exact k us fo rs H4 hfoH e4 hfo4 hri hum (paired_mono (fun r b h => h.free (fun _ z => z.elim)) hrs)
end
end My
end

section
set_option pp.maxSteps 700
open PySem L2 Lw
local macro_rules | `(tactic| tm_at "s") => `(tactic| first
  | with_reducible refine w_seq ?_ | with_reducible refine w_asg ?_ | with_reducible refine w_gname ?_ | with_reducible refine w_ret ?_ | with_reducible refine w_drop ?_ | with_reducible refine w_ifS ?_ | with_reducible refine w_next ?_ | with_reducible refine w_retN ?_
  | with_reducible refine w_c ?_ | ((with_reducible refine w_var (v := ?vv) ?hh ?kk); (case hh => exact rfl)) | with_reducible refine w_op ?_ | with_reducible refine w_un ?_ | with_reducible refine w_cons ?_ | with_reducible refine w_nil ?_ | with_reducible refine w_test ?_ | with_reducible refine w_B ?_
  | with_reducible refine w_isbl ?_ | with_reducible refine w_not ?_ | with_reducible refine w_and ?_ | with_reducible refine w_or ?_ | with_reducible refine w_andV ?_ | with_reducible refine w_orV ?_ | with_reducible refine w_notV ?_ | with_reducible refine w_if ?_ | with_reducible refine w_chain ?_
  | with_reducible refine w_isN ?_ | with_reducible refine w_notN ?_ | with_reducible refine w_yes ?_ | with_reducible refine w_call ?_ | with_reducible refine w_CB ?_ | with_reducible refine w_tup ?_ | with_reducible refine w_lst ?_ | with_reducible refine w_sl ?_ | with_reducible refine w_noPart ?_
  | with_reducible refine w_part ?_ | with_reducible refine w_isint ?_ | with_reducible refine w_gSub ?_ | with_reducible refine w_break ?_ | with_reducible refine w_cont ?_
  | with_reducible refine w_I0 ?_ | with_reducible refine w_eqI ?_ | with_reducible refine w_neI ?_ | with_reducible refine w_eqS ?_ | with_reducible refine w_neS ?_ | with_reducible refine w_eqB ?_ | with_reducible refine w_neB ?_ | ((with_reducible refine w_isi (d := ?dd) ?hh ?kk); (case hh => assumption))
  | with_reducible refine w_sg ?_ | with_reducible refine w_notSg ?_ | with_reducible refine w_starts ?_ | with_reducible refine w_max2 ?_ | with_reducible refine w_min2 ?_ | with_reducible refine w_intB ?_ | with_reducible refine w_intI ?_ | with_reducible refine w_bm ?_ | with_reducible refine w_bm0 ?_ | with_reducible refine w_m1 ?_ | with_reducible refine w_m0 ?_ | with_reducible refine w_isstr ?_
  | with_reducible refine w_for ?_ | with_reducible refine w_lc ?_ | with_reducible refine w_rng ?_ | with_reducible refine w_rng2 ?_ | with_reducible refine w_ilist ?_ | with_reducible refine w_itup ?_ | with_reducible refine w_istr ?_ | with_reducible refine w_strOk ?_
  | ((with_reducible refine w_rngOk ?hh ?h2 ?kk); (case hh => omega); (case h2 => omega)) | ((with_reducible refine w_lstOk (xs := ?xx) ?hh ?kk); (case hh => assumption))
  | ((with_reducible refine w_alL ?hh ?kk); (case hh => exact Nat.le_of_ble_eq_true rfl)) | ((with_reducible refine w_alT ?hh ?kk); (case hh => exact Nat.le_of_ble_eq_true rfl))
  | ((with_reducible refine w_lenL (xs := ?xx) ?hh ?kk); (case hh => assumption)) | ((with_reducible refine w_lenT (xs := ?xx) ?hh ?kk); (case hh => assumption))
  | ((with_reducible refine w_I ?hh ?kk); (case hh => first | (show _ ≠ (0 : Int); omega) | (show (0 : Int) < _; omega) | exact ⟨by omega, by omega⟩ | exact .inl ⟨by omega, by omega⟩ | exact .inr ⟨by omega, by omega⟩ | exact ⟨by decide, by decide, by decide⟩))
  | with_reducible refine w_din ?_ | with_reducible refine w_dnot ?_ | with_reducible refine w_dget ?_ | with_reducible refine w_dput ?_ | with_reducible refine w_fld ?_ | with_reducible refine w_sto ?_ | with_reducible refine w_meth ?_ | with_reducible refine w_pop1 ?_ | with_reducible refine w_pop2 ?_ | with_reducible refine w_ikeys ?_
  | ((with_reducible refine f_width (CW := ?v1) (dx := ?v2) (t := ?v3) (l := ?v4) (w := ?v5) (told := ?v6) (many := ?v7) ?tw ?hh ?kk); (case tw => assumption); (case hh => assumption))
  | ((with_reducible refine f_things (CW := ?v1) (dx := ?v2) (t := ?v3) (l := ?v4) (w := ?v5) (told := ?v6) (many := ?v7) ?tw ?hh ?kk); (case tw => assumption); (case hh => assumption))
  | ((with_reducible refine f_listening (CW := ?v1) (dx := ?v2) (t := ?v3) (l := ?v4) (w := ?v5) (told := ?v6) (many := ?v7) ?tw ?hh ?kk); (case tw => assumption); (case hh => assumption))
  | ((with_reducible refine f_tolds (CW := ?v1) (dx := ?v2) (t := ?v3) (l := ?v4) (w := ?v5) (b := ?v6) (many := ?v7) ?tw ?hh ?kk); (case tw => assumption); (case hh => assumption))
  | ((with_reducible refine f_told (CW := ?v1) (dx := ?v2) (t := ?v3) (l := ?v4) (w := ?v5) (told := ?v6) (many := ?v7) ?tw ?hh ?kk); (case tw => assumption); (case hh => assumption))
  | ((with_reducible refine f_many (CW := ?v1) (dx := ?v2) (t := ?v3) (l := ?v4) (w := ?v5) (told := ?v6) (many := ?v7) ?tw ?hh ?kk); (case tw => assumption); (case hh => assumption))
  | ((with_reducible refine w_ixL (v := ?vv) (xs := ?xx) ?hh ?h2 ?kk); (case hh => assumption); (case h2 => exact rfl)) | ((with_reducible refine w_ixT (v := ?vv) (xs := ?xx) ?hh ?h2 ?kk); (case hh => assumption); (case h2 => exact rfl)))
local macro_rules | `(tactic| tm_at "r") => `(tactic| repeat tm_at "s")
local macro_rules | `(tactic| tm_at "b") => `(tactic| first | refine w_iteT (by with_reducible rfl) ?_ | refine w_iteF (by with_reducible rfl) ?_ | refine w_iteT (by rfl) ?_ | refine w_iteF (by rfl) ?_)
local macro_rules | `(tactic| tm_at "e") => `(tactic| repeat (first | tm_at "s" | tm_at "b"))
namespace My
abbrev s_law_roster : Stmt := top 49
theorem sc_law_roster : FnScope ["_law_row", "_law_width_here", "_law_most", "_law_found"] ["_law_row", "_law_width_here", "_law_most"] (defScope s_law_roster) := ⟨rfl, rfl, rfl, by decide +kernel, rfl, by decide +kernel, by decide +kernel⟩
def sp_roster (K : PySem.W.Frag) : Sp := fun vs H Q _ => ∃ (r : Addr) (w most : Nat), vs = [.ref r, .int (w : Int), .int (most : Int)] ∧ RowOk K H r ∧ 1 ≤ w ∧ w ≤ 12 ∧ 1 ≤ most ∧ most ≤ 11 ∧
  ∀ (p : Addr) (ls : List Bits) (H' : Hp), H p = none → Ext H H' → H' p = some (.lst (bvs ls)) → Rise ls → (∀ l ∈ ls, l.length = w) → 1 ≤ ls.length ∧ ls.length ≤ most → Q (.ref p) H'
section
variable {P : Program} {w : World} {K : PySem.W.Frag} {mg : Str → Option Value} {base : Heap}
theorem ok_roster {f : Addr} {fd : FuncData} (F : Fun K "_law_roster" "_law_roster" s_law_roster f fd) (T : TxB mg) (C_law_number : Cal P w K mg base 2 "_law_number" ["_law_row", "_law_width_here"] (sp_number K))
    (C_law_things : Cal P w K mg base 4 "_law_things" ["_law_row", "_law_width_here", "_law_most"] (sp_things K)) : FnOk P w K mg base (L2.CX P w) 5 f fd ["_law_row", "_law_width_here", "_law_most"] (sp_roster K) := by
  refine F.okX sc_law_roster (fun vs H Q E h => ?_) (fun cdv A outer s H vs Q E hr h => ⟨_, (pss_cons (ps_set (i := 3) sc_law_roster.nd rfl (by first | exact Or.inl rfl | exact Or.inr rfl) (pe_cal (E := E0) C_law_things (hr.mono (by first | decide | omega)) passL (pa_cons (pv 0) (pa_cons (pv 1) (pa_cons (pv 2) pa_nil)))))
 (pss_one (ps_ret (pe_ifExp (pt_cmpR (oNeD (K := K) rfl hr.units) (pv 3) (pe_lst pa_nil) (nomark _)) (pv 3) (pe_lst (pa_cons (pe_cal (E := E0) C_law_number (hr.mono (by first | decide | omega)) passL (pa_cons (pv 0) (pa_cons (pv 1) pa_nil))) pa_nil)))))), ?_⟩)
  · obtain ⟨r, n, most, rfl, _⟩ := h
    rfl
  · obtain ⟨r, n, most, rfl, hrow, hn1, hn2, hm1, hm2, q⟩ := h
    tm_at "r"
    refine u_things hrow hn1 hn2 (by omega) fun p ls H3 hp e3 hp3 hri hlen _ hlm => ?_
    have hlm := hlm hm2
    tm_at "r"
    intro y H4 hy e4 hy4
    have hp4 := e4.st _ _ hp3 (nsh_bvs _)
    refine w_neLs (ls := ls) (ms := []) (SqL.of hp4) (SqL.of hy4) ?_
    tm_at "r"
    refine w_iteN (fun c => ?_) fun c => ?_
    · tm_at "r"
      exact q p ls H4 hp (e3.trans e4) hp4 hri hlen ⟨List.length_pos_iff.mpr c, hlm⟩
    · tm_at "r"
      refine ⟨r, (n : Int), rfl, e4.rowOk (e3.rowOk hrow), by omega, by omega, fun l H5 hl e5 => ?_⟩
      tm_at "r"
      intro u H6 hu e6 hu6
      refine q u [l] H6 (e3.free (e4.free (e5.free hu))) (((e3.trans e4).trans e5).trans e6) hu6 (List.pairwise_singleton _ _) (fun y hy => ?_) ⟨by simp, by simp; omega⟩
      rw [List.mem_singleton.mp hy]
      omega
end
end My
end

section
set_option pp.maxSteps 700
open PySem L2 Lw
local macro_rules | `(tactic| tm_at "s") => `(tactic| first
  | with_reducible refine w_seq ?_ | with_reducible refine w_asg ?_ | with_reducible refine w_gname ?_ | with_reducible refine w_ret ?_ | with_reducible refine w_drop ?_ | with_reducible refine w_ifS ?_ | with_reducible refine w_next ?_ | with_reducible refine w_retN ?_
  | with_reducible refine w_c ?_ | ((with_reducible refine w_var (v := ?vv) ?hh ?kk); (case hh => exact rfl)) | with_reducible refine w_op ?_ | with_reducible refine w_un ?_ | with_reducible refine w_cons ?_ | with_reducible refine w_nil ?_ | with_reducible refine w_test ?_ | with_reducible refine w_B ?_
  | with_reducible refine w_isbl ?_ | with_reducible refine w_not ?_ | with_reducible refine w_and ?_ | with_reducible refine w_or ?_ | with_reducible refine w_andV ?_ | with_reducible refine w_orV ?_ | with_reducible refine w_notV ?_ | with_reducible refine w_if ?_ | with_reducible refine w_chain ?_
  | with_reducible refine w_isN ?_ | with_reducible refine w_notN ?_ | with_reducible refine w_yes ?_ | with_reducible refine w_call ?_ | with_reducible refine w_CB ?_ | with_reducible refine w_tup ?_ | with_reducible refine w_lst ?_ | with_reducible refine w_sl ?_ | with_reducible refine w_noPart ?_
  | with_reducible refine w_part ?_ | with_reducible refine w_isint ?_ | with_reducible refine w_gSub ?_ | with_reducible refine w_break ?_ | with_reducible refine w_cont ?_
  | with_reducible refine w_I0 ?_ | with_reducible refine w_eqI ?_ | with_reducible refine w_neI ?_ | with_reducible refine w_eqS ?_ | with_reducible refine w_neS ?_ | with_reducible refine w_eqB ?_ | with_reducible refine w_neB ?_ | ((with_reducible refine w_isi (d := ?dd) ?hh ?kk); (case hh => assumption))
  | with_reducible refine w_sg ?_ | with_reducible refine w_notSg ?_ | with_reducible refine w_starts ?_ | with_reducible refine w_max2 ?_ | with_reducible refine w_min2 ?_ | with_reducible refine w_intB ?_ | with_reducible refine w_intI ?_ | with_reducible refine w_bm ?_ | with_reducible refine w_bm0 ?_ | with_reducible refine w_m1 ?_ | with_reducible refine w_m0 ?_ | with_reducible refine w_isstr ?_
  | with_reducible refine w_for ?_ | with_reducible refine w_lc ?_ | with_reducible refine w_rng ?_ | with_reducible refine w_rng2 ?_ | with_reducible refine w_ilist ?_ | with_reducible refine w_itup ?_ | with_reducible refine w_istr ?_ | with_reducible refine w_strOk ?_
  | ((with_reducible refine w_rngOk ?hh ?h2 ?kk); (case hh => omega); (case h2 => omega)) | ((with_reducible refine w_lstOk (xs := ?xx) ?hh ?kk); (case hh => assumption))
  | ((with_reducible refine w_alL ?hh ?kk); (case hh => exact Nat.le_of_ble_eq_true rfl)) | ((with_reducible refine w_alT ?hh ?kk); (case hh => exact Nat.le_of_ble_eq_true rfl))
  | ((with_reducible refine w_lenL (xs := ?xx) ?hh ?kk); (case hh => assumption)) | ((with_reducible refine w_lenT (xs := ?xx) ?hh ?kk); (case hh => assumption))
  | ((with_reducible refine w_I ?hh ?kk); (case hh => first | (show _ ≠ (0 : Int); omega) | (show (0 : Int) < _; omega) | exact ⟨by omega, by omega⟩ | exact .inl ⟨by omega, by omega⟩ | exact .inr ⟨by omega, by omega⟩ | exact ⟨by decide, by decide, by decide⟩))
  | with_reducible refine w_din ?_ | with_reducible refine w_dnot ?_ | with_reducible refine w_dget ?_ | with_reducible refine w_dput ?_ | with_reducible refine w_fld ?_ | with_reducible refine w_sto ?_ | with_reducible refine w_meth ?_ | with_reducible refine w_pop1 ?_ | with_reducible refine w_pop2 ?_ | with_reducible refine w_ikeys ?_
  | ((with_reducible refine f_width (CW := ?v1) (dx := ?v2) (t := ?v3) (l := ?v4) (w := ?v5) (told := ?v6) (many := ?v7) ?tw ?hh ?kk); (case tw => assumption); (case hh => assumption))
  | ((with_reducible refine f_things (CW := ?v1) (dx := ?v2) (t := ?v3) (l := ?v4) (w := ?v5) (told := ?v6) (many := ?v7) ?tw ?hh ?kk); (case tw => assumption); (case hh => assumption))
  | ((with_reducible refine f_listening (CW := ?v1) (dx := ?v2) (t := ?v3) (l := ?v4) (w := ?v5) (told := ?v6) (many := ?v7) ?tw ?hh ?kk); (case tw => assumption); (case hh => assumption))
  | ((with_reducible refine f_tolds (CW := ?v1) (dx := ?v2) (t := ?v3) (l := ?v4) (w := ?v5) (b := ?v6) (many := ?v7) ?tw ?hh ?kk); (case tw => assumption); (case hh => assumption))
  | ((with_reducible refine f_told (CW := ?v1) (dx := ?v2) (t := ?v3) (l := ?v4) (w := ?v5) (told := ?v6) (many := ?v7) ?tw ?hh ?kk); (case tw => assumption); (case hh => assumption))
  | ((with_reducible refine f_many (CW := ?v1) (dx := ?v2) (t := ?v3) (l := ?v4) (w := ?v5) (told := ?v6) (many := ?v7) ?tw ?hh ?kk); (case tw => assumption); (case hh => assumption))
  | ((with_reducible refine w_ixL (v := ?vv) (xs := ?xx) ?hh ?h2 ?kk); (case hh => assumption); (case h2 => exact rfl)) | ((with_reducible refine w_ixT (v := ?vv) (xs := ?xx) ?hh ?h2 ?kk); (case hh => assumption); (case h2 => exact rfl)))
local macro_rules | `(tactic| tm_at "r") => `(tactic| repeat tm_at "s")
local macro_rules | `(tactic| tm_at "b") => `(tactic| first | refine w_iteT (by with_reducible rfl) ?_ | refine w_iteF (by with_reducible rfl) ?_ | refine w_iteT (by rfl) ?_ | refine w_iteF (by rfl) ?_)
local macro_rules | `(tactic| tm_at "e") => `(tactic| repeat (first | tm_at "s" | tm_at "b"))
local macro_rules | `(tactic| tm_at "s") => `(tactic| first
  | ((with_reducible refine pl_sets (CL := ?v1) (dx := ?v2) (s := ?v3) (r := ?v4) (d := ?v5) ?tw ?hh ?kk); (case tw => assumption); (case hh => assumption))
  | ((with_reducible refine pl_rows (CL := ?v1) (dx := ?v2) (s := ?v3) (r := ?v4) (d := ?v5) ?tw ?hh ?kk); (case tw => assumption); (case hh => assumption))
  | ((with_reducible refine pl_known (CL := ?v1) (dx := ?v2) (s := ?v3) (r := ?v4) (d := ?v5) ?tw ?hh ?kk); (case tw => assumption); (case hh => assumption)))
local macro_rules | `(tactic| tm_at "q") => `(tactic| repeat (first | with_reducible refine w_next ?_ | with_reducible refine w_seq ?_))
namespace My
abbrev s_Planner_best : Stmt := inClass (top 35) 1
theorem sc_Planner_best : FnScope ["self", "some", "found", "beginning", "told", "parts", "tried", "answer", "place"] ["self", "some"] (defScope s_Planner_best) := ⟨rfl, rfl, rfl, by decide +kernel, rfl, by decide +kernel, by decide +kernel⟩
abbrev s_Planner_tried : Stmt := inClass (top 35) 2
theorem sc_Planner_tried : FnScope ["self", "beginning", "parts", "some", "many", "part", "one"] ["self", "beginning", "parts"] (defScope s_Planner_tried) := ⟨rfl, rfl, rfl, by decide +kernel, rfl, by decide +kernel, by decide +kernel⟩
section
variable (K : PySem.W.Frag) (CL : Addr)
def sp_best (f : Nat) : Sp := fun vs H Q _ => ∃ (a s r d dx t : Addr) (R us : List Bits) (Ss : List (List Bits)) (n : Nat) (l : List Nat), vs = [.ref a, .ref t] ∧ PAt K CL a s r d dx us Ss n H ∧ PlS R us Ss n ∧ H t = some (.tup (l.map vN)) ∧ KeyOk Ss.length l ∧ l ≠ [] ∧ l.length ≤ f ∧
  ∀ p m T H', MemAt K H' p m T → Best Ss n T l m → PAt K CL a s r d dx us Ss n H' → Step [d] [d] H H' → Q (.ref p) H'
def sp_tried (f : Nat) : Sp := fun vs H Q _ => ∃ (a s r d dx q : Addr) (ts : List Addr) (b : Bits) (R us : List Bits) (Ss : List (List Bits)) (n : Nat) (l : List Nat), vs = [.ref a, .str (B b), .ref q] ∧ PAt K CL a s r d dx us Ss n H ∧ PlS R us Ss n ∧ H q = some (.lst (ts.map V.ref)) ∧ Paired (fun t x => H t = some (.tup ((prt Ss b x l).map vN))) ts ANS ∧ KeyOk Ss.length l ∧ l ≠ [] ∧ (∀ x, (prt Ss b x l).length ≤ f) ∧ b.length < n ∧
  ∀ p m T H', MemAt K H' p m T → Right Ss n T l m → (∀ m', (∀ x, Can Ss n m' (prt Ss b x l)) → m ≤ m' + 1) → PAt K CL a s r d dx us Ss n H' → Step [d] [d] H H' → Q (.ref p) H'
end
section
variable {P : Program} {w : World} {K : PySem.W.Frag} {mg : Str → Option Value} {base : Heap} {CL : Addr}
theorem ok_tried {f : Addr} {fd : FuncData} {g : Nat} {jL : Tok} (F : Fun K "tried" "Planner.tried" s_Planner_tried f fd) (T : TxB mg) (TPl : ClPl K CL) (k_LOOK : mg "LOOK" = some (.str "look" jL)) (C_Planner_best : CalM P w K mg base (2 * g + 2) CL "best" ["self", "some"] (sp_best K CL g)) : FnOk P w K mg base (L2.CX P w) (2 * g + 3) f fd ["self", "beginning", "parts"] (sp_tried K CL g) := by
  have cl_Planner := TPl.cl
  refine F.okX sc_Planner_tried (fun vs H Q E h => ?_) (fun cdv A outer s H vs Q E hr h => ⟨_, (pss_cons (ps_setLc (i := 3) (own := [("part", 5)]) (g := gName 5) (tt := tYes) rfl sc_Planner_tried.nd rfl rfl (sw_true rfl rfl rfl (by decide +kernel)) (piL (K := K) rfl (pv 2)) (blkOk_by (own := [("part", 5)]) (N := ["self", "beginning", "parts", "some", "many", "part", "one"]) (sc := defScope s_Planner_tried) (by decide +kernel)) (fun _ _ _ _ _ => pg_name (i := 5) sc_Planner_tried.nd rfl (Or.inl rfl)) (fun _ _ _ _ _ => pts_nil) (fun _ _ _ _ _ => (pe_ifExp (pt_cmpR (oEqD (K := K) rfl hr.units) (pv 5) (pe_tup pa_nil) (nomark _)) pe_non (pe_me (E := E0) (pv 0) cl_Planner C_Planner_best (hr.mono (by first | decide | omega)) passL (pa_cons (pv 5) pa_nil)))))
 (pss_cons (ps_set (i := 4) sc_Planner_tried.nd rfl (by first | exact Or.inl rfl | exact Or.inr rfl) (pe_op op_add pe_int (pe_callB (cMax (K := K) rfl rfl) (by rfl) T.n_max (by decide +kernel) (pa_cons (pe_lc (own := [("one", 6)]) (g := gName 6) rfl sc_Planner_tried.nd (piL (K := K) rfl (pv 3)) (blkOk_by (own := [("one", 6)]) (N := ["self", "beginning", "parts", "some", "many", "part", "one"]) (sc := defScope s_Planner_tried) (by decide +kernel)) (fun _ _ _ _ _ => pg_name (i := 6) sc_Planner_tried.nd rfl (Or.inl rfl)) (fun _ _ _ _ _ => pts_one (pt_cmp (pc_notN (pv 6)))) (fun _ _ _ _ _ => (pe_ix (ixT (K := K) rfl) (pv 6) pe_int (fun _ _ => rfl)))) pa_nil))))
 (pss_one (ps_ret (pe_tup (pa_cons (pv 4) (pa_cons (pe_tup (pa_cons (pe_glob (v := .str "look") rfl k_LOOK ⟨_, rfl⟩) (pa_cons (pv 1) (pa_cons (pe_callTy (cTup (K := K) rfl) (by rfl) T.n_tuple (by decide +kernel) (pa_cons (pe_lc (own := [("one", 6)]) (g := gName 6) (tt := tYes) rfl sc_Planner_tried.nd (piL (K := K) rfl (pv 3)) (blkOk_by (own := [("one", 6)]) (N := ["self", "beginning", "parts", "some", "many", "part", "one"]) (sc := defScope s_Planner_tried) (by decide +kernel)) (fun _ _ _ _ _ => pg_name (i := 6) sc_Planner_tried.nd rfl (Or.inl rfl)) (fun _ _ _ _ _ => pts_nil) (fun _ _ _ _ _ => (pe_ifExp (pt_cmp (pc_isN (pv 6))) pe_non (pe_ix (ixT (K := K) rfl) (pv 6) pe_int (fun _ _ => rfl))))) pa_nil)) pa_nil)))) pa_nil))))))), ?_⟩)
  · obtain ⟨a, s, r, d, dx, q, ts, b, R, us, Ss, n, l, rfl, _⟩ := h
    rfl
  · obtain ⟨a, s, r, d, dx, q, ts, b, R, us, Ss, n, l, rfl, Z, W, hq, hts, hl, hne, hf, hb, k⟩ := h
    have hlk : ∀ x, KeyOk Ss.length (prt Ss b x l) := fun x => (prt_sub Ss b x l).trans hl
    obtain ⟨kv0, hd0⟩ := Z.dt
    have hqd : q ≠ d := fun e => by rw [e, hd0] at hq; cases hq
    have tsl : ts.length = 4 := paired_len hts
    tm_at "r"
    refine w_lstOk (SqL.of hq) ?_
    refine lcW (n := 4) (Y := fun i x => (ts.map V.ref)[i]? = some x) (fun D i acc H' => Paired (ResAt K Ss n b l H') acc (ANS.take i) ∧ Memo K d Ss n H' ∧ Step [d] [d] H H')
      (fun D i acc H' hi ⟨r1, r2, r3⟩ => ?_) (fun D H1 hD e => ⟨.nil, Z.hk.ext e, Step.of e⟩) (fun D i acc H1 xs ys hD hDx ⟨r1, r2, r3⟩ => ⟨paired_mono (fun v x h => h.tk (.updL hDx)) r1, r2.updL hDx, r3.mut hD⟩) (by decide) (fun i x acc H1 D NT NE hi hY hD hDa ⟨r1, r2, r3⟩ kF kE => ?_) fun D acc H1 ⟨r1, r2, r3⟩ hD hDa hlen => ?_
    · have h1 := src_lst (K := K) (SqL.of (r3.st _ _ hq (by simpa using hqd) (nsh_refs _))) (nsh_refs _) H' (Ext.refl _)
      rw [List.length_map, tsl] at h1
      exact ⟨fun h => h1.1 i h, fun h => by rw [h]; exact h1.2⟩
    · rw [List.getElem?_map] at hY
      cases hti : ts[i]? with
      | none => rw [hti] at hY; cases hY
      | some t =>
        rw [hti] at hY
        cases hY
        obtain ⟨x, hx, ht⟩ := paired_at hts hti
        have htd : t ≠ d := fun e => by rw [e, hd0] at ht; cases ht
        have ht1 := r3.st _ _ ht (by simpa using htd) nsh_tup
        tm_at "r"
        refine ⟨rfl, ?_⟩
        refine w_yes ?_
        rw [if_pos rfl]
        tm_at "r"
        intro e0 H2 he0 e2 he2
        have htk : ANS.take (i + 1) = ANS.take i ++ [x] := by rw [List.take_succ, hx]; rfl
        have ht2 := e2.st _ _ ht1 nsh_tup
        have nha := nsh_noints (res_nsh r1)
        have hD2 := e2.st _ _ hDa nha
        refine w_eqDb (b := decide (prt Ss b x l = [])) (dp_nat (SqT.of ht2)) (dp_nat (p := []) (SqT.of he2)) (nice_nats.shaped (by decide) _) (nice_nats.shaped (by decide) _) (nice_nats.eq _ _) ?_
        tm_at "r"
        refine w_iteD (fun c => ?_) fun c => ?_
        · tm_at "r"
          refine kE _ _ hD2 ⟨?_, r2.ext e2, r3.trans (Step.of e2)⟩
          rw [htk]
          exact paired_snoc (r := fun v x => ResAt K Ss n b l H2 v x) (y := x) ⟨fun _ => rfl, fun h => absurd c h⟩ (paired_mono (fun v x h => h.tk (.of e2)) r1)
        · tm_at "r"
          have Z1 := (Z.step r3 r2).ext e2
          have ob1 := Z1.ob
          refine w_meOk ob1 (by kernel_rfl) ?_
          tm_at "r"
          refine ⟨a, s, r, d, dx, t, R, us, Ss, n, prt Ss b x l, rfl, Z1, W, ht2, hlk x, c, hf x, fun p m T H3 hm hbest Z3 st3 => ?_⟩
          obtain ⟨kv2, hd2⟩ := Z1.dt
          have tk3 : TK K H2 H3 := .step hd2 st3
          have hDd : D ≠ d := fun e => by rw [e, hd2] at hD2; cases hD2
          refine kE _ _ (st3.st _ _ hD2 (by simpa using hDd) nha) ⟨?_, Z3.hk, (r3.trans (Step.of e2)).trans st3⟩
          rw [htk]
          exact paired_snoc (r := fun v x => ResAt K Ss n b l H3 v x) (y := x) ⟨fun h => absurd h c, fun _ => ⟨p, m, T, rfl, hm, hbest⟩⟩ (paired_mono (fun v x h => (h.tk (.of e2)).tk tk3) r1)
    · tm_at "r"
      obtain ⟨va, rfl, hva⟩ := ans_fun r1
      have hsk : ∀ x, ∃ y : Nat × Pl × V, (prt Ss b x l = [] → va x = .non ∧ y.2.1 = .non ∧ y.2.2 = .non) ∧ (prt Ss b x l ≠ [] → ∃ p, va x = .ref p ∧ SqT K H1 p [.int (y.1 : Int), y.2.2] ∧ Best Ss n y.2.1 (prt Ss b x l) y.1) ∧ PlAt K H1 y.2.2 y.2.1 := fun x => by
        obtain ⟨h1, h2⟩ := hva x
        by_cases c : prt Ss b x l = []
        · exact ⟨(0, .non, .non), fun _ => ⟨h1 c, rfl, rfl⟩, fun h => absurd c h, .non⟩
        · obtain ⟨p, m, T, e, ⟨v, h3, h4⟩, h5⟩ := h2 c
          exact ⟨(m, T, v), fun h => absurd h c, fun _ => ⟨p, e, h3, h5⟩, h4⟩
      obtain ⟨y, hy⟩ := Classical.skolem.mp hsk
      have noI : ∀ x i, va x ≠ .int i := fun x i e => by
        by_cases c : prt Ss b x l = []
        · rw [((hy x).1 c).1] at e; cases e
        · obtain ⟨p, h1, _⟩ := (hy x).2.1 c
          rw [h1] at e
          cases e
      have noJ : ∀ x i, (y x).2.2 ≠ .int i := fun x i e => by
        have := (hy x).2.2
        rw [e] at this
        cases this
      have all4 : ∀ x : BB, x ∈ ANS := fun ⟨x, y⟩ => by cases x <;> cases y <;> simp [ANS]
      have nshD : ¬ RowSh (.lst (ANS.map va)) := nsh_noint noI _
      refine w_lstOk (SqL.of hDa) ?_
      refine lcFz (gv := va) (gw := fun x => vN (y x).1) (bs := ANS) (fun x => decide (prt Ss b x l ≠ [])) (by have := src_lst (K := K) (SqL.of hDa) nshD; rwa [List.length_map] at this) (fun L => nsh_mapint (fun x : BB => (((y x).1 : Nat) : Int)) L) (by decide) (fun _ => rfl) (fun x H2 NF NE hx e2 kF kE => ?_) fun D2 H2 hD2 e2 hD2a => ?_
      · by_cases c : prt Ss b x l = []
        · have ev := ((hy x).1 c).1
          rw [ev]
          tm_at "r"
          tm_at "b"
          exact kF (by rw [decide_eq_false (fun h => h c)]) _ (Ext.refl _)
        · obtain ⟨p, ev, hp, _⟩ := (hy x).2.1 c
          rw [ev]
          have hp2 := e2.tup hp
          tm_at "r"
          tm_at "b"
          tm_at "r"
          exact kE (by rw [decide_eq_true c]) _ (Ext.refl _)
      · tm_at "r"
        obtain ⟨i0, hi0⟩ := List.exists_mem_of_ne_nil l hne
        have hns : (List.filter (fun x => decide (prt Ss b x l ≠ [])) ANS).map (fun x => vN (y x).1) = ((List.filter (fun x => decide (prt Ss b x l ≠ [])) ANS).map fun x => (((y x).1 : Nat) : Int)).map V.int := by
          rw [List.map_map]
          rfl
        rw [hns] at hD2a
        have hp0 : prt Ss b (pr b (gS Ss i0)) l ≠ [] := fun e => by
          have : i0 ∈ prt Ss b (pr b (gS Ss i0)) l := mem_prt.mpr ⟨hi0, rfl⟩
          rw [e] at this
          cases this
        refine ⟨D2, _, rfl, SqL.of hD2a, ?_, fun m hm1 hm2 => ?_⟩
        · refine List.length_pos_of_mem (a := (((y (pr b (gS Ss i0))).1 : Nat) : Int)) (List.mem_map.mpr ⟨pr b (gS Ss i0), List.mem_filter.mpr ⟨all4 _, decide_eq_true hp0⟩, rfl⟩)
        · obtain ⟨x0, hx0, rfl⟩ := List.mem_map.mp hm1
          have hx1 : prt Ss b x0 l ≠ [] := of_decide_eq_true (List.mem_filter.mp hx0).2
          have hall : ∀ x, prt Ss b x l ≠ [] → (y x).1 ≤ (y x0).1 := fun x hx => by
            have := hm2 _ (List.mem_map.mpr ⟨x, List.mem_filter.mpr ⟨all4 x, decide_eq_true hx⟩, rfl⟩)
            omega
          have hright := right_look (Ss := Ss) (n := n) (l := l) (b := b) (M := (y x0).1 + 1) (c := fun x => (y x).2.1) (mm := fun x => (y x).1) hb (fun x hx => ((hy x).1 hx).2.1) (fun x hx => by
            obtain ⟨p, _, _, h⟩ := (hy x).2.1 hx
            exact h) (fun x hx => by have := hall x hx; omega) ⟨x0, hx1, rfl⟩
          tm_at "r"
          have hDa2 := e2.st _ _ hDa nshD
          refine w_lstOk (SqL.of hDa2) ?_
          refine lcMy (gv := va) (gw := fun x => (y x).2.2) (bs := ANS) (by have := src_lst (K := K) (SqL.of hDa2) nshD; rwa [List.length_map] at this) (fun L => nsh_noint noJ L) (by decide) (fun _ => rfl) (fun x H3 NE hx e3 kE => ?_) fun D3 H3 hD3 e3 hD3a => ?_
          · by_cases c : prt Ss b x l = []
            · have ev := ((hy x).1 c).1
              have ev2 := ((hy x).1 c).2.2
              rw [ev2] at kE
              rw [ev]
              tm_at "e"
              exact kE _ (Ext.refl _)
            · obtain ⟨p, ev, hp, _⟩ := (hy x).2.1 c
              rw [ev]
              have hp2 := (e2.trans e3).tup hp
              tm_at "r"
              tm_at "b"
              tm_at "r"
              exact kE _ (Ext.refl _)
          · tm_at "r"
            refine w_tupL (SqL.of hD3a) fun t4 H4 ht4 e4 ht4' => ?_
            tm_at "r"
            intro t5 H5 ht5 e5 ht5'
            tm_at "r"
            intro t6 H6 ht6 e6 ht6'
            have E36 := e4.trans (e5.trans e6)
            have E := (e2.trans e3).trans E36
            refine k t6 ((y x0).1 + 1) _ H6 ⟨.ref t5, ?_, ?_⟩ hright.1 hright.2 ((Z.step r3 r2).ext E) (r3.trans (Step.of E))
            · rw [show (((y x0).1 + 1 : Nat) : Int) = 1 + (((y x0).1 : Nat) : Int) by omega]
              exact SqT.of ht6'
            · refine .look (SqT.of (e6.st _ _ ht5' nsh_tup)) (SqT.of ((e5.trans e6).st _ _ ht4' nsh_tup)) ((hy _).2.2.tk (.of E)) ((hy _).2.2.tk (.of E)) ((hy _).2.2.tk (.of E)) ((hy _).2.2.tk (.of E))
theorem ok_best {f ft a_ANSWERS : Addr} {fd ftd : FuncData} {jL jH : Tok} (F : Fun K "best" "Planner.best" s_Planner_best f fd) (Ft : Fun K "tried" "Planner.tried" s_Planner_tried ft ftd) (T : TxB mg) (TPl : ClPl K CL) (k_LOOK : mg "LOOK" = some (.str "look" jL)) (k_HUNG : mg "HUNG" = some (.str "hung" jH)) (k_ANSWERS : mg "ANSWERS" = some (.ref a_ANSWERS)) (t_ANSWERS : AnsK K a_ANSWERS)
    (hM : Meth K CL "best" f) (hb : Binds K fd ["self", "some"] []) (hMt : Meth K CL "tried" ft) (hbt : Binds K ftd ["self", "beginning", "parts"] []) : ∀ g : Nat, FnOk P w K mg base (L2.CX P w) (2 * g + 2) f fd ["self", "some"] (sp_best K CL g)
  | 0 => by
    have no : ∀ vs H Q E, ¬ sp_best K CL 0 vs H Q E := fun vs H Q E h => by
      obtain ⟨_, _, _, _, _, _, _, _, _, _, l, _, _, _, _, _, h1, h2, _⟩ := h
      cases l with
      | nil => exact h1 rfl
      | cons => simp at h2
    exact ⟨fun vs H Q E h => absurd h (no vs H Q E), fun A outer s H args us vs Q E _ _ _ _ h => absurd h (no vs H Q E)⟩
  | g + 1 => by
    have C_Planner_best : CalM P w K mg base (2 * g + 2) CL "best" ["self", "some"] (sp_best K CL g) := ⟨f, fd, ok_best F Ft T TPl k_LOOK k_HUNG k_ANSWERS t_ANSWERS hM hb hMt hbt g, hM, hb⟩
    have C_Planner_tried : CalM P w K mg base (2 * g + 3) CL "tried" ["self", "beginning", "parts"] (sp_tried K CL g) := ⟨ft, ftd, ok_tried Ft T TPl k_LOOK C_Planner_best, hMt, hbt⟩
    have cl_Planner := TPl.cl
    refine F.okX sc_Planner_best (fun vs H Q E h => ?_) (fun cdv A outer s H vs Q E hr h => ⟨_, (pss_cons (ps_if (pt_cmpR op_eq (pe_callB (cLen (K := K) rfl) (by rfl) T.n_len (by decide +kernel) (pa_cons (pv 1) pa_nil)) pe_int (nomark _))
 (pss_one (ps_ret (pe_tup (pa_cons pe_int (pa_cons (pe_tup (pa_cons (pe_glob (v := .str "hung") rfl k_HUNG ⟨_, rfl⟩) (pa_cons (pe_ix (ixL (K := K) rfl) (pFld (K := K) rfl (pv 0) rfl) (pe_ix (ixT (K := K) rfl) (pv 1) pe_int (fun _ _ => rfl)) (fun _ _ => rfl)) pa_nil))) pa_nil)))))
 pss_nil)
 (pss_cons (ps_if (pt_cmp (pc_dnotin (hu_of hr) (pv 1) (pFld (K := K) rfl (pv 0) rfl)))
 (pss_cons (ps_set (i := 2) sc_Planner_best.nd rfl (by first | exact Or.inl rfl | exact Or.inr rfl) pe_non)
 (pss_cons (ps_for (passes_of rfl) rfl (piL (K := K) rfl (pFld (K := K) rfl (pv 0) rfl)) (pg_tup rfl (pgs_cons (pg_name (i := 3) sc_Planner_best.nd rfl (by first | exact Or.inl rfl | exact Or.inr rfl)) (pgs_cons (pg_name (i := 4) sc_Planner_best.nd rfl (by first | exact Or.inl rfl | exact Or.inr rfl)) pgs_nil)))
 (pss_cons (ps_setLc (i := 5) (own := [("answer", 7)]) (g := gName 7) (tt := tYes) rfl sc_Planner_best.nd rfl rfl (sw_true rfl rfl rfl (by decide +kernel)) (piT (K := K) rfl (pe_glob (v := .ref a_ANSWERS) rfl k_ANSWERS rfl)) (blkOk_by (own := [("answer", 7)]) (N := ["self", "some", "found", "beginning", "told", "parts", "tried", "answer", "place"]) (sc := defScope s_Planner_best) (by decide +kernel)) (fun _ _ _ _ _ => pg_name (i := 7) sc_Planner_best.nd rfl (by first | exact Or.inl rfl | exact Or.inr rfl)) (fun _ _ _ _ _ => pts_nil) (fun _ _ _ _ _ => (pe_callTy (cTup (K := K) rfl) (by rfl) T.n_tuple (by decide +kernel) (pa_cons (pe_lc (own := [("place", 8)]) (g := gName 8) rfl sc_Planner_best.nd (piT (K := K) rfl (pv 1)) (blkOk_by (own := [("place", 8)]) (N := ["self", "some", "found", "beginning", "told", "parts", "tried", "answer", "place"]) (by kernel_rfl)) (fun _ _ _ _ _ => pg_name (i := 8) sc_Planner_best.nd rfl (Or.inl rfl)) (fun _ _ _ _ _ => pts_one (pt_cmpR (oEqD (K := K) rfl hr.units) (pe_ix (ixL (K := K) rfl) (pv 4) (pv 8) (fun _ _ => rfl)) (pv 7) (nomark _))) (fun _ _ _ _ _ => (pv 8))) pa_nil))))
 (pss_one (ps_if (pt_cmpR (oNotInD (K := K) rfl (room65 hr)) (pv 1) (pv 5) (by rfl))
 (pss_cons (ps_set (i := 6) sc_Planner_best.nd rfl (by first | exact Or.inl rfl | exact Or.inr rfl) (pe_me (E := E0) (pv 0) cl_Planner C_Planner_tried (hr.mono (by first | decide | omega)) passL (pa_cons (pv 3) (pa_cons (pv 5) pa_nil))))
 (pss_one (ps_if (PW.pt (pw_or (pt_cmp (pc_isN (pv 2))) (pw_or1 (pt_cmpR op_lt (pe_ix (ixT (K := K) rfl) (pv 6) pe_int (fun _ _ => rfl)) (pe_ix (ixT (K := K) rfl) (pv 2) pe_int (fun _ _ => rfl)) (nomark _)))))
 (pss_one (ps_set (i := 2) sc_Planner_best.nd rfl (by first | exact Or.inl rfl | exact Or.inr rfl) (pv 6)))
 pss_nil)))
 pss_nil))))
 (pss_one (ps_dput (hu_of hr) (pFld (K := K) rfl (pv 0) rfl) (pv 1) (pv 2) rfl))))
 pss_nil)
 (pss_one (ps_ret (pe_dget (hu_of hr) (pFld (K := K) rfl (pv 0) rfl) (pv 1) (fun _ _ => rfl)))))), ?_⟩)
    · obtain ⟨a, s, r, d, dx, t, R, us, Ss, n, l, rfl, _⟩ := h
      rfl
    · obtain ⟨a, s, r, d, dx, t, R, us, Ss, n, l, rfl, Z, W, ht, hl, hne, hf, k⟩ := h
      have ob := Z.ob
      tm_at "r"
      have hst : SqT K H t (l.map vN) := SqT.of ht
      have hlz : l.length ≤ 16 := by
        have := hl.length_le
        rw [List.length_range] at this
        exact Nat.le_trans this W.s16
      have hlt : ∀ i ∈ l, i < Ss.length := fun i hi => List.mem_range.mp (hl.subset hi)
      have hnd : l.Nodup := List.nodup_range.sublist hl
      obtain ⟨ps, hs, hps⟩ := Z.hs
      tm_at "r"
      rw [List.length_map]
      refine w_iteD (fun c => ?_) fun c => ?_
      · obtain ⟨i, rfl⟩ : ∃ i, l = [i] := List.length_eq_one_iff.mp (by omega)
        have hs' : SqL K H s (ps.map V.ref) := SqL.of hs
        tm_at "r"
        have hil : i < Ss.length := hlt i (by simp)
        obtain ⟨pi, hpi⟩ : ∃ pi, ps[i]? = some pi := ⟨_, List.getElem?_eq_getElem (by rw [paired_len hps]; exact hil)⟩
        obtain ⟨S, hS, hSp⟩ := paired_at hps hpi
        have hgS : gS Ss i = S := by
          unfold gS
          rw [List.getD_eq_getElem?_getD, hS]
          rfl
        refine w_ixL hs' (atI_k (by rw [List.getElem?_map, hpi]; rfl)) ?_
        tm_at "r"
        intro t1 H1 ht1 e1 ht1'
        tm_at "r"
        intro t2 H2 ht2 e2 ht2'
        obtain ⟨q1, q2, q3⟩ := W.hS _ (gS_mem hil)
        refine k t2 0 (.hung (gS Ss i)) H2 ⟨.ref t1, SqT.of ht2', .hung (SqT.of (e2.st _ _ ht1' nsh_tup)) (by rw [hgS]; exact (e1.trans e2).tup hSp)⟩ (best_one ⟨by omega, fun x hx => by
          have := W.hR x (q2 x hx)
          have := W.hn
          omega⟩) (Z.ext (e1.trans e2)) (Step.of (e1.trans e2))
      · tm_at "q"
        refine scut (fun σ1 H1 => (∃ ys, σ1 = some (.ref a) :: some (.ref t) :: ys) ∧ PAt K CL a s r d dx us Ss n H1 ∧ Step [d] [d] H H1 ∧ ∃ kvs p m T, H1 d = some (.dT (dP kvs)) ∧ kvs.lookup l = some p ∧ MemAt K H1 p m T ∧ Best Ss n T l m) ?_ (fun tail => ?_)
        · rintro σ1 H1 ⟨⟨ys, rfl⟩, Z1, st1, kvs, p, m, T, hk1, hk2, hk3, hk4⟩
          obtain ⟨kv0, hd0⟩ := Z.dt
          have htd : t ≠ d := fun e => by rw [e, hd0] at ht; cases ht
          have ht1 := st1.st _ _ ht (by simpa using htd) nsh_tup
          have ob1 := Z1.ob
          tm_at "r"
          refine w_dgetP hk1 ht1 hk2 ?_
          exact k p m T H1 hk3 hk4 Z1 st1
        · obtain ⟨kvs, hk1, hk2, hk3, hk4⟩ := Z.hk
          tm_at "r"
          refine w_dnotP hk1 ht ?_
          cases hlk : kvs.lookup l with
          | some p =>
            obtain ⟨m, T, h1, h2⟩ := hk2 l p hlk
            tm_at "r"
            tm_at "b"
            refine w_next ?_
            exact tail _ _ ⟨⟨_, rfl⟩, Z, Step.of (Ext.refl _), kvs, p, m, T, hk1, hlk, h1, h2⟩
          | none =>
            tm_at "r"
            tm_at "b"
            obtain ⟨rs, hr1, hrs⟩ := Z.hr
            tm_at "r"
            refine w_lstOk (SqL.of hr1) ?_
            obtain ⟨kv0, hd0⟩ := Z.dt
            have hrd : r ≠ d := fun e => by rw [e, hd0] at hr1; cases hr1
            have htd : t ≠ d := fun e => by rw [e, hd0] at ht; cases ht
            obtain ⟨fa, hA, hAx⟩ := t_ANSWERS.fun
            refine forLg (fun i σ H' => ∃ (fo : Option Addr) (y3 y4 y5 y6 : Option V), σ = [some (.ref a), some (.ref t), some (fo.elim V.non V.ref), y3, y4, y5, y6, none, none] ∧ PAt K CL a s r d dx us Ss n H' ∧ Step [d] [d] H H' ∧ FInv K Ss n us l i fo H')
              (fun i σ H' ⟨_, _, _, _, _, _, _, st, _⟩ => SqL.of (st.st _ _ hr1 (by simpa using hrd) (nsh_refs _))) ⟨none, none, none, none, none, rfl, Z, Step.of (Ext.refl _), .inl ⟨rfl, fun b hb => by cases hb⟩⟩ ?_ ?_
            · rintro i x σ H1 NN hi ⟨fo, y3, y4, y5, y6, rfl, Z1, st1, fi⟩ kN
              rw [List.getElem?_map] at hi
              cases hri : rs[i]? with
              | none => rw [hri] at hi; cases hi
              | some ri =>
                rw [hri] at hi
                cases hi
                obtain ⟨b, hb, hrow⟩ := paired_at hrs hri
                have hbn : b.length < n := ((W.us_ b).mp (unl_in.1 b (List.mem_of_getElem? hb)).1).2
                obtain ⟨t2, _, hri1, ts2, ht2, hbs⟩ := rowP_step hd0 st1 hrow
                have ht1 := st1.st _ _ ht (by simpa using htd) nsh_tup
                refine ⟨_, _, rfl, hri1, rfl, ?_⟩
                refine w_gcons ?_
                refine w_gname ?_
                refine w_gcons ?_
                refine w_gname ?_
                refine w_gnil ?_
                tm_at "r"
                refine w_tupOk (hA H1) ?_
                have hA1 := hA H1
                have hst1 : SqT K H1 t (l.map vN) := SqT.of ht1
                have hst2 : SqL K H1 t2 (ts2.map V.ref) := SqL.of ht2
                have hb300 : ts2.length = Ss.length := by rw [paired_len hbs, List.length_map]
                refine lcEN (by have := src_tup hA1; rwa [List.length_map] at this) (fun D i acc H' => ∃ ts : List Addr, acc = ts.map V.ref ∧ Paired (fun t x => H' t = some (.tup ((prt Ss b x l).map vN))) ts (ANS.take i))
                  (fun D i acc Ha Hb ⟨ts, h1, h2⟩ e => ⟨ts, h1, paired_mono (fun t x h => e.st _ _ h nsh_tup) h2⟩) (fun D i acc Ha xs ys _ hD ⟨ts, h1, h2⟩ => ⟨ts, h1, paired_mono (fun t x h => by rw [upd_ne (fun e => by rw [e, hD] at h; cases h)]; exact h) h2⟩) (fun D Ha _ _ => ⟨[], rfl, .nil⟩) (fun D i acc Ha ⟨ts, h1, _⟩ => by rw [h1]; exact nsh_refs _) (by decide) (fun _ => rfl) (fun j x acc H2 D NE hj hY hD hDa hacc e2 kE => ?_) fun D acc H2 hacc hD e2 hDa hlen => ?_
                · obtain ⟨ts, rfl, hts⟩ := hacc
                  rw [List.getElem?_map] at hY
                  cases hx : ANS[j]? with
                  | none => rw [hx] at hY; cases hY
                  | some ax =>
                    rw [hx] at hY
                    cases hY
                    have htk : ANS.take (j + 1) = ANS.take j ++ [ax] := by rw [List.take_succ, hx]; rfl
                    have hst12 : SqT K H2 t (l.map vN) := e2.tup hst1
                    tm_at "r"
                    refine w_tupOk hst12 ?_
                    refine lcFy (gv := vN) (bs := l) (fun i => decide (pr b (gS Ss i) = ax)) (by have := src_tup hst12; rwa [List.length_map] at this) (fun L => nsh_mapint (fun k : Nat => (k : Int)) L) (by omega) (fun _ => rfl) (fun i2 H3 NF NE' hi2 e3 kF kE' => ?_) fun D3 H3 hD3 e3 hD3a => ?_
                    · have hi3 : i2 < ts2.length := by rw [hb300]; exact hlt i2 hi2
                      obtain ⟨u, hu⟩ : ∃ u, ts2[i2]? = some u := ⟨_, List.getElem?_eq_getElem hi3⟩
                      obtain ⟨z, hz, hu2⟩ := paired_at hbs hu
                      have hz2 : z = pr b (gS Ss i2) := by
                        rw [List.getElem?_map] at hz
                        unfold gS
                        rw [List.getD_eq_getElem?_getD]
                        cases q : Ss[i2]? with
                        | none => rw [q] at hz; cases hz
                        | some S => rw [q] at hz; cases hz; rfl
                      have hst23 : SqL K H3 t2 (ts2.map V.ref) := (e2.trans e3).seq (nsh_refs _) hst2
                      tm_at "r"
                      refine w_ixL hst23 (atI_k (by rw [List.getElem?_map, hu]; rfl)) ?_
                      tm_at "r"
                      refine w_eqDb (dp_bbT ((e2.trans e3).tup hu2)) (dp_bbT (hAx H3 ax)) (nice_bb.shaped (by decide) z) (nice_bb.shaped (by decide) ax) (nice_bb.eq z ax) ?_
                      rw [hz2]
                      tm_at "r"
                      refine w_iteD (fun c => ?_) fun c => ?_
                      · tm_at "r"
                        exact kE' (decide_eq_true c) _ (Ext.refl _)
                      · exact kF (decide_eq_false c) _ (Ext.refl _)
                    · tm_at "r"
                      refine w_tupL (SqL.of hD3a) fun t3 H4 ht3 e4 ht3' => ?_
                      refine kE _ _ (e3.trans e4) ⟨ts ++ [t3], by rw [List.map_append]; rfl, ?_⟩
                      rw [htk]
                      exact paired_snoc (r := fun t x => H4 t = some (.tup ((prt Ss b x l).map vN))) (y := ax) ht3' (paired_mono (fun t x h => (e3.trans e4).st _ _ h nsh_tup) hts)
                · obtain ⟨ts, rfl, hts⟩ := hacc
                  tm_at "r"
                  have hts' : Paired (fun t x => H2 t = some (.tup ((prt Ss b x l).map vN))) ts ANS := hts
                  have Z2 := Z1.ext e2
                  have ob2 := Z2.ob
                  have ht12 := e2.st _ _ ht1 nsh_tup
                  refine w_splN (SqT.of ht12) (SqL.of hDa) hts' fun c hc => ?_
                  cases c with
                  | false =>
                    tm_at "r"
                    tm_at "b"
                    refine w_next ?_
                    exact kN _ _ ⟨fo, _, _, _, _, rfl, Z2, st1.trans (Step.of e2), (fi.tk (.of e2)).skip hb fun h => by cases hc.mpr h⟩
                  | true =>
                    have hsp := hc.mp rfl
                    tm_at "r"
                    tm_at "b"
                    tm_at "r"
                    refine w_meOk ob2 (by kernel_rfl) ?_
                    tm_at "r"
                    refine ⟨a, s, r, d, dx, D, ts, b, R, us, Ss, n, l, rfl, Z2, W, hDa, hts', hl, hne, fun x => ?_, hbn, fun p m T H3 hm hr3 hlow Z3 st3 => ?_⟩
                    · have := prt_less (hsp x)
                      omega
                    · obtain ⟨kv2, hd2⟩ := Z2.dt
                      have tk3 : TK K H2 H3 := .step hd2 st3
                      have fi3 := (fi.tk (.of e2)).tk tk3
                      have st13 := (st1.trans (Step.of e2)).trans st3
                      rcases fi3 with ⟨rfl, h2⟩ | ⟨p2, m2, T2, rfl, hm2, hr2, h4⟩
                      · tm_at "r"
                        tm_at "b"
                        tm_at "b"
                        tm_at "r"
                        exact kN _ _ ⟨some p, _, _, _, _, rfl, Z3, st13, FInv.new (.inl h2) hb hm hr3 hlow⟩
                      · obtain ⟨v, hp, hpl⟩ := id hm
                        obtain ⟨v2, hp2, hpl2⟩ := id hm2
                        tm_at "r"
                        refine w_iteF (by rfl) ?_
                        tm_at "r"
                        refine w_ixT (p := p2) hp2 at0 ?_
                        tm_at "r"
                        refine w_iteD (fun c => ?_) fun c => ?_
                        · tm_at "e"
                          exact kN _ _ ⟨some p, _, _, _, _, rfl, Z3, st13, FInv.new (.inr ⟨m2, by omega, h4⟩) hb hm hr3 hlow⟩
                        · tm_at "e"
                          exact kN _ _ ⟨some p2, _, _, _, _, rfl, Z3, st13, FInv.old h4 hm2 hr2 hb hlow (by omega)⟩
            · rintro σ H1 ⟨fo, y3, y4, y5, y6, rfl, Z1, st1, fi⟩
              have hlen : (rs.map V.ref).length = (unl Ss us).length := by rw [List.length_map, paired_len hrs]
              rw [hlen] at fi
              have hl2 : 2 ≤ l.length := by
                have : l.length ≠ 0 := fun e => hne (List.length_eq_zero_iff.mp e)
                omega
              obtain ⟨p, m, T, rfl, hm, hbest⟩ := fi.end W hlt hnd hl2
              have ob1 := Z1.ob
              have ht1 := st1.st _ _ ht (by simpa using htd) nsh_tup
              tm_at "r"
              refine w_memo Z1.hk W.s16 ht1 hm hbest hl fun H2 hk2 st2 ⟨kvs2, h5, h6⟩ hm2 => ?_
              exact tail _ _ ⟨⟨_, rfl⟩, Z1.step st2 hk2, st1.trans st2, kvs2, p, m, T, h5, h6, hm2, hbest⟩
end
end My
end

section
set_option pp.maxSteps 700
open PySem L2 Lw
local macro_rules | `(tactic| tm_at "s") => `(tactic| first
  | with_reducible refine w_seq ?_ | with_reducible refine w_asg ?_ | with_reducible refine w_gname ?_ | with_reducible refine w_ret ?_ | with_reducible refine w_drop ?_ | with_reducible refine w_ifS ?_ | with_reducible refine w_next ?_ | with_reducible refine w_retN ?_
  | with_reducible refine w_c ?_ | ((with_reducible refine w_var (v := ?vv) ?hh ?kk); (case hh => exact rfl)) | with_reducible refine w_op ?_ | with_reducible refine w_un ?_ | with_reducible refine w_cons ?_ | with_reducible refine w_nil ?_ | with_reducible refine w_test ?_ | with_reducible refine w_B ?_
  | with_reducible refine w_isbl ?_ | with_reducible refine w_not ?_ | with_reducible refine w_and ?_ | with_reducible refine w_or ?_ | with_reducible refine w_andV ?_ | with_reducible refine w_orV ?_ | with_reducible refine w_notV ?_ | with_reducible refine w_if ?_ | with_reducible refine w_chain ?_
  | with_reducible refine w_isN ?_ | with_reducible refine w_notN ?_ | with_reducible refine w_yes ?_ | with_reducible refine w_call ?_ | with_reducible refine w_CB ?_ | with_reducible refine w_tup ?_ | with_reducible refine w_lst ?_ | with_reducible refine w_sl ?_ | with_reducible refine w_noPart ?_
  | with_reducible refine w_part ?_ | with_reducible refine w_isint ?_ | with_reducible refine w_gSub ?_ | with_reducible refine w_break ?_ | with_reducible refine w_cont ?_
  | with_reducible refine w_I0 ?_ | with_reducible refine w_eqI ?_ | with_reducible refine w_neI ?_ | with_reducible refine w_eqS ?_ | with_reducible refine w_neS ?_ | with_reducible refine w_eqB ?_ | with_reducible refine w_neB ?_ | ((with_reducible refine w_isi (d := ?dd) ?hh ?kk); (case hh => assumption))
  | with_reducible refine w_sg ?_ | with_reducible refine w_notSg ?_ | with_reducible refine w_starts ?_ | with_reducible refine w_max2 ?_ | with_reducible refine w_min2 ?_ | with_reducible refine w_intB ?_ | with_reducible refine w_intI ?_ | with_reducible refine w_bm ?_ | with_reducible refine w_bm0 ?_ | with_reducible refine w_m1 ?_ | with_reducible refine w_m0 ?_ | with_reducible refine w_isstr ?_
  | with_reducible refine w_for ?_ | with_reducible refine w_lc ?_ | with_reducible refine w_rng ?_ | with_reducible refine w_rng2 ?_ | with_reducible refine w_ilist ?_ | with_reducible refine w_itup ?_ | with_reducible refine w_istr ?_ | with_reducible refine w_strOk ?_
  | ((with_reducible refine w_rngOk ?hh ?h2 ?kk); (case hh => omega); (case h2 => omega)) | ((with_reducible refine w_lstOk (xs := ?xx) ?hh ?kk); (case hh => assumption))
  | ((with_reducible refine w_alL ?hh ?kk); (case hh => exact Nat.le_of_ble_eq_true rfl)) | ((with_reducible refine w_alT ?hh ?kk); (case hh => exact Nat.le_of_ble_eq_true rfl))
  | ((with_reducible refine w_lenL (xs := ?xx) ?hh ?kk); (case hh => assumption)) | ((with_reducible refine w_lenT (xs := ?xx) ?hh ?kk); (case hh => assumption))
  | ((with_reducible refine w_I ?hh ?kk); (case hh => first | (show _ ≠ (0 : Int); omega) | (show (0 : Int) < _; omega) | exact ⟨by omega, by omega⟩ | exact .inl ⟨by omega, by omega⟩ | exact .inr ⟨by omega, by omega⟩ | exact ⟨by decide, by decide, by decide⟩))
  | with_reducible refine w_din ?_ | with_reducible refine w_dnot ?_ | with_reducible refine w_dget ?_ | with_reducible refine w_dput ?_ | with_reducible refine w_fld ?_ | with_reducible refine w_sto ?_ | with_reducible refine w_meth ?_ | with_reducible refine w_pop1 ?_ | with_reducible refine w_pop2 ?_ | with_reducible refine w_ikeys ?_
  | ((with_reducible refine f_width (CW := ?v1) (dx := ?v2) (t := ?v3) (l := ?v4) (w := ?v5) (told := ?v6) (many := ?v7) ?tw ?hh ?kk); (case tw => assumption); (case hh => assumption))
  | ((with_reducible refine f_things (CW := ?v1) (dx := ?v2) (t := ?v3) (l := ?v4) (w := ?v5) (told := ?v6) (many := ?v7) ?tw ?hh ?kk); (case tw => assumption); (case hh => assumption))
  | ((with_reducible refine f_listening (CW := ?v1) (dx := ?v2) (t := ?v3) (l := ?v4) (w := ?v5) (told := ?v6) (many := ?v7) ?tw ?hh ?kk); (case tw => assumption); (case hh => assumption))
  | ((with_reducible refine f_tolds (CW := ?v1) (dx := ?v2) (t := ?v3) (l := ?v4) (w := ?v5) (b := ?v6) (many := ?v7) ?tw ?hh ?kk); (case tw => assumption); (case hh => assumption))
  | ((with_reducible refine f_told (CW := ?v1) (dx := ?v2) (t := ?v3) (l := ?v4) (w := ?v5) (told := ?v6) (many := ?v7) ?tw ?hh ?kk); (case tw => assumption); (case hh => assumption))
  | ((with_reducible refine f_many (CW := ?v1) (dx := ?v2) (t := ?v3) (l := ?v4) (w := ?v5) (told := ?v6) (many := ?v7) ?tw ?hh ?kk); (case tw => assumption); (case hh => assumption))
  | ((with_reducible refine w_ixL (v := ?vv) (xs := ?xx) ?hh ?h2 ?kk); (case hh => assumption); (case h2 => exact rfl)) | ((with_reducible refine w_ixT (v := ?vv) (xs := ?xx) ?hh ?h2 ?kk); (case hh => assumption); (case h2 => exact rfl)))
local macro_rules | `(tactic| tm_at "r") => `(tactic| repeat tm_at "s")
local macro_rules | `(tactic| tm_at "b") => `(tactic| first | refine w_iteT (by with_reducible rfl) ?_ | refine w_iteF (by with_reducible rfl) ?_ | refine w_iteT (by rfl) ?_ | refine w_iteF (by rfl) ?_)
local macro_rules | `(tactic| tm_at "e") => `(tactic| repeat (first | tm_at "s" | tm_at "b"))
local macro_rules | `(tactic| tm_at "s") => `(tactic| first
  | ((with_reducible refine pl_sets (CL := ?v1) (dx := ?v2) (s := ?v3) (r := ?v4) (d := ?v5) ?tw ?hh ?kk); (case tw => assumption); (case hh => assumption))
  | ((with_reducible refine pl_rows (CL := ?v1) (dx := ?v2) (s := ?v3) (r := ?v4) (d := ?v5) ?tw ?hh ?kk); (case tw => assumption); (case hh => assumption))
  | ((with_reducible refine pl_known (CL := ?v1) (dx := ?v2) (s := ?v3) (r := ?v4) (d := ?v5) ?tw ?hh ?kk); (case tw => assumption); (case hh => assumption)))
local macro_rules | `(tactic| tm_at "q") => `(tactic| repeat (first | with_reducible refine w_next ?_ | with_reducible refine w_seq ?_))
namespace My
abbrev s_Planner_init : Stmt := inClass (top 35) 0
theorem sc_Planner_init : FnScope ["self", "width", "roster"] ["self", "width", "roster"] (defScope s_Planner_init) := ⟨rfl, rfl, rfl, by decide +kernel, rfl, by decide +kernel, by decide +kernel⟩
abbrev s_plan_of : Stmt := top 36
theorem sc_plan_of : FnScope ["width", "roster", "planner"] ["width", "roster"] (defScope s_plan_of) := ⟨rfl, rfl, rfl, by decide +kernel, rfl, by decide +kernel, by decide +kernel⟩
def sp_plinit (K : PySem.W.Frag) (CL : Addr) : Sp := fun vs H Q _ => ∃ (a dx p : Addr) (n : Nat) (R : List Bits), vs = [.ref a, .int (n : Int), .ref p] ∧ H a = some (.ins CL dx []) ∧ SqL K H p (bvs R) ∧ (1 ≤ n ∧ n ≤ 12) ∧ (1 ≤ R.length ∧ R.length ≤ 4) ∧ (∀ x ∈ R, x.length = n) ∧ Rise R ∧
  ∀ s r d Ss us H', PAt K CL a s r d dx us Ss n H' → PlS R us Ss n → Ss.Perm (subs R) → RiseS Ss → Step [a] [a, d] H H' → Q .non H'
def sp_plan (K : PySem.W.Frag) (cT : Addr) : Sp := fun vs H Q E => ∃ (n : Nat) (p : Addr) (R : List Bits), vs = [.int (n : Int), .ref p] ∧ (1 ≤ n ∧ n ≤ 12) ∧ SqL K H p (bvs R) ∧ (1 ≤ R.length ∧ R.length ≤ 8) ∧ (∀ x ∈ R, x.length = n) ∧ Rise R ∧
  (4 < R.length → ∀ H', Ext H H' → E (.ref cT) none H') ∧
  (R.length ≤ 4 → ∀ q m T Ss us H', Ext H H' → MemAt K H' q m T → PlS R us Ss n → Ss.Perm (subs R) → RiseS Ss → Best Ss n T (List.range Ss.length) m → Q (.ref q) H')
section
variable {P : Program} {w : World} {K : PySem.W.Frag} {mg : Str → Option Value} {base : Heap} {CL : Addr}
theorem ok_plinit {f : Addr} {fd : FuncData} (F : Fun K "__init__" "Planner.__init__" s_Planner_init f fd) (T : TxB mg) (TPl : ClPl K CL) (C_all_sets : Cal P w K mg base 1 "all_sets" ["roster"] (sp_all_sets K)) (C_parting : Cal P w K mg base 2 "parting" ["width", "roster", "sets"] (sp_parting K)) : FnOk P w K mg base (L2.CX P w) 3 f fd ["self", "width", "roster"] (sp_plinit K CL) := by
  refine F.okX sc_Planner_init (fun vs H Q E h => ?_) (fun cdv A outer s H vs Q E hr h => ⟨_, (pss_cons (sFldK (K := K) rfl (pv 0) (pe_cal (E := E0) C_all_sets (hr.mono (by first | decide | omega)) passL (pa_cons (pv 2) pa_nil)) rfl)
 (pss_cons (sFldK (K := K) rfl (pv 0) (pe_cal (E := E0) C_parting (hr.mono (by first | decide | omega)) passL (pa_cons (pv 1) (pa_cons (pv 2) (pa_cons (pFld (K := K) rfl (pv 0) rfl) pa_nil)))) rfl)
 (pss_one (sFldK (K := K) rfl (pv 0) pe_dnewT rfl)))), ?_⟩)
  · obtain ⟨a, dx, p, n, R, rfl, _⟩ := h
    rfl
  · obtain ⟨a, dx, p, n, R, rfl, ha, hp, hn, hz, hR, hri, k⟩ := h
    tm_at "r"
    refine ⟨p, R, rfl, hp, by omega, rise_nodup hri, fun s ps Ss H1 hs0 e1 hs hps hpm hss => ?_⟩
    have a1 := e1.st _ _ ha nsh_ins
    have hin : ∀ S ∈ Ss, S.Sublist R := fun S hS => mem_subs.mp (hpm.subset hS)
    have hlen : Ss.length = 2 ^ R.length := by rw [hpm.length_eq, subs_len]
    have h16 : Ss.length ≤ 16 := by
      rw [hlen]
      exact Nat.pow_le_pow_right (by decide) hz.2
    have h0 : 0 < Ss.length := by
      rw [hlen]
      exact Nat.pow_pos (by decide)
    have hps1 := hps
    have hp1 := e1.seq (nsh_bvs _) hp
    tm_at "r"
    refine ⟨a, CL, dx, [], rfl, a1, TPl.cl, TPl.n_sets, Nat.le_of_ble_eq_true (by kernel_rfl), ?_⟩
    have nsa : s ≠ a := fun e => by rw [e, ha] at hs0; cases hs0
    have m1 : Step [a] [a] H (upd H1 a (.ins CL dx (putF "sets" (.ref s) []))) := (Step.of e1).trans (Step.wr a1 (by simp))
    have k1 : WrO a H1 (upd H1 a (.ins CL dx (putF "sets" (.ref s) []))) := WrO.wr a1
    have a2 : upd H1 a (.ins CL dx (putF "sets" (.ref s) [])) a = some (.ins CL dx [("sets", .ref s)]) := upd_same
    generalize upd H1 a (.ins CL dx (putF "sets" (.ref s) [])) = H2 at m1 k1 a2 ⊢
    have s2 : H2 s = some (.lst (ps.map V.ref)) := k1.st _ _ hs nsa
    have hp2 := k1.seq hp1
    have t2 : TupsB K H2 ps Ss := k1.tups hps1
    tm_at "r"
    refine ⟨a, CL, dx, _, .ref s, rfl, a2, TPl.cl, TPl.n_sets, by kernel_rfl, ?_⟩
    tm_at "r"
    refine ⟨n, p, s, R, ps, Ss, rfl, hn, hp2, by omega, hR, SqL.of s2, t2, ⟨h0, by omega⟩, fun S hS => ⟨by have := (hin S hS).length_le; omega, fun x hx => hR x ((hin S hS).subset hx)⟩, fun us r rs H3 hr0 e3 hr3 hus hum hrs => ?_⟩
    have W : PlS R us Ss n := ⟨hn, hR, hz.2, hum, fun S hS => ⟨List.Pairwise.sublist (hin S hS) hri, fun x hx => (hin S hS).subset hx, by have := (hin S hS).length_le; omega⟩, riseS_nodup hss, h16⟩
    have a3 := e3.st _ _ a2 nsh_ins
    have s3 := e3.st _ _ s2 (nsh_refs _)
    have t3 := t2.ext e3
    have nra : r ≠ a := fun e => by rw [e, a2] at hr0; cases hr0
    tm_at "r"
    refine ⟨a, CL, dx, _, rfl, a3, TPl.cl, TPl.n_rows, Nat.le_of_ble_eq_true (by kernel_rfl), ?_⟩
    have m3 : Step [a] [a] H (upd H3 a (.ins CL dx (putF "rows" (.ref r) [("sets", .ref s)]))) := (m1.trans (Step.of e3)).trans (Step.wr a3 (by simp))
    have k3 : WrO a H3 (upd H3 a (.ins CL dx (putF "rows" (.ref r) [("sets", .ref s)]))) := WrO.wr a3
    have a4 : upd H3 a (.ins CL dx (putF "rows" (.ref r) [("sets", .ref s)])) a = some (.ins CL dx [("sets", .ref s), ("rows", .ref r)]) := by rw [upd_same]; kernel_rfl
    generalize upd H3 a (.ins CL dx (putF "rows" (.ref r) [("sets", .ref s)])) = H4 at m3 k3 a4 ⊢
    have s4 := k3.st _ _ s3 nsa
    have t4 : TupsB K H4 ps Ss := k3.tups t3
    have r4 := k3.st _ _ hr3 nra
    have w4 := paired_mono (fun r b (h : RowP K (fun _ => False) H3 Ss r b) => k3.row h) hrs
    tm_at "r"
    intro d hd
    have e5 : Ext H4 (upd H4 d (.dT [])) := Ext.new hd
    have d5 : upd H4 d (.dT []) d = some (.dT (dP [])) := upd_same
    generalize upd H4 d (.dT []) = H5 at e5 d5 ⊢
    have nda : d ≠ a := fun e => by rw [e, a4] at hd; cases hd
    have a5 := e5.st _ _ a4 nsh_ins
    tm_at "r"
    refine ⟨a, CL, dx, _, rfl, a5, TPl.cl, TPl.n_known, Nat.le_of_ble_eq_true (by kernel_rfl), ?_⟩
    have m5 : Step [a] [a] H (upd H5 a (.ins CL dx (putF "known" (.ref d) [("sets", .ref s), ("rows", .ref r)]))) := (m3.trans (Step.of e5)).trans (Step.wr a5 (by simp))
    have k5 : WrO a H5 (upd H5 a (.ins CL dx (putF "known" (.ref d) [("sets", .ref s), ("rows", .ref r)]))) := WrO.wr a5
    have a6 : upd H5 a (.ins CL dx (putF "known" (.ref d) [("sets", .ref s), ("rows", .ref r)])) a = some (.ins CL dx (plf s r d)) := by rw [upd_same]; kernel_rfl
    generalize upd H5 a (.ins CL dx (putF "known" (.ref d) [("sets", .ref s), ("rows", .ref r)])) = H6 at m5 k5 a6 ⊢
    refine k s r d Ss us H6 ⟨a6, ⟨ps, k5.st _ _ (e5.st _ _ s4 (nsh_refs _)) nsa, k5.tups (t4.ext e5)⟩, ⟨rs, k5.st _ _ (e5.st _ _ r4 (nsh_refs _)) nra, paired_mono (fun r b h => k5.row (RowP.ext h e5)) w4⟩, [], k5.st _ _ d5 nda, fun l p h => (by cases h), .nil, fun l h => (by cases h)⟩ W hpm hss (m5.to fun b hb => ?_)
    rcases List.mem_cons.mp hb with rfl | hb
    · exact .inl (by simp)
    · rw [List.mem_singleton.mp hb]
      exact .inr (m3.free hd)
theorem ok_plan_of {f cW cR cT : Addr} {fd : FuncData} {jM : Tok} (F : Fun K "plan_of" "plan_of" s_plan_of f fd) (T : TxB mg) (TPl : ClPl K CL) (k_MOST_NAMES_plans : mg "MOST_NAMES_plans" = some (.int 4 jM)) (C_need_roster : Cal P w K mg base 4 "need_roster" ["width", "roster"] (sp_need_roster K cW cR)) (C_Planner : CalC P w K mg base 3 CL "Planner" ["self", "width", "roster"] (sp_plinit K CL))
    (C_Planner_best : CalM P w K mg base 34 CL "best" ["self", "some"] (sp_best K CL 16)) (X_TooMany : ExcC K mg "TooMany" cT) : FnOk P w K mg base (L2.CX P w) 35 f fd ["width", "roster"] (sp_plan K cT) := by
  have cl_Planner := TPl.cl
  refine F.okX sc_plan_of (fun vs H Q E h => ?_) (fun cdv A outer s H vs Q E hr h => ⟨_, (pss_cons (ps_expr (pe_cal (E := E) C_need_roster (hr.mono (by first | decide | omega)) (passes_call (takes_of rfl rfl rfl rfl) (fun _ _ _ _ h => h)) (pa_cons (pv 0) (pa_cons (pv 1) pa_nil))))
 (pss_cons (ps_if (pt_cmpR op_gt (pe_callB (cLen (K := K) rfl) (by rfl) T.n_len (by decide +kernel) (pa_cons (pv 1) pa_nil)) (pe_glob (v := .int 4) rfl k_MOST_NAMES_plans ⟨_, rfl⟩) (nomark _))
 (pss_one (ps_raise rfl (takes_of rfl rfl rfl rfl) (pmkC X_TooMany)))
 pss_nil)
 (pss_cons (ps_set (i := 2) sc_plan_of.nd rfl (by first | exact Or.inl rfl | exact Or.inr rfl) (pe_mk C_Planner (hr.mono (by first | decide | omega)) (passes_call (takes_of rfl rfl rfl rfl) (fun _ _ _ _ h => h)) (pa_cons (pv 0) (pa_cons (pv 1) pa_nil))))
 (pss_one (ps_ret (pe_me (E := E) (pv 2) cl_Planner C_Planner_best (hr.mono (by first | decide | omega)) (passes_call (takes_of rfl rfl rfl rfl) (fun _ _ _ _ h => h)) (pa_cons (pe_tupRg rfl (by rfl) T.n_tuple (prg_1 (by rfl) T.n_range (pe_callB (cLen (K := K) rfl) (by rfl) T.n_len (by decide +kernel) (pa_cons (pFld (K := K) rfl (pv 2) rfl) pa_nil)))) pa_nil))))))), ?_⟩)
  · obtain ⟨n, p, R, rfl, _⟩ := h
    rfl
  · obtain ⟨n, p, R, rfl, hn, hp, hz, hR, hri, kT, k⟩ := h
    have ebv : ∀ l : List Bits, (l.map B).map V.str = bvs l := fun l => by rw [List.map_map]; rfl
    tm_at "r"
    refine ⟨(n : Int), p, R.map B, rfl, by rw [ebv]; exact hp, by rw [List.length_map]; omega, txOk_bits (fun l hl => by have := hR l hl; omega), fun h => absurd ⟨by omega, by omega⟩ h, fun n' hn' _ => ?_⟩
    obtain rfl : n = n' := by omega
    refine ⟨fun _ => ?_, fun h => absurd (show IsRoster n (R.map B) from ⟨by rw [List.length_map]; exact hz, R, rfl, hR, hri⟩) h⟩
    intro H1 e1
    have hp1 := e1.seq (nsh_bvs _) hp
    tm_at "r"
    rw [bvs_len]
    refine w_iteD (fun c => ?_) fun c => ?_
    · tm_at "r"
      exact kT (by omega) H1 e1
    · tm_at "r"
      refine w_make ?_
      tm_at "r"
      intro a dx ha hdx hne
      have ex := ext_make (C := CL) ha hdx hne
      have a2 : upd (upd H1 dx (.own a)) a (.ins CL dx []) a = some (.ins CL dx []) := upd_same
      have nn : ∀ b, upd (upd H1 dx (.own a)) a (.ins CL dx []) b = none → H1 b = none := fun b hb => make_none hb
      generalize upd (upd H1 dx (.own a)) a (.ins CL dx []) = H2 at ex a2 nn ⊢
      refine ⟨a, dx, p, n, R, rfl, a2, ex.seq (nsh_bvs _) hp1, hn, ⟨hz.1, by omega⟩, hR, hri, fun s r d Ss us H3 Z3 W hpm hss st3 => ⟨rfl, ?_⟩⟩
      have hd1 : H1 d = none := by
        rcases st3.nw d (by simp) with h | h
        · have := Z3.ob
          obtain ⟨kv, hkv⟩ := Z3.dt
          rw [List.mem_singleton.mp h, this] at hkv
          cases hkv
        · exact nn d h
      have e13 : Ext H1 H3 := ext_fresh ha ex st3
      have e03 := e1.trans e13
      have hd0 : H d = none := e1.free hd1
      have ob := Z3.ob
      obtain ⟨ps, hs, hps⟩ := Z3.hs
      have hsl : SqL K H3 s (ps.map V.ref) := SqL.of hs
      tm_at "r"
      refine w_meOk ob (by kernel_rfl) ?_
      tm_at "r"
      refine w_tupRg ?_
      refine w_rg1 ?_
      tm_at "r"
      rw [List.length_map, paired_len hps]
      have h16 := W.s16
      refine ⟨RgOk.of_le (by omega) (by omega) (by omega) (by omega), fun y hy4 => ?_⟩
      have e4 : Ext H3 (upd H3 y (.tup (rgV 0 (Ss.length : Int)))) := Ext.new hy4
      have hy4' : upd H3 y (.tup (rgV 0 (Ss.length : Int))) y = some (.tup ((List.range Ss.length).map vN)) := by rw [upd_same, rgV_nat]; rfl
      generalize upd H3 y (.tup (rgV 0 (Ss.length : Int))) = H4 at e4 hy4' ⊢
      tm_at "r"
      have h0 : 0 < Ss.length := by
        rw [hpm.length_eq, subs_len]
        exact Nat.pow_pos (by decide)
      refine ⟨a, s, r, d, dx, y, R, us, Ss, n, List.range Ss.length, rfl, Z3.ext e4, W, hy4', List.Sublist.refl _, fun e => ?_, by rw [List.length_range]; exact h16, fun q m T H5 hm hb Z5 st5 => ?_⟩
      · have := congrArg List.length e
        rw [List.length_range, List.length_nil] at this
        omega
      · exact k (by omega) q m T Ss us H5 (ext_fresh hd0 (e03.trans e4) st5) hm W hpm hss hb
end
end My
end

section
set_option pp.maxSteps 700
open PySem L2 Lw
local macro_rules | `(tactic| tm_at "s") => `(tactic| first
  | with_reducible refine w_seq ?_ | with_reducible refine w_asg ?_ | with_reducible refine w_gname ?_ | with_reducible refine w_ret ?_ | with_reducible refine w_drop ?_ | with_reducible refine w_ifS ?_ | with_reducible refine w_next ?_ | with_reducible refine w_retN ?_
  | with_reducible refine w_c ?_ | ((with_reducible refine w_var (v := ?vv) ?hh ?kk); (case hh => exact rfl)) | with_reducible refine w_op ?_ | with_reducible refine w_un ?_ | with_reducible refine w_cons ?_ | with_reducible refine w_nil ?_ | with_reducible refine w_test ?_ | with_reducible refine w_B ?_
  | with_reducible refine w_isbl ?_ | with_reducible refine w_not ?_ | with_reducible refine w_and ?_ | with_reducible refine w_or ?_ | with_reducible refine w_andV ?_ | with_reducible refine w_orV ?_ | with_reducible refine w_notV ?_ | with_reducible refine w_if ?_ | with_reducible refine w_chain ?_
  | with_reducible refine w_isN ?_ | with_reducible refine w_notN ?_ | with_reducible refine w_yes ?_ | with_reducible refine w_call ?_ | with_reducible refine w_CB ?_ | with_reducible refine w_tup ?_ | with_reducible refine w_lst ?_ | with_reducible refine w_sl ?_ | with_reducible refine w_noPart ?_
  | with_reducible refine w_part ?_ | with_reducible refine w_isint ?_ | with_reducible refine w_gSub ?_ | with_reducible refine w_break ?_ | with_reducible refine w_cont ?_
  | with_reducible refine w_I0 ?_ | with_reducible refine w_eqI ?_ | with_reducible refine w_neI ?_ | with_reducible refine w_eqS ?_ | with_reducible refine w_neS ?_ | with_reducible refine w_eqB ?_ | with_reducible refine w_neB ?_ | ((with_reducible refine w_isi (d := ?dd) ?hh ?kk); (case hh => assumption))
  | with_reducible refine w_sg ?_ | with_reducible refine w_notSg ?_ | with_reducible refine w_starts ?_ | with_reducible refine w_max2 ?_ | with_reducible refine w_min2 ?_ | with_reducible refine w_intB ?_ | with_reducible refine w_intI ?_ | with_reducible refine w_bm ?_ | with_reducible refine w_bm0 ?_ | with_reducible refine w_m1 ?_ | with_reducible refine w_m0 ?_ | with_reducible refine w_isstr ?_
  | with_reducible refine w_for ?_ | with_reducible refine w_lc ?_ | with_reducible refine w_rng ?_ | with_reducible refine w_rng2 ?_ | with_reducible refine w_ilist ?_ | with_reducible refine w_itup ?_ | with_reducible refine w_istr ?_ | with_reducible refine w_strOk ?_
  | ((with_reducible refine w_rngOk ?hh ?h2 ?kk); (case hh => omega); (case h2 => omega)) | ((with_reducible refine w_lstOk (xs := ?xx) ?hh ?kk); (case hh => assumption))
  | ((with_reducible refine w_alL ?hh ?kk); (case hh => exact Nat.le_of_ble_eq_true rfl)) | ((with_reducible refine w_alT ?hh ?kk); (case hh => exact Nat.le_of_ble_eq_true rfl))
  | ((with_reducible refine w_lenL (xs := ?xx) ?hh ?kk); (case hh => assumption)) | ((with_reducible refine w_lenT (xs := ?xx) ?hh ?kk); (case hh => assumption))
  | ((with_reducible refine w_I ?hh ?kk); (case hh => first | (show _ ≠ (0 : Int); omega) | (show (0 : Int) < _; omega) | exact ⟨by omega, by omega⟩ | exact .inl ⟨by omega, by omega⟩ | exact .inr ⟨by omega, by omega⟩ | exact ⟨by decide, by decide, by decide⟩))
  | with_reducible refine w_din ?_ | with_reducible refine w_dnot ?_ | with_reducible refine w_dget ?_ | with_reducible refine w_dput ?_ | with_reducible refine w_fld ?_ | with_reducible refine w_sto ?_ | with_reducible refine w_meth ?_ | with_reducible refine w_pop1 ?_ | with_reducible refine w_pop2 ?_ | with_reducible refine w_ikeys ?_
  | ((with_reducible refine f_width (CW := ?v1) (dx := ?v2) (t := ?v3) (l := ?v4) (w := ?v5) (told := ?v6) (many := ?v7) ?tw ?hh ?kk); (case tw => assumption); (case hh => assumption))
  | ((with_reducible refine f_things (CW := ?v1) (dx := ?v2) (t := ?v3) (l := ?v4) (w := ?v5) (told := ?v6) (many := ?v7) ?tw ?hh ?kk); (case tw => assumption); (case hh => assumption))
  | ((with_reducible refine f_listening (CW := ?v1) (dx := ?v2) (t := ?v3) (l := ?v4) (w := ?v5) (told := ?v6) (many := ?v7) ?tw ?hh ?kk); (case tw => assumption); (case hh => assumption))
  | ((with_reducible refine f_tolds (CW := ?v1) (dx := ?v2) (t := ?v3) (l := ?v4) (w := ?v5) (b := ?v6) (many := ?v7) ?tw ?hh ?kk); (case tw => assumption); (case hh => assumption))
  | ((with_reducible refine f_told (CW := ?v1) (dx := ?v2) (t := ?v3) (l := ?v4) (w := ?v5) (told := ?v6) (many := ?v7) ?tw ?hh ?kk); (case tw => assumption); (case hh => assumption))
  | ((with_reducible refine f_many (CW := ?v1) (dx := ?v2) (t := ?v3) (l := ?v4) (w := ?v5) (told := ?v6) (many := ?v7) ?tw ?hh ?kk); (case tw => assumption); (case hh => assumption))
  | ((with_reducible refine w_ixL (v := ?vv) (xs := ?xx) ?hh ?h2 ?kk); (case hh => assumption); (case h2 => exact rfl)) | ((with_reducible refine w_ixT (v := ?vv) (xs := ?xx) ?hh ?h2 ?kk); (case hh => assumption); (case h2 => exact rfl)))
local macro_rules | `(tactic| tm_at "r") => `(tactic| repeat tm_at "s")
local macro_rules | `(tactic| tm_at "b") => `(tactic| first | refine w_iteT (by with_reducible rfl) ?_ | refine w_iteF (by with_reducible rfl) ?_ | refine w_iteT (by rfl) ?_ | refine w_iteF (by rfl) ?_)
local macro_rules | `(tactic| tm_at "e") => `(tactic| repeat (first | tm_at "s" | tm_at "b"))
local macro_rules | `(tactic| tm_at "s") => `(tactic| first
  | with_reducible refine w_pcons ?_ | with_reducible refine w_pnil ?_
  | ((with_reducible refine m_width (w := ?v1) (t := ?v2) (l := ?v3) (told := ?v4) (many := ?v5) ?hh ?kk); (case hh => assumption))
  | ((with_reducible refine m_things (w := ?v1) (t := ?v2) (l := ?v3) (told := ?v4) (many := ?v5) ?hh ?kk); (case hh => assumption))
  | ((with_reducible refine m_lis (w := ?v1) (t := ?v2) (l := ?v3) (told := ?v4) (many := ?v5) ?hh ?kk); (case hh => assumption))
  | ((with_reducible refine m_saids (w := ?v1) (t := ?v2) (l := ?v3) (b := ?v4) (many := ?v5) ?hh ?kk); (case hh => assumption))
  | ((with_reducible refine m_said (w := ?v1) (t := ?v2) (l := ?v3) (told := ?v4) (many := ?v5) ?hh ?kk); (case hh => assumption))
  | ((with_reducible refine m_looks (w := ?v1) (t := ?v2) (l := ?v3) (told := ?v4) (many := ?v5) ?hh ?kk); (case hh => assumption))
  | ((with_reducible refine j_kind (c := ?v1) (r := ?v2) (said := ?v3) (n := ?v4) (s := ?v5) ?hh ?kk); (case hh => assumption))
  | ((with_reducible refine j_rest (c := ?v1) (r := ?v2) (said := ?v3) (n := ?v4) (s := ?v5) ?hh ?kk); (case hh => assumption))
  | ((with_reducible refine j_saids (c := ?v1) (r := ?v2) (b := ?v3) (n := ?v4) (s := ?v5) ?hh ?kk); (case hh => assumption))
  | ((with_reducible refine j_said (c := ?v1) (r := ?v2) (said := ?v3) (n := ?v4) (s := ?v5) ?hh ?kk); (case hh => assumption))
  | ((with_reducible refine j_found (c := ?v1) (r := ?v2) (said := ?v3) (n := ?v4) (s := ?v5) ?hh ?kk); (case hh => assumption))
  | ((with_reducible refine j_paper (c := ?v1) (r := ?v2) (said := ?v3) (n := ?v4) (s := ?v5) ?hh ?kk); (case hh => assumption)))
local macro_rules | `(tactic| tm_at "q") => `(tactic| repeat (first | with_reducible refine w_next ?_ | with_reducible refine w_seq ?_))
namespace My
abbrev s_law_goes : Stmt := top 51
theorem sc_law_goes : FnScope ["_law_plan", "_law_sets_here", "_law_most", "_law_hung", "_law_here", "_law_many", "_law_zero", "_law_one"] ["_law_plan", "_law_sets_here"] (defScope s_law_goes) := ⟨rfl, rfl, rfl, by decide +kernel, rfl, by decide +kernel, by decide +kernel⟩
def sp_lgoes (K : PySem.W.Frag) : Sp := fun vs H Q _ => ∃ (n : Nat) (v : V) (q : Addr) (ps : List Addr) (T : Pl) (Ss : List (List Bits)), vs = [v, .ref q] ∧ PlAt K H v T ∧ T.ok n ∧ n ≤ 12 ∧ T.deep ≤ 13 ∧ SqL K H q (ps.map V.ref) ∧ RowsAt H ps Ss ∧ Ss.length ≤ 1000 ∧ (∀ S ∈ Ss, S.length ≤ 40 ∧ ∀ x ∈ S, x.length = n) ∧ Ss ≠ [] ∧
  ∀ (u : V) (H' : Hp), Ext H H' → FolT Ss T u → Q u H'
theorem db_inj {S U : List Bits} (h : S.map db = U.map db) : S = U := by
  have e : PyData.eqv (bsD S) (bsD U) = true := by
    unfold bsD
    rw [h]
    show PyData.eqv (bsD U) (bsD U) = true
    rw [nice_bs.eq]
    exact decide_eq_true rfl
  rw [nice_bs.eq] at e
  exact of_decide_eq_true e
theorem hung_same {S : List Bits} : ∀ T : Pl, T.isL = false → (T.d = (Pl.hung S).d ↔ (T.go S).1 = some S)
  | .non, _ => ⟨fun h => (by cases h), fun h => (by cases h)⟩
  | .hung U, _ => by
    show PyData.tuple [.str "hung", .tuple (U.map db)] = .tuple [.str "hung", .tuple (S.map db)] ↔ some U = some S
    constructor
    · intro h
      have := PyData.tuple.inj h
      have := (List.cons.inj (List.cons.inj this).2).1
      rw [db_inj (PyData.tuple.inj this)]
    · intro h
      rw [Option.some.inj h]
  | .look .., h => by cases h
section
variable {P : Program} {w : World} {K : PySem.W.Frag} {mg : Str → Option Value} {base : Heap}
theorem ok_lgoes {f : Addr} {fd : FuncData} (F : Fun K "_law_goes" "_law_goes" s_law_goes f fd) (T : TxB mg) (C_law_looked : Cal P w K mg base 1 "_law_looked" ["_law_numbers", "_law_beginning"] (sp_looked K)) (C_law_alike : Cal P w K mg base 7 "_law_alike" ["_law_found", "_law_due"] (sp_alikeG K 7)) : FnOk P w K mg base (L2.CX P w) 8 f fd ["_law_plan", "_law_sets_here"] (sp_lgoes K) := by
  refine F.okX sc_law_goes (fun vs H Q E h => ?_) (fun cdv A outer s H vs Q E hr h => ⟨_, (pss_cons (ps_set (i := 2) sc_law_goes.nd rfl (by first | exact Or.inl rfl | exact Or.inr rfl) pe_int)
 (pss_cons (ps_for (passes_of rfl) rfl (piL (K := K) rfl (pv 1)) (pg_name (i := 3) sc_law_goes.nd rfl (by first | exact Or.inl rfl | exact Or.inr rfl))
 (pss_cons (ps_set (i := 4) sc_law_goes.nd rfl (by first | exact Or.inl rfl | exact Or.inr rfl) (pv 0))
 (pss_cons (ps_set (i := 5) sc_law_goes.nd rfl (by first | exact Or.inl rfl | exact Or.inr rfl) pe_int)
 (pss_cons (ps_while (passes_of rfl) (PW.pt (pw_and (pt_val (pe_callB (cIsi (K := K) rfl) (by rfl) T.n_isinstance (by decide +kernel) (pa_cons (pv 4) (pa_cons (pe_bltn (v := .ty "tuple") rfl T.n_tuple (by decide +kernel) rfl) pa_nil)))) (pw_and (pt_cmpR op_eq (pe_ix (ixA (K := K) rfl) (pv 4) pe_int (fun _ _ => rfl)) pe_str (nomark _)) (pw_and1 (pt_cmpR op_lt (pv 5) pe_int (nomark _))))))
 (pss_cons (ps_asg (pe_cal (E := E0) C_law_looked (hr.mono (by first | decide | omega)) passL (pa_cons (pv 3) (pa_cons (pe_ix (ixA (K := K) rfl) (pv 4) pe_int (fun _ _ => rfl)) pa_nil))) (pg_tup rfl (pgs_cons (pg_name (i := 6) sc_law_goes.nd rfl (by first | exact Or.inl rfl | exact Or.inr rfl)) (pgs_cons (pg_name (i := 7) sc_law_goes.nd rfl (by first | exact Or.inl rfl | exact Or.inr rfl)) pgs_nil))))
 (pss_cons (ps_set (i := 4) sc_law_goes.nd rfl (by first | exact Or.inl rfl | exact Or.inr rfl) (pe_ix (ixA (K := K) rfl) (pe_ix (ixA (K := K) rfl) (pv 4) pe_int (fun _ _ => rfl)) (pe_op op_add (pe_op op_mul pe_int (pe_callTy c_intV (by rfl) T.n_int (by decide +kernel) (pa_cons (pv 6) pa_nil))) (pe_callTy c_intV (by rfl) T.n_int (by decide +kernel) (pa_cons (pv 7) pa_nil))) (fun _ _ => rfl)))
 (pss_one (ps_set (i := 5) sc_law_goes.nd rfl (by first | exact Or.inl rfl | exact Or.inr rfl) (pe_op op_add (pv 5) pe_int))))))
 (pss_cons (ps_if (pt_not (pt_val (pe_cal (E := E0) C_law_alike (hr.mono (by first | decide | omega)) passL (pa_cons (pv 4) (pa_cons (pe_tup (pa_cons pe_str (pa_cons (pe_callTy (cTup (K := K) rfl) (by rfl) T.n_tuple (by decide +kernel) (pa_cons (pv 3) pa_nil)) pa_nil))) pa_nil)))))
 (pss_one (ps_ret pe_non))
 pss_nil)
 (pss_one (ps_set (i := 2) sc_law_goes.nd rfl (by first | exact Or.inl rfl | exact Or.inr rfl) (pe_callB (c_max2 rfl) (by rfl) T.n_max (by decide +kernel) (pa_cons (pv 2) (pa_cons (pv 5) pa_nil))))))))))
 (pss_one (ps_ret (pv 2))))), ?_⟩)
  · obtain ⟨n, v, q, ps, T, Ss, rfl, _⟩ := h
    rfl
  · obtain ⟨n, v, q, ps, T0, Ss, rfl, hT, hok, hn, hdp, hq, hps, hSz, hS, hne, k⟩ := h
    have hpl := paired_len hps
    tm_at "r"
    refine forL (fun i σ H' => ∃ (m : Nat) (y3 y4 y5 y6 y7 : Option V), σ = [some v, some (.ref q), some (.int (m : Int)), y3, y4, y5, y6, y7] ∧ Ext H H' ∧ (∀ S ∈ Ss.take i, (T0.go S).1 = some S ∧ (T0.go S).2 ≤ m) ∧ (m = 0 ∨ ∃ S ∈ Ss.take i, (T0.go S).2 = m))
      (fun i σ H' ⟨_, _, _, _, _, _, _, e, _⟩ => e.seq (nsh_refs _) hq) ⟨0, _, _, _, _, _, rfl, Ext.refl _, fun S hS => (by cases hS), .inl rfl⟩ ?_ ?_
    · rintro i x σ H1 NN hi ⟨m, y3, y4, y5, y6, y7, rfl, e1, hm1, hm2⟩ kN
      rw [List.getElem?_map] at hi
      cases hpi : ps[i]? with
      | none => rw [hpi] at hi; cases hi
      | some pS =>
        rw [hpi] at hi
        cases hi
        obtain ⟨S, hSi, hpS⟩ := paired_at hps hpi
        have hSm := List.mem_of_getElem? hSi
        obtain ⟨hS40, hSl⟩ := hS S hSm
        have htk : Ss.take (i + 1) = Ss.take i ++ [S] := by rw [List.take_succ, hSi]; rfl
        have hpS1 := e1.st _ _ hpS (nsh_bvs _)
        tm_at "r"
        refine scut (fun σ H2 => ∃ (T1 : Pl) (v1 : V) (j : Nat) (y6 y7 : Option V), σ = [some v, some (.ref q), some (.int (m : Int)), some (.ref pS), some v1, some (.int (j : Int)), y6, y7] ∧ T1.isL = false ∧ PlAt K H2 v1 T1 ∧ T1.ok n ∧ T0.go S = ((T1.go S).1, (T1.go S).2 + j) ∧ Ext H H2) ?_ (fun tail => ?_)
        · rintro σ2 H2 ⟨T1, v1, j, y6, y7, rfl, hL, hT1, ok1, hgo, e2⟩
          have hpS2 : H2 pS = some (.lst (bvs S)) := e2.st _ _ hpS (nsh_bvs _)
          tm_at "r"
          refine w_tupL (SqL.of hpS2) fun t1 H3 ht1 e3 ht1' => ?_
          tm_at "r"
          intro t2 H4 ht2 e4 ht2'
          have E4 := e3.trans e4
          have d2 : Dq K H4 (.ref t2) (Pl.hung S).d := (PlAt.hung (SqT.of ht2') (SqT.of (e4.st _ _ ht1' nsh_tup)) : PlAt K H4 (.ref t2) (.hung S)).dq (n := 0) ⟨by omega, fun x hx => by have := hSl x hx; omega⟩
          refine w_nil ?_
          refine u_alikeG ((hT1.tk (.of E4)).dq ok1) d2 (by
            show PyData.depth (.tuple [.str "hung", .tuple (S.map db)]) < 7
            have h := dep_all (n := 0) (xs := S.map db) fun x hx => by
              obtain ⟨y, _, rfl⟩ := List.mem_map.mp hx
              exact Nat.le_refl 0
            simp only [PyData.depth, PyData.depthAll]
            omega) fun b H5 hb e5 => ?_
          have E5 := e2.trans (E4.trans e5)
          have hsame := hb.trans (hung_same T1 hL)
          have g1 : (T0.go S).1 = (T1.go S).1 := by rw [hgo]
          have g2 : (T0.go S).2 = j := by
            rw [hgo]
            cases T1 with
            | non => exact Nat.zero_add j
            | hung U => exact Nat.zero_add j
            | look => cases hL
          tm_at "r"
          cases b with
          | false =>
            tm_at "e"
            refine k .non H5 E5 ⟨fun _ => rfl, fun h => ?_⟩
            have := h S hSm
            rw [g1] at this
            have := hsame.mpr this
            cases this
          | true =>
            have hright := hsame.mp rfl
            rw [← g1] at hright
            tm_at "e"
            have em : (if (j : Int) > (m : Int) then (j : Int) else (m : Int)) = ((max m j : Nat) : Int) := by
              split <;> omega
            rw [em]
            refine kN _ _ ⟨max m j, _, _, _, _, _, rfl, E5, fun U hU => ?_, .inr ?_⟩
            · rw [htk] at hU
              rcases List.mem_append.mp hU with hU | hU
              · have := hm1 U hU
                exact ⟨this.1, by omega⟩
              · rw [List.mem_singleton.mp hU]
                exact ⟨hright, by omega⟩
            · by_cases cj : m ≤ j
              · exact ⟨S, by rw [htk]; simp, by omega⟩
              · rcases hm2 with h0 | ⟨U, hU, hU2⟩
                · omega
                · exact ⟨U, by rw [htk]; exact List.mem_append_left _ hU, by omega⟩
        · refine ⟨fun mm σ H2 => ∃ (T1 : Pl) (v1 : V) (j : Nat) (y6 y7 : Option V), σ = [some v, some (.ref q), some (.int (m : Int)), some (.ref pS), some v1, some (.int (j : Int)), y6, y7] ∧ mm = T1.deep ∧ PlAt K H2 v1 T1 ∧ T1.ok n ∧ T0.go S = ((T1.go S).1, (T1.go S).2 + j) ∧ j + T1.deep ≤ 13 ∧ Ext H H2, ⟨_, T0, v, 0, _, _, rfl, rfl, hT.tk (.of e1), hok, rfl, by omega, e1⟩, ?_⟩
          rintro mm σ2 H2 ⟨T1, v1, j, y6, y7, rfl, rfl, hT1, ok1, hgo, hj, e2⟩
          have hx := hT1.dq ok1
          cases id hT1 with
          | non =>
            have hx : Dq K H2 .non .none := .non
            tm_at "r"
            tm_at "b"
            tm_at "b"
            exact tail _ _ ⟨.non, _, j, _, _, rfl, rfl, .non, ok1, hgo, e2⟩
          | @hung b ts U h ht =>
            have hx : Dq K H2 (.ref b) (.tuple [.str "hung", .tuple (U.map db)]) := hx
            tm_at "r"
            tm_at "b"
            tm_at "r"
            refine w_ixAT h at0 ?_
            tm_at "r"
            tm_at "b"
            tm_at "b"
            exact tail _ _ ⟨.hung U, _, j, _, _, rfl, rfl, hT1, ok1, hgo, e2⟩
          | @look b ts bb v0 v1 v2 v3 c0 c1 c2 c3 h ht h0 h1 h2 h3 =>
            have hx : Dq K H2 (.ref b) (.tuple [.str "look", .str (B bb), .tuple [c0.d, c1.d, c2.d, c3.d]]) := hx
            tm_at "e"
            refine w_ixAT h at0 ?_
            tm_at "e"
            have hdl : (Pl.look bb c0 c1 c2 c3).deep = 1 + max (max c0.deep c1.deep) (max c2.deep c3.deep) := rfl
            refine w_iteT (decide_eq_true (by omega)) ?_
            refine ⟨_, fun _ _ z => z, ?_⟩
            tm_at "r"
            refine w_ixAT h at1 ?_
            have hbl := ok1.1
            tm_at "r"
            refine ⟨pS, S, bb, rfl, SqL.of (e2.st _ _ hpS (nsh_bvs _)), by omega, fun x hx => by have := hSl x hx; omega, fun q5 H3 hq5 e3 hq5' => ?_⟩
            refine ⟨q5, _, rfl, SqT.of hq5', rfl, ?_⟩
            refine w_gcons ?_
            refine w_gname ?_
            refine w_gcons ?_
            refine w_gname ?_
            refine w_gnil ?_
            tm_at "r"
            refine w_ixAT (e3.tup h) (atI_k (j := 2) rfl) ?_
            tm_at "r"
            refine w_ixAT (e3.tup ht) (vat_ix2 (pr bb S) v0 v1 v2 v3) ?_
            tm_at "r"
            have tk3 : TK K H2 H3 := .of e3
            have hat := Pl.at_deep (pr bb S) bb c0 c1 c2 c3
            refine ⟨_, ?_, Pl.at (pr bb S) c0 c1 c2 c3, _, j + 1, _, _, rfl, rfl, PlAt.vat _ (h0.tk tk3) (h1.tk tk3) (h2.tk tk3) (h3.tk tk3), Pl.at_ok _ ok1, ?_, ?_, e2.trans e3⟩
            · omega
            · rw [hgo, Pl.go_look]
              show (_, _ + 1 + j) = _
              rw [show ∀ y : Nat, y + 1 + j = y + (j + 1) from fun y => by omega]
            · omega
    · rintro σ H1 ⟨m, y3, y4, y5, y6, y7, rfl, e1, hm1, hm2⟩
      rw [List.length_map, hpl, List.take_length] at hm1 hm2
      tm_at "r"
      refine k _ H1 e1 ⟨fun h => absurd (fun S hS => (hm1 S hS).1) h, fun _ => ⟨m, rfl, fun S hS => (hm1 S hS).2, ?_⟩⟩
      rcases hm2 with rfl | h
      · obtain ⟨S, hSS⟩ := List.exists_mem_of_ne_nil _ hne
        exact ⟨S, hSS, by have := (hm1 S hSS).2; omega⟩
      · exact h
end
end My
end

section
set_option pp.maxSteps 700
open PySem L2 Lw
local macro_rules | `(tactic| tm_at "s") => `(tactic| first
  | with_reducible refine w_seq ?_ | with_reducible refine w_asg ?_ | with_reducible refine w_gname ?_ | with_reducible refine w_ret ?_ | with_reducible refine w_drop ?_ | with_reducible refine w_ifS ?_ | with_reducible refine w_next ?_ | with_reducible refine w_retN ?_
  | with_reducible refine w_c ?_ | ((with_reducible refine w_var (v := ?vv) ?hh ?kk); (case hh => exact rfl)) | with_reducible refine w_op ?_ | with_reducible refine w_un ?_ | with_reducible refine w_cons ?_ | with_reducible refine w_nil ?_ | with_reducible refine w_test ?_ | with_reducible refine w_B ?_
  | with_reducible refine w_isbl ?_ | with_reducible refine w_not ?_ | with_reducible refine w_and ?_ | with_reducible refine w_or ?_ | with_reducible refine w_andV ?_ | with_reducible refine w_orV ?_ | with_reducible refine w_notV ?_ | with_reducible refine w_if ?_ | with_reducible refine w_chain ?_
  | with_reducible refine w_isN ?_ | with_reducible refine w_notN ?_ | with_reducible refine w_yes ?_ | with_reducible refine w_call ?_ | with_reducible refine w_CB ?_ | with_reducible refine w_tup ?_ | with_reducible refine w_lst ?_ | with_reducible refine w_sl ?_ | with_reducible refine w_noPart ?_
  | with_reducible refine w_part ?_ | with_reducible refine w_isint ?_ | with_reducible refine w_gSub ?_ | with_reducible refine w_break ?_ | with_reducible refine w_cont ?_
  | with_reducible refine w_I0 ?_ | with_reducible refine w_eqI ?_ | with_reducible refine w_neI ?_ | with_reducible refine w_eqS ?_ | with_reducible refine w_neS ?_ | with_reducible refine w_eqB ?_ | with_reducible refine w_neB ?_ | ((with_reducible refine w_isi (d := ?dd) ?hh ?kk); (case hh => assumption))
  | with_reducible refine w_sg ?_ | with_reducible refine w_notSg ?_ | with_reducible refine w_starts ?_ | with_reducible refine w_max2 ?_ | with_reducible refine w_min2 ?_ | with_reducible refine w_intB ?_ | with_reducible refine w_intI ?_ | with_reducible refine w_bm ?_ | with_reducible refine w_bm0 ?_ | with_reducible refine w_m1 ?_ | with_reducible refine w_m0 ?_ | with_reducible refine w_isstr ?_
  | with_reducible refine w_for ?_ | with_reducible refine w_lc ?_ | with_reducible refine w_rng ?_ | with_reducible refine w_rng2 ?_ | with_reducible refine w_ilist ?_ | with_reducible refine w_itup ?_ | with_reducible refine w_istr ?_ | with_reducible refine w_strOk ?_
  | ((with_reducible refine w_rngOk ?hh ?h2 ?kk); (case hh => omega); (case h2 => omega)) | ((with_reducible refine w_lstOk (xs := ?xx) ?hh ?kk); (case hh => assumption))
  | ((with_reducible refine w_alL ?hh ?kk); (case hh => exact Nat.le_of_ble_eq_true rfl)) | ((with_reducible refine w_alT ?hh ?kk); (case hh => exact Nat.le_of_ble_eq_true rfl))
  | ((with_reducible refine w_lenL (xs := ?xx) ?hh ?kk); (case hh => assumption)) | ((with_reducible refine w_lenT (xs := ?xx) ?hh ?kk); (case hh => assumption))
  | ((with_reducible refine w_I ?hh ?kk); (case hh => first | (show _ ≠ (0 : Int); omega) | (show (0 : Int) < _; omega) | exact ⟨by omega, by omega⟩ | exact .inl ⟨by omega, by omega⟩ | exact .inr ⟨by omega, by omega⟩ | exact ⟨by decide, by decide, by decide⟩))
  | with_reducible refine w_din ?_ | with_reducible refine w_dnot ?_ | with_reducible refine w_dget ?_ | with_reducible refine w_dput ?_ | with_reducible refine w_fld ?_ | with_reducible refine w_sto ?_ | with_reducible refine w_meth ?_ | with_reducible refine w_pop1 ?_ | with_reducible refine w_pop2 ?_ | with_reducible refine w_ikeys ?_
  | ((with_reducible refine f_width (CW := ?v1) (dx := ?v2) (t := ?v3) (l := ?v4) (w := ?v5) (told := ?v6) (many := ?v7) ?tw ?hh ?kk); (case tw => assumption); (case hh => assumption))
  | ((with_reducible refine f_things (CW := ?v1) (dx := ?v2) (t := ?v3) (l := ?v4) (w := ?v5) (told := ?v6) (many := ?v7) ?tw ?hh ?kk); (case tw => assumption); (case hh => assumption))
  | ((with_reducible refine f_listening (CW := ?v1) (dx := ?v2) (t := ?v3) (l := ?v4) (w := ?v5) (told := ?v6) (many := ?v7) ?tw ?hh ?kk); (case tw => assumption); (case hh => assumption))
  | ((with_reducible refine f_tolds (CW := ?v1) (dx := ?v2) (t := ?v3) (l := ?v4) (w := ?v5) (b := ?v6) (many := ?v7) ?tw ?hh ?kk); (case tw => assumption); (case hh => assumption))
  | ((with_reducible refine f_told (CW := ?v1) (dx := ?v2) (t := ?v3) (l := ?v4) (w := ?v5) (told := ?v6) (many := ?v7) ?tw ?hh ?kk); (case tw => assumption); (case hh => assumption))
  | ((with_reducible refine f_many (CW := ?v1) (dx := ?v2) (t := ?v3) (l := ?v4) (w := ?v5) (told := ?v6) (many := ?v7) ?tw ?hh ?kk); (case tw => assumption); (case hh => assumption))
  | ((with_reducible refine w_ixL (v := ?vv) (xs := ?xx) ?hh ?h2 ?kk); (case hh => assumption); (case h2 => exact rfl)) | ((with_reducible refine w_ixT (v := ?vv) (xs := ?xx) ?hh ?h2 ?kk); (case hh => assumption); (case h2 => exact rfl)))
local macro_rules | `(tactic| tm_at "r") => `(tactic| repeat tm_at "s")
local macro_rules | `(tactic| tm_at "b") => `(tactic| first | refine w_iteT (by with_reducible rfl) ?_ | refine w_iteF (by with_reducible rfl) ?_ | refine w_iteT (by rfl) ?_ | refine w_iteF (by rfl) ?_)
local macro_rules | `(tactic| tm_at "e") => `(tactic| repeat (first | tm_at "s" | tm_at "b"))
local macro_rules | `(tactic| tm_at "q") => `(tactic| repeat (first | with_reducible refine w_next ?_ | with_reducible refine w_seq ?_))
namespace My
abbrev s_law_worst : Stmt := top 50
theorem sc_law_worst : FnScope ["_law_told", "_law_some", "_law_known", "_law_found", "_law_beginning", "_law_parts", "_law_place", "_law_key"] ["_law_told", "_law_some", "_law_known"] (defScope s_law_worst) := ⟨rfl, rfl, rfl, by decide +kernel, rfl, by decide +kernel, by decide +kernel⟩
/-- what the sets tell at beginnings, a dict that is walked -/
structure ToldW (K : PySem.W.Frag) (td : Addr) (od : Obj) (ts : List (Bits × Addr)) (us : List Bits) (Ss : List (List Bits)) (H : Hp) : Prop where
  ob : H td = some (.frz od (.dK (tK V.ref ts)))
  ks : ts.map (·.1) = us
  nd : us.Nodup
  at_ : ∀ p ∈ ts, ToldAt K H p.2 (Ss.map (pr p.1))
section
variable {K : PySem.W.Frag} {td : Addr} {od : Obj} {ts : List (Bits × Addr)} {us : List Bits} {Ss : List (List Bits)} {H H' : Hp}
theorem ToldW.ext (h : ToldW K td od ts us Ss H) (e : Ext H H') : ToldW K td od ts us Ss H' := ⟨e.st _ _ h.ob nsh_frz, h.ks, h.nd, fun p hp => (h.at_ p hp).ext e⟩
theorem ToldW.step {d : Addr} {kvs : List (List Key × V)} (h : ToldW K td od ts us Ss H) (hd : H d = some (.dT kvs)) (s : Step [d] [d] H H') : ToldW K td od ts us Ss H' := by
  have tk : TK K H H' := .step hd s
  refine ⟨s.st _ _ h.ob (fun q => ?_) nsh_frz, h.ks, h.nd, fun p hp => ?_⟩
  · have := h.ob
    rw [List.mem_singleton.mp q, hd] at this
    cases this
  · obtain ⟨qs, h1, h2⟩ := h.at_ p hp
    refine ⟨qs, s.st _ _ h1 (fun q => ?_) (nsh_refs _), paired_mono (fun t x h => tk _ _ h) h2⟩
    rw [List.mem_singleton.mp q, hd] at h1
    cases h1
end
/-- the parts so far -/
structure PartsAt (P : Program) (w : World) (K : PySem.W.Frag) (H0 H : Hp) (d : Addr) (Ss : List (List Bits)) (b : Bits) (L : List Nat) (kvs : List (BB × Addr × Addr)) : Prop where
  bd : BDAt P w K H d kvs
  vs : ∀ x ∈ kvs, H x.2.2 = some (.lst ((prt Ss b x.1 L).map vN))
  ne : ∀ x ∈ kvs, prt Ss b x.1 L ≠ []
  al : ∀ a, prt Ss b a L ≠ [] → ∃ q p, kvs.lookup a = some (q, p)
  dj : kvs.Pairwise (fun x y => x.2.2 ≠ y.2.2)
  fr : ∀ x ∈ kvs, H0 x.2.2 = none
  fd : H0 d = none
theorem look_mem {kvs : List (BB × Addr × Addr)} {a : BB} {q p : Addr} (h : kvs.lookup a = some (q, p)) : (a, q, p) ∈ kvs := by
  induction kvs with
  | nil => cases h
  | cons x r ih =>
    obtain ⟨c, y⟩ := x
    rw [List.lookup_cons] at h
    cases e : a == c with
    | true =>
      rw [e] at h
      have : a = c := eq_of_beq e
      subst this
      cases h
      exact List.mem_cons_self
    | false =>
      rw [e] at h
      exact List.mem_cons_of_mem _ (ih h)
theorem paired_r2 {α β : Type} {r : α → β → Prop} {xs : List α} {ys : List β} (h : Paired r xs ys) : ∀ y ∈ ys, ∃ x ∈ xs, r x y := by
  induction h with
  | nil => intro y hy; cases hy
  | cons h _ ih =>
    intro y hy
    rcases List.mem_cons.mp hy with rfl | hy
    · exact ⟨_, List.mem_cons_self, h⟩
    · obtain ⟨x, h1, h2⟩ := ih y hy
      exact ⟨x, List.mem_cons_of_mem _ h1, h2⟩
theorem paired_l2 {α β : Type} {r : α → β → Prop} {xs : List α} {ys : List β} (h : Paired r xs ys) : ∀ x ∈ xs, ∃ y ∈ ys, r x y := by
  induction h with
  | nil => intro y hy; cases hy
  | cons h _ ih =>
    intro y hy
    rcases List.mem_cons.mp hy with rfl | hy
    · exact ⟨_, List.mem_cons_self, h⟩
    · obtain ⟨x, h1, h2⟩ := ih y hy
      exact ⟨x, List.mem_cons_of_mem _ h1, h2⟩
theorem prt_snoc {Ss : List (List Bits)} {b : Bits} {a : BB} {L : List Nat} {i : Nat} : prt Ss b a (L ++ [i]) = prt Ss b a L ++ (if pr b (gS Ss i) = a then [i] else []) := by
  unfold prt
  rw [List.filter_append]
  congr 1
  by_cases e : pr b (gS Ss i) = a
  · rw [if_pos e]
    simp [e]
  · rw [if_neg e]
    simp [e]
section
variable {P : Program} {w : World} {K : PySem.W.Frag} {H0 H : Hp} {d r q : Addr} {Ss : List (List Bits)} {b : Bits} {L : List Nat} {kvs : List (BB × Addr × Addr)} {i : Nat} {a : BB}
theorem look_none2 {x : BB × Addr × Addr} : ∀ {kvs : List (BB × Addr × Addr)}, kvs.lookup a = none → x ∈ kvs → x.1 ≠ a
  | [], _, hx => by cases hx
  | (c, z) :: t, h, hx => fun e => by
    rw [List.lookup_cons] at h
    cases q : a == c with
    | true => rw [q] at h; cases h
    | false =>
      rw [q] at h
      rcases List.mem_cons.mp hx with e2 | hx
      · rw [e2] at e
        have e : c = a := e
        rw [e] at q
        simp at q
      · exact look_none2 h hx e
theorem parts_old (h : PartsAt P w K H0 H d Ss b L kvs) (ha : pr b (gS Ss i) = a) {q0 p : Addr} (hl : kvs.lookup a = some (q0, p)) : PartsAt P w K H0 (upd H p (.lst ((prt Ss b a L ++ [i]).map vN))) d Ss b (L ++ [i]) kvs := by
  have hm := look_mem hl
  have hp := h.vs _ hm
  have tk : TK K H (upd H p (.lst ((prt Ss b a L ++ [i]).map vN))) := .updL hp
  have hpd : d ≠ p := ne_of h.bd.ob hp (by intro e; cases e)
  have inj : ∀ x ∈ kvs, x.2.2 = p → x = (a, q0, p) := fun x hx e => by
    refine Classical.byContradiction fun hne => ?_
    have go : ∀ l : List (BB × Addr × Addr), l.Pairwise (fun x y => x.2.2 ≠ y.2.2) → x ∈ l → (a, q0, p) ∈ l → False := by
      intro l
      induction l with
      | nil => intro _ h _; cases h
      | cons y t ih =>
        intro hp h1 h2
        obtain ⟨p1, p2⟩ := List.pairwise_cons.mp hp
        rcases List.mem_cons.mp h1 with e1 | h1
        · rcases List.mem_cons.mp h2 with e2 | h2
          · exact hne (e1.trans e2.symm)
          · exact p1 _ h2 (by rw [← e1]; exact e)
        · rcases List.mem_cons.mp h2 with e2 | h2
          · exact p1 _ h1 (by rw [← e2]; exact e.symm)
          · exact ih p2 h1 h2
    exact go kvs h.dj hx hm
  refine ⟨⟨by rw [upd_ne hpd]; exact h.bd.ob, h.bd.nd, fun x hx => tk _ _ (h.bd.ks x hx)⟩, fun x hx => ?_, fun x hx => ?_, fun c hc => ?_, h.dj, h.fr, h.fd⟩
  · by_cases e : x.2.2 = p
    · rw [inj x hx e, upd_same, prt_snoc, if_pos ha]
    · rw [upd_ne e, h.vs x hx, prt_snoc]
      have : pr b (gS Ss i) ≠ x.1 := fun e2 => by
        refine e ?_
        have := h.bd.nd
        have hxa : x.1 = a := e2.symm.trans ha
        have : x = (a, q0, p) := by
          have nd := h.bd.nd
          obtain ⟨x1, x2⟩ := x
          cases hxa
          have go : ∀ l : List (BB × Addr × Addr), (l.map (·.1)).Nodup → (x1, x2) ∈ l → (x1, q0, p) ∈ l → x2 = (q0, p) := by
            intro l
            induction l with
            | nil => intro _ h _; cases h
            | cons y t ih =>
              intro hp h1 h2
              rw [List.map_cons, List.nodup_cons] at hp
              obtain ⟨p1, p2⟩ := hp
              rcases List.mem_cons.mp h1 with e1 | h1
              · rcases List.mem_cons.mp h2 with e2 | h2
                · rw [← e1] at e2; exact (Prod.mk.inj e2).2.symm
                · rw [← e1] at p1; exact absurd (List.mem_map.mpr ⟨_, h2, rfl⟩) p1
              · rcases List.mem_cons.mp h2 with e2 | h2
                · rw [← e2] at p1; exact absurd (List.mem_map.mpr ⟨_, h1, rfl⟩) p1
                · exact ih p2 h1 h2
          rw [go kvs nd hx hm]
        rw [this]
      rw [if_neg this, List.append_nil]
  · rw [prt_snoc]
    intro e
    exact h.ne x hx (List.append_eq_nil_iff.mp e).1
  · rw [prt_snoc] at hc
    by_cases e : pr b (gS Ss i) = c
    · have : c = a := e.symm.trans ha
      subst this
      exact ⟨q0, p, hl⟩
    · rw [if_neg e, List.append_nil] at hc
      exact h.al c hc
theorem parts_new (h : PartsAt P w K H0 H d Ss b L kvs) (ha : pr b (gS Ss i) = a) (hl : kvs.lookup a = none) (hq : SqT K H q (bbV a)) (hr : H r = some (.lst [])) (hr0 : H0 r = none) : PartsAt P w K H0 (upd (upd H d (BDO P w d (kvs ++ [(a, q, r)]))) r (.lst [V.int (i : Int)])) d Ss b (L ++ [i]) (kvs ++ [(a, q, r)]) := by
  have hrd : r ≠ d := ne_of hr h.bd.ob (by intro e; cases e)
  have hrk : ∀ x ∈ kvs, x.2.2 ≠ r := fun x hx e => by
    have := h.vs x hx
    rw [e, hr] at this
    have e2 := HO.lst.inj (Option.some.inj this)
    exact h.ne x hx (List.map_eq_nil_iff.mp e2.symm)
  have hxd : ∀ x ∈ kvs, x.2.2 ≠ d := fun x hx => ne_of (h.vs x hx) h.bd.ob (by intro e; cases e)
  have pe : prt Ss b a L = [] := Classical.byContradiction fun hne => by
    obtain ⟨q', p', e⟩ := h.al a hne
    rw [hl] at e
    cases e
  have tk : TK K H (upd (upd H d (BDO P w d (kvs ++ [(a, q, r)]))) r (.lst [V.int (i : Int)])) := by
    intro c xs hs
    have key : ∀ o, H c = some o → (∀ ys, o ≠ .lst ys) → (o ≠ BDO P w d kvs) → upd (upd H d (BDO P w d (kvs ++ [(a, q, r)]))) r (.lst [V.int (i : Int)]) c = some o := fun o ho n1 n2 => by
      rw [upd_ne (fun e => by rw [e, hr] at ho; exact n1 _ (Option.some.inj ho).symm), upd_ne (fun e => by rw [e, h.bd.ob] at ho; exact n2 (Option.some.inj ho).symm)]
      exact ho
    rcases hs with (hs | ⟨o, hs⟩) | hs
    · exact .inl (.inl (key _ hs (fun ys e => by cases e) (fun e => by cases e)))
    · exact .inl (.inr ⟨o, key _ hs (fun ys e => by cases e) (fun e => by cases e)⟩)
    · exact .inr hs
  refine ⟨⟨by rw [upd_ne (Ne.symm hrd), upd_same], ?_, fun x hx => ?_⟩, fun x hx => ?_, fun x hx => ?_, fun c hc => ?_, ?_, fun x hx => ?_, h.fd⟩
  · rw [List.map_append, List.nodup_append]
    refine ⟨h.bd.nd, by simp, fun y hy z hz e => ?_⟩
    have hz : z = a := by simpa using hz
    subst hz e
    obtain ⟨x, hx, e⟩ := List.mem_map.mp hy
    exact look_none2 hl hx e
  · rcases List.mem_append.mp hx with hx | hx
    · exact tk _ _ (h.bd.ks x hx)
    · rw [List.mem_singleton.mp hx]
      exact tk _ _ hq
  · rcases List.mem_append.mp hx with hx | hx
    · rw [upd_ne (hrk x hx), upd_ne (hxd x hx), h.vs x hx, prt_snoc, if_neg fun e => look_none2 hl hx (e.symm.trans ha), List.append_nil]
    · rw [List.mem_singleton.mp hx, upd_same, prt_snoc, if_pos ha, pe]
      rfl
  · rcases List.mem_append.mp hx with hx | hx
    · rw [prt_snoc]
      intro e
      exact h.ne x hx (List.append_eq_nil_iff.mp e).1
    · rw [List.mem_singleton.mp hx, prt_snoc, if_pos ha]
      simp
  · by_cases e : c = a
    · subst e
      refine ⟨q, r, ?_⟩
      have : ∀ l : List (BB × Addr × Addr), l.lookup c = none → (l ++ [(c, q, r)]).lookup c = some (q, r) := by
        intro l
        induction l with
        | nil => intro _; simp
        | cons y t ih =>
          obtain ⟨k, v⟩ := y
          intro hl
          rw [List.lookup_cons] at hl
          rw [List.cons_append, List.lookup_cons]
          cases e : c == k with
          | true => rw [e] at hl; cases hl
          | false => rw [e] at hl; exact ih hl
      exact this kvs hl
    · rw [prt_snoc, if_neg fun e2 => e (e2.symm.trans ha), List.append_nil] at hc
      obtain ⟨q', p', h1⟩ := h.al c hc
      refine ⟨q', p', ?_⟩
      have : ∀ l : List (BB × Addr × Addr), l.lookup c = some (q', p') → (l ++ [(a, q, r)]).lookup c = some (q', p') := by
        intro l
        induction l with
        | nil => intro h; cases h
        | cons y t ih =>
          obtain ⟨k, v⟩ := y
          intro hl
          rw [List.lookup_cons] at hl
          rw [List.cons_append, List.lookup_cons]
          cases e : c == k with
          | true => rw [e] at hl; exact hl
          | false => rw [e] at hl; exact ih hl
      exact this kvs h1
  · rw [List.pairwise_append]
    refine ⟨h.dj, List.pairwise_singleton _ _, fun x hx y hy => ?_⟩
    rw [List.mem_singleton.mp hy]
    exact hrk x hx
  · rcases List.mem_append.mp hx with hx | hx
    · exact h.fr x hx
    · rw [List.mem_singleton.mp hx]
      exact hr0
theorem PartsAt.ext {H1 : Hp} (h : PartsAt P w K H0 H d Ss b L kvs) (e : Ext H H1) : PartsAt P w K H0 H1 d Ss b L kvs :=
  ⟨⟨e.st _ _ h.bd.ob nsh_ext, h.bd.nd, fun x hx => e.tup (h.bd.ks x hx)⟩, fun x hx => e.st _ _ (h.vs x hx) (nsh_nats _), h.ne, h.al, h.dj, h.fr, h.fd⟩
theorem parts_spl (h : PartsAt P w K H0 H d Ss b L kvs) (hL : L ≠ []) : 1 < kvs.length ↔ Spl Ss b L := by
  constructor
  · intro h1 a e
    match kvs, h1, h with
    | x :: y :: t, _, h =>
      have nd := h.bd.nd
      rw [List.map_cons, List.map_cons, List.nodup_cons] at nd
      have hxy : x.1 ≠ y.1 := fun e => nd.1 (by rw [e]; exact List.mem_cons_self)
      have go : ∀ z ∈ x :: y :: t, z.1 = a := fun z hz => by
        obtain ⟨j, hj⟩ := List.exists_mem_of_ne_nil _ (h.ne z hz)
        obtain ⟨hj1, hj2⟩ := mem_prt.mp hj
        rw [← e] at hj1
        exact hj2.symm.trans (mem_prt.mp hj1).2
      exact hxy ((go x (by simp)).trans (go y (by simp)).symm)
  · intro hs
    refine Nat.lt_of_not_le fun hle => ?_
    obtain ⟨j, hj⟩ := List.exists_mem_of_ne_nil _ hL
    have ho : ∀ i ∈ L, ∃ x ∈ kvs, x.1 = pr b (gS Ss i) := fun i hi => by
      obtain ⟨q, p, e⟩ := h.al (pr b (gS Ss i)) (fun e => by
        have : i ∈ prt Ss b (pr b (gS Ss i)) L := mem_prt.mpr ⟨hi, rfl⟩
        rw [e] at this
        cases this)
      exact ⟨_, look_mem e, rfl⟩
    match kvs, hle, ho with
    | [], _, ho =>
      obtain ⟨x, hx, _⟩ := ho j hj
      cases hx
    | [x], _, ho =>
      refine hs x.1 (List.filter_eq_self.mpr fun i hi => decide_eq_true ?_)
      obtain ⟨y, hy, e⟩ := ho i hi
      rw [List.mem_singleton.mp hy] at e
      exact e.symm
end
def sp_lworst (K : PySem.W.Frag) (f : Nat) : Sp := fun vs H Q _ => ∃ (td t d : Addr) (od : Obj) (ts : List (Bits × Addr)) (R us : List Bits) (Ss : List (List Bits)) (n : Nat) (l : List Nat), vs = [.ref td, .ref t, .ref d] ∧ ToldW K td od ts us Ss H ∧ PlS R us Ss n ∧ H t = some (.tup (l.map vN)) ∧ MemoW d Ss n H ∧ KeyOk Ss.length l ∧ l ≠ [] ∧ l.length ≤ f ∧
  ∀ (m : Nat) (H' : Hp), Low Ss n l m → MemoW d Ss n H' → Step [d] [d] H H' → Q (.int (m : Int)) H'
section
variable {P : Program} {w : World} {K : PySem.W.Frag} {mg : Str → Option Value} {base : Heap}
theorem ok_lworst {f : Addr} {fd : FuncData} (F : Fun K "_law_worst" "_law_worst" s_law_worst f fd) (T : TxB mg) (hM : mg "_law_worst" = some (.ref f)) (hb : Binds K fd ["_law_told", "_law_some", "_law_known"] []) : ∀ g : Nat, FnOk P w K mg base (L2.CX P w) (g + 1) f fd ["_law_told", "_law_some", "_law_known"] (sp_lworst K g)
  | 0 => by
    have no : ∀ vs H Q E, ¬ sp_lworst K 0 vs H Q E := fun vs H Q E h => by
      obtain ⟨_, _, _, _, _, _, _, _, _, l, _, _, _, _, _, _, h1, h2, _⟩ := h
      exact h1 (List.length_eq_zero_iff.mp (by omega))
    exact ⟨fun vs H Q E h => absurd h (no vs H Q E), fun A outer s H args us vs Q E _ _ _ _ h => absurd h (no vs H Q E)⟩
  | g + 1 => by
    have C_law_worst : Cal P w K mg base (g + 1) "_law_worst" ["_law_told", "_law_some", "_law_known"] (sp_lworst K g) := ⟨f, fd, ok_lworst F T hM hb g, hM, F.kp, hb⟩
    refine F.okX sc_law_worst (fun vs H Q E h => ?_) (fun cdv A outer s H vs Q E hr h => ⟨_, (pss_cons (ps_if (pt_cmpR op_eq (pe_callB (cLen (K := K) rfl) (by rfl) T.n_len (by decide +kernel) (pa_cons (pv 1) pa_nil)) pe_int (nomark _))
 (pss_one (ps_ret pe_int))
 pss_nil)
 (pss_cons (ps_if (pt_cmp (pc_dnotin (hu_of hr) (pv 1) (pv 2)))
 (pss_cons (ps_set (i := 3) sc_law_worst.nd rfl (by first | exact Or.inl rfl | exact Or.inr rfl) pe_int)
 (pss_cons (ps_for (passes_of rfl) rfl (pi_keys (pv 0)) (pg_name (i := 4) sc_law_worst.nd rfl (by first | exact Or.inl rfl | exact Or.inr rfl))
 (pss_cons (ps_set (i := 5) sc_law_worst.nd rfl (by first | exact Or.inl rfl | exact Or.inr rfl) (pe_bnew (P := P) (w := w) rfl rfl))
 (pss_cons (ps_for (passes_of rfl) rfl (piT (K := K) rfl (pv 1)) (pg_name (i := 6) sc_law_worst.nd rfl (by first | exact Or.inl rfl | exact Or.inr rfl))
 (pss_one (ps_expr (pBm (K := K) rfl PySem.F.plainAttrs_list PySem.F.slot_list_append PySem.F.type_list_append mt_append (pe_bsetd (P := P) (w := w) (K := K) rfl rfl rfl (room65 hr) (pv 5) (pe_ix (ixL (K := K) rfl) (pe_dget (hu_of hr) (pv 0) (pv 4) (fun _ _ => rfl)) (pv 6) (fun _ _ => rfl)) (pe_lst pa_nil) ⟨rfl, rfl, rfl, rfl⟩) (pa_cons (pv 6) pa_nil)))))
 (pss_one (ps_if (pt_cmpR op_gt (pe_callB (c_lenB (P := P) (w := w) (K := K) rfl rfl rfl) (by rfl) T.n_len (by decide +kernel) (pa_cons (pv 5) pa_nil)) pe_int (nomark _))
 (pss_one (ps_set (i := 3) sc_law_worst.nd rfl (by first | exact Or.inl rfl | exact Or.inr rfl) (pe_callB (c_min2 rfl) (by rfl) T.n_min (by decide +kernel) (pa_cons (pv 3) (pa_cons (pe_op op_add pe_int (pe_callB (cMax (K := K) rfl rfl) (by rfl) T.n_max (by decide +kernel) (pa_cons (pe_lc (own := [("_law_key", 7)]) (g := gName 7) (tt := tYes) rfl sc_law_worst.nd (piL (K := K) rfl (pe_callB (c_sortB (P := P) (w := w) (K := K) rfl rfl rfl rfl (room65 hr)) (by rfl) T.n_sorted (by decide +kernel) (pa_cons (pv 5) pa_nil))) (blkOk_by (own := [("_law_key", 7)]) (N := ["_law_told", "_law_some", "_law_known", "_law_found", "_law_beginning", "_law_parts", "_law_place", "_law_key"]) (sc := defScope s_law_worst) (by decide +kernel)) (fun _ _ _ _ _ => pg_name (i := 7) sc_law_worst.nd rfl (Or.inl rfl)) (fun _ _ _ _ _ => pts_nil) (fun _ _ _ _ _ => (pe_cal (E := E0) C_law_worst (hr.mono (by first | decide | omega)) passL (pa_cons (pv 0) (pa_cons (pe_callTy (cTup (K := K) rfl) (by rfl) T.n_tuple (by decide +kernel) (pa_cons (pe_bget (P := P) (w := w) (K := K) rfl rfl rfl (room65 hr) (pv 5) (pv 7) (fun _ _ => rfl)) pa_nil)) (pa_cons (pv 2) pa_nil)))))) pa_nil))) pa_nil)))))
 pss_nil)))))
 (pss_one (ps_dput (hu_of hr) (pv 2) (pv 1) (pv 3) rfl))))
 pss_nil)
 (pss_one (ps_ret (pe_dget (hu_of hr) (pv 2) (pv 1) (fun _ _ => rfl)))))), ?_⟩)
    · obtain ⟨td, t, d, od, ts, R, us, Ss, n, l, rfl, _⟩ := h
      rfl
    · obtain ⟨td, t, d, od, ts, R, us, Ss, n, l, rfl, Z, W, ht, M, hk, hne, hf, k⟩ := h
      have hl1 : 1 ≤ l.length := List.length_pos_iff.mpr hne
      tm_at "r"
      refine w_lenT (SqT.of ht) ?_
      tm_at "r"
      refine w_iteD (fun c => ?_) fun c => ?_
      · have c : l.length = 1 := by
          rw [List.length_map] at c
          omega
        tm_at "r"
        exact k 0 _ (low_one (by omega)) M (Step.of (Ext.refl _))
      · have c : 2 ≤ l.length := by
          rw [List.length_map] at c
          omega
        tm_at "q"
        refine scut (fun σ H2 => (∃ v, σ = [some (.ref td), some (.ref t), some (.ref d)] ++ v ∧ v.length = 5) ∧ MemoW d Ss n H2 ∧ Step [d] [d] H H2 ∧ ∃ kvs m, H2 d = some (.dT (dI kvs)) ∧ kvs.lookup l = some m ∧ Low Ss n l m) ?_ (fun tail => ?_)
        · rintro σ2 H2 ⟨⟨v, rfl, hv⟩, M2, st2, kvs, m, h1, h2, h3⟩
          have ht2 : H2 t = some (.tup (l.map vN)) := by
            obtain ⟨kv0, hd0⟩ := M.dt
            exact st2.st _ _ ht (fun q => by rw [List.mem_singleton.mp q, hd0] at ht; cases ht) nsh_tup
          tm_at "r"
          refine w_dgetI h1 ht2 h2 ?_
          tm_at "r"
          exact k m _ h3 M2 st2
        · obtain ⟨kv0, hd0, hm0, hn0, hk0⟩ := id M
          tm_at "r"
          refine w_dnotI hd0 ht ?_
          tm_at "r"
          have c0 := c
          refine w_iteB (fun c => ?_) fun c => ?_
          · clear c
            have hRl : ∀ i ∈ l, i < Ss.length := fun i hi => List.mem_range.mp (hk.subset hi)
            tm_at "r"
            refine w_keysOk Z.ob ?_
            refine forK (g := V.ref) (ts := ts) (fun i σ H2 => (∃ (v : List (Option V)) (f : Nat), σ = [some (.ref td), some (.ref t), some (.ref d), some (.int (f : Int))] ++ v ∧ v.length = 4 ∧ WInv Ss n l (us.take i) f) ∧ MemoW d Ss n H2 ∧ Step [d] [d] H H2)
              (fun i σ H2 h => (Z.step hd0 h.2.2).ob) ⟨⟨[none, none, none, none], 99, rfl, rfl, WInv.nil l⟩, M, Step.of (Ext.refl _)⟩ ?_ ?_
            · rintro i b wq σ H2 NN hi ⟨⟨v, f, rfl, hv, hW⟩, M2, st2⟩ kN
              obtain ⟨y4, y5, y6, y7, rfl⟩ : ∃ y4 y5 y6 y7, v = [y4, y5, y6, y7] := by
                match v, hv with
                | [y4, y5, y6, y7], _ => exact ⟨_, _, _, _, rfl⟩
              clear hv
              have Z2 := Z.step hd0 st2
              have ht2 : H2 t = some (.tup (l.map vN)) := st2.st _ _ ht (fun q => by rw [List.mem_singleton.mp q, hd0] at ht; cases ht) nsh_tup
              obtain ⟨kv2, hd2⟩ := M2.dt
              have hui : us[i]? = some b := by
                rw [← Z.ks, List.getElem?_map, hi]
                rfl
              have htake : us.take (i + 1) = us.take i ++ [b] := by rw [List.take_succ, hui]; rfl
              have hbu : b ∈ us := List.mem_of_getElem? hui
              have hbn : b.length < n := ((W.us_ b).mp hbu).2
              have hal : alook ts b = some wq := alook_of (by rw [Z.ks]; exact Z.nd) (List.mem_of_getElem? hi)
              have hTA := Z2.at_ _ (List.mem_of_getElem? hi)
              have kN : ∀ (v : List (Option V)) (f : Nat) (H3 : Hp), v.length = 4 → WInv Ss n l (us.take i ++ [b]) f → MemoW d Ss n H3 → Step [d] [d] H2 H3 → NN ([some (.ref td), some (.ref t), some (.ref d), some (.int (f : Int))] ++ v) H3 := fun v f H3 h1 h2 h3 h4 => kN _ _ ⟨⟨v, f, rfl, h1, by rw [htake]; exact h2⟩, h3, st2.trans h4⟩
              tm_at "r"
              intro p0 hp0
              have e3 : Ext H2 (upd H2 p0 (BDO P w p0 [])) := Ext.new hp0
              have bd3 : upd H2 p0 (BDO P w p0 []) p0 = some (BDO P w p0 []) := upd_same
              generalize upd H2 p0 (BDO P w p0 []) = H3 at e3 bd3 ⊢
              tm_at "r"
              refine w_tupOk (SqT.of (e3.st _ _ ht2 nsh_tup)) ?_
              refine forTg (fun j σ H4 => (∃ (y6 : Option V), σ = [some (.ref td), some (.ref t), some (.ref d), some (.int (f : Int)), some (.str (B b)), some (.ref p0), y6, y7]) ∧ Ext H2 H4 ∧ ∃ kvs, PartsAt P w K H2 H4 p0 Ss b (l.take j) kvs)
                (fun j σ H4 h => SqT.of (h.2.1.st _ _ ht2 nsh_tup)) ⟨⟨y6, rfl⟩, e3, [], ⟨bd3, List.nodup_nil, fun x hx => (by cases hx)⟩, fun x hx => (by cases hx), fun x hx => (by cases hx), fun a ha => absurd (by rw [List.take_zero]; rfl) ha, .nil, fun x hx => (by cases hx), hp0⟩ ?_ ?_
              · rintro j x σ H4 N4 hj ⟨⟨y6, rfl⟩, e4, kvs, hP⟩ kN4
                rw [List.getElem?_map] at hj
                cases hlj : l[j]? with
                | none => rw [hlj] at hj; cases hj
                | some pl =>
                  rw [hlj] at hj
                  cases hj
                  have hpl : pl < Ss.length := hRl pl (List.mem_of_getElem? hlj)
                  have htj : l.take (j + 1) = l.take j ++ [pl] := by rw [List.take_succ, hlj]; rfl
                  rw [htj] at kN4
                  have Z4 := Z2.ext e4
                  obtain ⟨qs, hq1, hq2⟩ := hTA.ext e4
                  have hql := paired_len hq2
                  rw [List.length_map] at hql
                  obtain ⟨tq, htq⟩ : ∃ tq, qs[pl]? = some tq := ⟨_, List.getElem?_eq_getElem (by omega)⟩
                  obtain ⟨bb, hbb, htb⟩ := paired_at hq2 htq
                  have hbb2 : bb = pr b (gS Ss pl) := by
                    rw [List.getElem?_map, List.getElem?_eq_getElem hpl] at hbb
                    have := Option.some.inj hbb
                    rw [← this]
                    unfold gS
                    rw [List.getD_eq_getElem?_getD, List.getElem?_eq_getElem hpl]
                    rfl
                  subst hbb2
                  refine w_gname ?_
                  tm_at "r"
                  unfold tBSetd
                  tm_at "r"
                  refine ⟨p0, kvs, rfl, hP.bd, ?_⟩
                  tm_at "r"
                  refine w_dgetB (.inr ⟨od, Z4.ob⟩) hal ?_
                  tm_at "r"
                  refine w_ixL (SqL.of hq1) (atI_k (j := pl) (by rw [List.getElem?_map, htq]; rfl)) ?_
                  tm_at "r"
                  intro r0 H5 hr0 e5 hr5
                  have hP5 := hP.ext e5
                  have e25 := e4.trans e5
                  have hr20 : H2 r0 = none := e4.free hr0
                  have htb5 := e5.tup htb
                  refine ⟨kvs, pr b (gS Ss pl), tq, r0, hP5.bd, rfl, htb5, rfl, fun q0 p hl => ?_, fun hl => ?_⟩
                  · have hm := look_mem hl
                    have hv := hP5.vs _ hm
                    refine w_tyL (SqL.of hv) ?_
                    tm_at "r"
                    refine w_append hv (by
                      rw [List.length_map]
                      have h1 := (prt_sub Ss b (pr b (gS Ss pl)) (l.take j)).length_le
                      have h2 := hk.length_le
                      rw [List.length_range] at h2
                      rw [List.length_take] at h1
                      have := W.s16
                      show (prt Ss b (pr b (gS Ss pl)) (l.take j)).length < _
                      omega) ?_
                    have hnew := parts_old (i := pl) hP5 rfl hl
                    rw [List.map_append] at hnew
                    tm_at "r"
                    exact kN4 _ _ ⟨⟨_, rfl⟩, e25.mut (hP5.fr _ hm), kvs, hnew⟩
                  · have hnew := parts_new (i := pl) hP5 rfl hl htb5 hr5 hr20
                    have hrd : r0 ≠ p0 := ne_of hr5 hP5.bd.ob (by intro e; cases e)
                    have hv : upd H5 p0 (BDO P w p0 (kvs ++ [(pr b (gS Ss pl), tq, r0)])) r0 = some (.lst []) := by rw [upd_ne hrd]; exact hr5
                    refine w_tyL (SqL.of hv) ?_
                    tm_at "r"
                    refine w_append hv (by decide) ?_
                    tm_at "r"
                    exact kN4 _ _ ⟨⟨_, rfl⟩, (e25.mut hP5.fd).mut hr20, _, hnew⟩
              · rintro σ H4 ⟨⟨y6, rfl⟩, e4, kvs, hP⟩
                rw [List.length_map, List.take_length] at hP
                tm_at "r"
                refine ⟨p0, kvs, rfl, hP.bd, ?_⟩
                tm_at "r"
                have hsp := parts_spl hP hne
                have Z4 := Z2.ext e4
                have M4 := M2.ext e4
                refine w_iteD (fun c => ?_) fun c => ?_
                · have hs : Spl Ss b l := hsp.mp (by omega)
                  clear c
                  tm_at "r"
                  refine ⟨p0, kvs, rfl, hP.bd, fun ys pS hys hpS => ?_⟩
                  have e5 : Ext H4 (upd H4 pS (.lst (ys.map fun x => V.ref x.2.1))) := Ext.new hpS
                  have hS5 : upd H4 pS (.lst (ys.map fun x => V.ref x.2.1)) pS = some (.lst (ys.map fun x => V.ref x.2.1)) := upd_same
                  generalize upd H4 pS (.lst (ys.map fun x => V.ref x.2.1)) = H5 at e5 hS5 ⊢
                  have hP5 := hP.ext e5
                  have Z5 := Z4.ext e5
                  have M5 := M4.ext e5
                  obtain ⟨kv5, hd5⟩ := M5.dt
                  have z4 := size4 hP5.bd.nd
                  have hyl : ys.length ≤ 4 := by rw [hys.length_eq]; exact z4
                  tm_at "r"
                  refine w_lstOk (SqL.of hS5) ?_
                  refine lcW (n := ys.length) (Y := fun i x => (ys.map fun x => V.ref x.2.1)[i]? = some x) (fun D i acc H' => (∃ ms : List Nat, acc = ms.map vN ∧ Paired (fun m y => Low Ss n (prt Ss b y.1 l) m) ms (ys.take i)) ∧ MemoW d Ss n H' ∧ Step [d] [d] H5 H')
                    (fun D i acc H' hi ⟨r1, r2, r3⟩ => ?_) (fun D H1 hD e => ⟨⟨[], rfl, .nil⟩, M5.ext e, Step.of e⟩) (fun D i acc H1 xs ys hD hDx ⟨r1, r2, r3⟩ => ⟨r1, r2.upd (by obtain ⟨kv, h⟩ := r2.dt; exact ne_of hDx h (by intro e; cases e)), r3.mut hD⟩) (by omega) (fun i x acc H1 D NT NE hi hY hD hDa ⟨⟨ms, eacc, r1⟩, r2, r3⟩ kF kE => ?_) fun D acc H1 ⟨⟨ms, eacc, r1⟩, r2, r3⟩ hD hDa hlen => ?_
                  · have h1 := src_lst (K := K) (SqL.of (r3.st _ _ hS5 (fun q => by rw [List.mem_singleton.mp q, hd5] at hS5; cases hS5) (nsh_mapref _ _))) (nsh_mapref _ _) H' (Ext.refl _)
                    rw [List.length_map] at h1
                    exact ⟨fun h => h1.1 i h, fun h => by rw [h]; exact h1.2⟩
                  · subst eacc
                    rw [List.getElem?_map] at hY
                    cases hyi : ys[i]? with
                    | none => rw [hyi] at hY; cases hY
                    | some y =>
                      rw [hyi] at hY
                      cases hY
                      have hyk : y ∈ kvs := hys.subset (List.mem_of_getElem? hyi)
                      have tk3 : TK K H5 H1 := .step hd5 r3
                      obtain ⟨kv1, hd1⟩ := r2.dt
                      have go : ∀ a o, H5 a = some o → (∀ k, o ≠ .dT k) → ¬ RowSh o → H1 a = some o := fun a o ha hk2 hn => r3.st _ _ ha (fun q => by
                        rw [List.mem_singleton.mp q, hd5] at ha
                        exact hk2 _ (Option.some.inj ha).symm) hn
                      have bd1 : BDAt P w K H1 p0 kvs := ⟨go _ _ hP5.bd.ob (fun k e => by cases e) nsh_ext, hP5.bd.nd, fun x hx => tk3 _ _ (hP5.bd.ks x hx)⟩
                      have hlook : kvs.lookup y.1 = some (y.2.1, y.2.2) := by
                        obtain ⟨q', p', e⟩ := hP5.al y.1 (hP5.ne y hyk)
                        have hm := look_mem e
                        have nd := hP5.bd.nd
                        rw [e]
                        have go : ∀ l : List (BB × Addr × Addr), (l.map (·.1)).Nodup → y ∈ l → (y.1, q', p') ∈ l → y = (y.1, q', p') := by
                          intro l
                          induction l with
                          | nil => intro _ h _; cases h
                          | cons z t ih =>
                            intro hp h1 h2
                            rw [List.map_cons, List.nodup_cons] at hp
                            obtain ⟨p1, p2⟩ := hp
                            rcases List.mem_cons.mp h1 with e1 | h1
                            · rcases List.mem_cons.mp h2 with e2 | h2
                              · exact e1.trans e2.symm
                              · rw [← e1] at p1; exact absurd (List.mem_map.mpr ⟨_, h2, rfl⟩) p1
                            · rcases List.mem_cons.mp h2 with e2 | h2
                              · rw [← e2] at p1; exact absurd (List.mem_map.mpr ⟨_, h1, rfl⟩) p1
                              · exact ih p2 h1 h2
                        have := go kvs nd hyk hm
                        rw [this]
                      have hv1 := go _ _ (hP5.vs y hyk) (fun k e => by cases e) (nsh_nats _)
                      have hyt := hP5.bd.ks y hyk
                      tm_at "r"
                      refine ⟨rfl, ?_⟩
                      refine w_yes ?_
                      rw [if_pos rfl]
                      tm_at "r"
                      unfold tBGet
                      tm_at "r"
                      refine ⟨p0, y.2.1, y.2.1, y.2.2, kvs, y.1, rfl, rfl, bd1, tk3 _ _ hyt, hlook, ?_⟩
                      tm_at "r"
                      refine w_tupL (SqL.of hv1) fun t6 H6 ht6 e6 ht6' => ?_
                      have hD6 := e6.st _ _ hDa (nsh_nats _)
                      tm_at "r"
                      refine ⟨td, t6, d, od, ts, R, us, Ss, n, prt Ss b y.1 l, rfl, (Z5.step hd5 r3).ext e6, W, ht6', r2.ext e6, (prt_sub Ss b y.1 l).trans hk, hP5.ne y hyk, by have := prt_less (hs y.1); omega, fun m H7 hlow M7 st7 => ?_⟩
                      obtain ⟨kv6, hd6⟩ := (r2.ext e6).dt
                      have hDd : D ≠ d := ne_of hD6 hd6 (by intro e; cases e)
                      have := kE (.int (m : Int)) H7 (st7.st _ _ hD6 (by simpa using hDd) (nsh_nats _)) ⟨⟨ms ++ [m], by rw [List.map_append]; rfl, by
                        have htk : ys.take (i + 1) = ys.take i ++ [y] := by rw [List.take_succ, hyi]; rfl
                        rw [htk]
                        exact paired_snoc (r := fun m y => Low Ss n (prt Ss b y.1 l) m) (y := y) hlow r1⟩, M7, (r3.trans (Step.of e6)).trans st7⟩
                      exact this
                  · subst eacc
                    tm_at "r"
                    rw [List.take_length] at r1
                    obtain ⟨z0, hz0⟩ := List.exists_mem_of_ne_nil _ hne
                    have hmem : ∀ a, prt Ss b a l ≠ [] → ∃ y ∈ ys, y.1 = a := fun a ha => by
                      obtain ⟨q', p', e⟩ := hP5.al a ha
                      exact ⟨_, hys.mem_iff.mpr (look_mem e), rfl⟩
                    have hR : ∀ y ∈ ys, ∃ m ∈ ms, Low Ss n (prt Ss b y.1 l) m := paired_r2 r1
                    have hL : ∀ m ∈ ms, ∃ y ∈ ys, Low Ss n (prt Ss b y.1 l) m := paired_l2 r1
                    have hns : ms.map vN = (ms.map fun m => ((m : Nat) : Int)).map V.int := by
                      rw [List.map_map]
                      rfl
                    rw [hns] at hDa
                    obtain ⟨y0, hy0, _⟩ := hmem (pr b (gS Ss z0)) (fun e => by
                      have : z0 ∈ prt Ss b (pr b (gS Ss z0)) l := mem_prt.mpr ⟨hz0, rfl⟩
                      rw [e] at this
                      cases this)
                    obtain ⟨m0, hm0', _⟩ := hR y0 hy0
                    refine ⟨D, _, rfl, SqL.of hDa, List.length_pos_of_mem (List.mem_map.mpr ⟨m0, hm0', rfl⟩), fun m hm1 hm2 => ?_⟩
                    obtain ⟨M1, hM1, rfl⟩ := List.mem_map.mp hm1
                    have hmm : ∀ a, ∃ m, prt Ss b a l ≠ [] → Low Ss n (prt Ss b a l) m := fun a => by
                      by_cases ha : prt Ss b a l = []
                      · exact ⟨0, fun h => absurd ha h⟩
                      · obtain ⟨y, hy, rfl⟩ := hmem a ha
                        obtain ⟨m', _, hm'⟩ := hR y hy
                        exact ⟨m', fun _ => hm'⟩
                    obtain ⟨mm, hmm⟩ := Classical.skolem.mp hmm
                    have hW2 := hW.step (M := M1) (mm := mm) hbn hmm (fun a ha => by
                      obtain ⟨y, hy, rfl⟩ := hmem a ha
                      obtain ⟨m', hm1', hm2'⟩ := hR y hy
                      rw [(hmm y.1 ha).uniq hm2']
                      have := hm2 _ (List.mem_map.mpr ⟨m', hm1', rfl⟩)
                      omega) (by
                      obtain ⟨y, hy, hy2⟩ := hL M1 hM1
                      have hne2 := hP5.ne y (hys.subset hy)
                      exact ⟨y.1, hne2, (hmm y.1 hne2).uniq hy2⟩)
                    tm_at "r"
                    have em : (if (1 + (M1 : Int)) < (f : Int) then (1 + (M1 : Int)) else (f : Int)) = ((min f (1 + M1) : Nat) : Int) := by
                      split <;> omega
                    rw [em]
                    exact kN _ _ _ rfl hW2 r2 ((Step.of (e4.trans e5)).trans r3)
                · have hs : ¬ Spl Ss b l := fun h => c (by have := hsp.mpr h; omega)
                  tm_at "r"
                  exact kN _ _ _ rfl (hW.skip hs) M4 (Step.of e4)
            · rintro σ H2 ⟨⟨v, f, rfl, hv, hW⟩, M2, st2⟩
              have hlen : ts.length = us.length := by rw [← Z.ks, List.length_map]
              rw [hlen, List.take_length] at hW
              have hlow := WInv.fin W hk c0 hW
              have ht2 : H2 t = some (.tup (l.map vN)) := st2.st _ _ ht (fun q => by rw [List.mem_singleton.mp q, hd0] at ht; cases ht) nsh_tup
              tm_at "r"
              refine w_memoW M2 W.s16 ht2 hlow hk fun H3 M3 st3 ⟨kvs, h1, h2⟩ => ?_
              exact tail _ _ ⟨⟨_, rfl, by simpa using hv⟩, M3, st2.trans st3, kvs, f, h1, h2, hlow⟩
          · tm_at "q"
            cases hl : kv0.lookup l with
            | none => rw [hl] at c; cases c
            | some m => exact tail _ _ ⟨⟨_, rfl, rfl⟩, M, Step.of (Ext.refl _), kv0, m, hd0, hl, hm0 l m hl⟩
end
end My
end

section
set_option pp.maxSteps 700
open PySem L2 Lw
local macro_rules | `(tactic| tm_at "s") => `(tactic| first
  | with_reducible refine w_seq ?_ | with_reducible refine w_asg ?_ | with_reducible refine w_gname ?_ | with_reducible refine w_ret ?_ | with_reducible refine w_drop ?_ | with_reducible refine w_ifS ?_ | with_reducible refine w_next ?_ | with_reducible refine w_retN ?_
  | with_reducible refine w_c ?_ | ((with_reducible refine w_var (v := ?vv) ?hh ?kk); (case hh => exact rfl)) | with_reducible refine w_op ?_ | with_reducible refine w_un ?_ | with_reducible refine w_cons ?_ | with_reducible refine w_nil ?_ | with_reducible refine w_test ?_ | with_reducible refine w_B ?_
  | with_reducible refine w_isbl ?_ | with_reducible refine w_not ?_ | with_reducible refine w_and ?_ | with_reducible refine w_or ?_ | with_reducible refine w_andV ?_ | with_reducible refine w_orV ?_ | with_reducible refine w_notV ?_ | with_reducible refine w_if ?_ | with_reducible refine w_chain ?_
  | with_reducible refine w_isN ?_ | with_reducible refine w_notN ?_ | with_reducible refine w_yes ?_ | with_reducible refine w_call ?_ | with_reducible refine w_CB ?_ | with_reducible refine w_tup ?_ | with_reducible refine w_lst ?_ | with_reducible refine w_sl ?_ | with_reducible refine w_noPart ?_
  | with_reducible refine w_part ?_ | with_reducible refine w_isint ?_ | with_reducible refine w_gSub ?_ | with_reducible refine w_break ?_ | with_reducible refine w_cont ?_
  | with_reducible refine w_I0 ?_ | with_reducible refine w_eqI ?_ | with_reducible refine w_neI ?_ | with_reducible refine w_eqS ?_ | with_reducible refine w_neS ?_ | with_reducible refine w_eqB ?_ | with_reducible refine w_neB ?_ | ((with_reducible refine w_isi (d := ?dd) ?hh ?kk); (case hh => assumption))
  | with_reducible refine w_sg ?_ | with_reducible refine w_notSg ?_ | with_reducible refine w_starts ?_ | with_reducible refine w_max2 ?_ | with_reducible refine w_min2 ?_ | with_reducible refine w_intB ?_ | with_reducible refine w_intI ?_ | with_reducible refine w_bm ?_ | with_reducible refine w_bm0 ?_ | with_reducible refine w_m1 ?_ | with_reducible refine w_m0 ?_ | with_reducible refine w_isstr ?_
  | with_reducible refine w_for ?_ | with_reducible refine w_lc ?_ | with_reducible refine w_rng ?_ | with_reducible refine w_rng2 ?_ | with_reducible refine w_ilist ?_ | with_reducible refine w_itup ?_ | with_reducible refine w_istr ?_ | with_reducible refine w_strOk ?_
  | ((with_reducible refine w_rngOk ?hh ?h2 ?kk); (case hh => omega); (case h2 => omega)) | ((with_reducible refine w_lstOk (xs := ?xx) ?hh ?kk); (case hh => assumption))
  | ((with_reducible refine w_alL ?hh ?kk); (case hh => exact Nat.le_of_ble_eq_true rfl)) | ((with_reducible refine w_alT ?hh ?kk); (case hh => exact Nat.le_of_ble_eq_true rfl))
  | ((with_reducible refine w_lenL (xs := ?xx) ?hh ?kk); (case hh => assumption)) | ((with_reducible refine w_lenT (xs := ?xx) ?hh ?kk); (case hh => assumption))
  | ((with_reducible refine w_I ?hh ?kk); (case hh => first | (show _ ≠ (0 : Int); omega) | (show (0 : Int) < _; omega) | exact ⟨by omega, by omega⟩ | exact .inl ⟨by omega, by omega⟩ | exact .inr ⟨by omega, by omega⟩ | exact ⟨by decide, by decide, by decide⟩))
  | with_reducible refine w_din ?_ | with_reducible refine w_dnot ?_ | with_reducible refine w_dget ?_ | with_reducible refine w_dput ?_ | with_reducible refine w_fld ?_ | with_reducible refine w_sto ?_ | with_reducible refine w_meth ?_ | with_reducible refine w_pop1 ?_ | with_reducible refine w_pop2 ?_ | with_reducible refine w_ikeys ?_
  | ((with_reducible refine f_width (CW := ?v1) (dx := ?v2) (t := ?v3) (l := ?v4) (w := ?v5) (told := ?v6) (many := ?v7) ?tw ?hh ?kk); (case tw => assumption); (case hh => assumption))
  | ((with_reducible refine f_things (CW := ?v1) (dx := ?v2) (t := ?v3) (l := ?v4) (w := ?v5) (told := ?v6) (many := ?v7) ?tw ?hh ?kk); (case tw => assumption); (case hh => assumption))
  | ((with_reducible refine f_listening (CW := ?v1) (dx := ?v2) (t := ?v3) (l := ?v4) (w := ?v5) (told := ?v6) (many := ?v7) ?tw ?hh ?kk); (case tw => assumption); (case hh => assumption))
  | ((with_reducible refine f_tolds (CW := ?v1) (dx := ?v2) (t := ?v3) (l := ?v4) (w := ?v5) (b := ?v6) (many := ?v7) ?tw ?hh ?kk); (case tw => assumption); (case hh => assumption))
  | ((with_reducible refine f_told (CW := ?v1) (dx := ?v2) (t := ?v3) (l := ?v4) (w := ?v5) (told := ?v6) (many := ?v7) ?tw ?hh ?kk); (case tw => assumption); (case hh => assumption))
  | ((with_reducible refine f_many (CW := ?v1) (dx := ?v2) (t := ?v3) (l := ?v4) (w := ?v5) (told := ?v6) (many := ?v7) ?tw ?hh ?kk); (case tw => assumption); (case hh => assumption))
  | ((with_reducible refine w_ixL (v := ?vv) (xs := ?xx) ?hh ?h2 ?kk); (case hh => assumption); (case h2 => exact rfl)) | ((with_reducible refine w_ixT (v := ?vv) (xs := ?xx) ?hh ?h2 ?kk); (case hh => assumption); (case h2 => exact rfl)))
local macro_rules | `(tactic| tm_at "r") => `(tactic| repeat tm_at "s")
local macro_rules | `(tactic| tm_at "b") => `(tactic| first | refine w_iteT (by with_reducible rfl) ?_ | refine w_iteF (by with_reducible rfl) ?_ | refine w_iteT (by rfl) ?_ | refine w_iteF (by rfl) ?_)
local macro_rules | `(tactic| tm_at "e") => `(tactic| repeat (first | tm_at "s" | tm_at "b"))
local macro_rules | `(tactic| tm_at "s") => `(tactic| first
  | with_reducible refine w_pcons ?_ | with_reducible refine w_pnil ?_
  | ((with_reducible refine m_width (w := ?v1) (t := ?v2) (l := ?v3) (told := ?v4) (many := ?v5) ?hh ?kk); (case hh => assumption))
  | ((with_reducible refine m_things (w := ?v1) (t := ?v2) (l := ?v3) (told := ?v4) (many := ?v5) ?hh ?kk); (case hh => assumption))
  | ((with_reducible refine m_lis (w := ?v1) (t := ?v2) (l := ?v3) (told := ?v4) (many := ?v5) ?hh ?kk); (case hh => assumption))
  | ((with_reducible refine m_saids (w := ?v1) (t := ?v2) (l := ?v3) (b := ?v4) (many := ?v5) ?hh ?kk); (case hh => assumption))
  | ((with_reducible refine m_said (w := ?v1) (t := ?v2) (l := ?v3) (told := ?v4) (many := ?v5) ?hh ?kk); (case hh => assumption))
  | ((with_reducible refine m_looks (w := ?v1) (t := ?v2) (l := ?v3) (told := ?v4) (many := ?v5) ?hh ?kk); (case hh => assumption))
  | ((with_reducible refine j_kind (c := ?v1) (r := ?v2) (said := ?v3) (n := ?v4) (s := ?v5) ?hh ?kk); (case hh => assumption))
  | ((with_reducible refine j_rest (c := ?v1) (r := ?v2) (said := ?v3) (n := ?v4) (s := ?v5) ?hh ?kk); (case hh => assumption))
  | ((with_reducible refine j_saids (c := ?v1) (r := ?v2) (b := ?v3) (n := ?v4) (s := ?v5) ?hh ?kk); (case hh => assumption))
  | ((with_reducible refine j_said (c := ?v1) (r := ?v2) (said := ?v3) (n := ?v4) (s := ?v5) ?hh ?kk); (case hh => assumption))
  | ((with_reducible refine j_found (c := ?v1) (r := ?v2) (said := ?v3) (n := ?v4) (s := ?v5) ?hh ?kk); (case hh => assumption))
  | ((with_reducible refine j_paper (c := ?v1) (r := ?v2) (said := ?v3) (n := ?v4) (s := ?v5) ?hh ?kk); (case hh => assumption)))
local macro_rules | `(tactic| tm_at "s") => `(tactic| first | with_reducible refine w_par ?_ | with_reducible refine w_gcons ?_ | with_reducible refine w_gnil ?_ | with_reducible refine w_make ?_)
local macro_rules | `(tactic| tm_at "q") => `(tactic| repeat (first | with_reducible refine w_next ?_ | with_reducible refine w_seq ?_))
namespace My
abbrev s_law : Stmt := top 52
theorem sc_law : FnScope ["_law_script", "_law_row", "_law_turn", "_law_width_here", "_law_roster_here", "_law_sets_here", "_law_told", "_law_beginning", "_law_due", "_law_handed", "_law_again", "_law_found", "_law_great", "_law_one", "_law_text"] ["_law_script"] (defScope s_law) := ⟨rfl, rfl, rfl, by decide +kernel, rfl, by decide +kernel, by decide +kernel⟩
theorem w_word {K : PySem.W.Frag} {mg : Str → Option Value} {g : Kinds K mg} {tl : XK → Hp → VK → Prop} {H : Hp} {Q : VK} (k : tl (fun cls d H' => WordOk g cls d H' Q) H fun _ H' => Q (.str "") H') : TWord g tl H Q := k
def sp_law12 (K : PySem.W.Frag) (TT : List (Addr × Str)) : Sp := fun vs H Q _ => ∃ (a : Addr) (ns : List Int), vs = [.ref a] ∧ SqL K H a (ns.map V.int) ∧ LamX.Tabs TT H ∧ ∀ H', Q (.bl true) H'
/-- a thing is locked, an own thing changes, the lock goes -/
theorem ext_lock {H : Hp} {d : Addr} {u : HO} {od : Obj} (hu : H d = some u) (hn : ¬ RowSh u) {H2 H' : Hp} {pd : Addr} (e : Ext (upd H d (.frz od u)) H2) (s : Step [pd] [pd] H2 H') (hpd : H pd = none) : Ext H (upd H' d u) where
  st := fun b o hb n => by
    by_cases c : b = d
    · subst c
      rw [upd_same, ← hu, hb]
    · rw [upd_ne c]
      exact s.st b o (e.st b o (by rw [upd_ne c]; exact hb) n) (fun q => by rw [List.mem_singleton.mp q, hpd] at hb; cases hb) n
  rw_ := fun b a i m z hb hi => by
    have c : b ≠ d := fun c => by
      rw [c, hu] at hb
      exact hn ⟨_, _, _, _, Option.some.inj hb⟩
    obtain ⟨i1, m1, z1, h1, hi1⟩ := e.rw_ b a i m z (by rw [upd_ne c]; exact hb) hi
    obtain ⟨i2, m2, z2, h2, hi2⟩ := s.rw_ b a i1 m1 z1 h1 (fun q => by rw [List.mem_singleton.mp q, hpd] at hb; cases hb) hi1
    exact ⟨i2, m2, z2, by rw [upd_ne c]; exact h2, hi2⟩
  th := fun b o hb => by
    by_cases c : b = d
    · exact ⟨u, by rw [c, upd_same]⟩
    · obtain ⟨o1, h1⟩ := e.th b o (by rw [upd_ne c]; exact hb)
      obtain ⟨o2, h2⟩ := s.th b o1 h1
      exact ⟨o2, by rw [upd_ne c]; exact h2⟩
/-- what stands in a turn of the law -/
structure In12 (K : PySem.W.Frag) (TT : List (Addr × Str)) (z : Option (Addr × Obj × HO)) (r pr ps : Addr) (qs : List Addr) (ls : List Bits) (Ss : List (List Bits)) (H : Hp) : Prop where
  lg : LG K TT z r H
  ro : H pr = some (.lst (bvs ls))
  se : H ps = some (.lst (qs.map V.ref))
  rw_ : RowsAt H qs Ss
section
variable {K : PySem.W.Frag} {TT : List (Addr × Str)} {z : Option (Addr × Obj × HO)} {r pr ps : Addr} {qs : List Addr} {ls : List Bits} {Ss : List (List Bits)} {H H' : Hp}
theorem In12.ext (h : In12 K TT z r pr ps qs ls Ss H) (e : Ext H H') : In12 K TT z r pr ps qs ls Ss H' := ⟨h.lg.ext e, e.st _ _ h.ro (nsh_bvs _), e.st _ _ h.se (nsh_refs _), h.rw_.ext e⟩
end
section
variable {P : Program} {w : World} {K : PySem.W.Frag} {mg : Str → Option Value} {base : Heap}
theorem ok_law12 {f c Pt fw : Addr} {fd fdw : FuncData} {TT : List (Addr × Str)} (g : Kinds K mg) (F : FunC K "law" "law" s_law f fd c) (T : TxB mg) (Fw : Fun K "_law_word" "_law_word" s_law_word fw fdw) (bw : Binds K fdw ["_law_work"] []) (m_word : mg "_law_word" = some (.ref fw))
    (TB : LamX.TabB base mg c Pt) (hmT : (Pt, ("law.<locals>.<lambda>" : Str)) ∈ TT) (hu : ∀ p ∈ TT, p.1 = Pt → p.2 = ("law.<locals>.<lambda>" : Str))
    (C_law_taken : Cal P w K mg base 1 "_law_taken" ["_law_row", "_law_many"] (sp_taken K)) (C_law_width : Cal P w K mg base 2 "_law_width" ["_law_row"] (sp_width K)) (C_law_roster : Cal P w K mg base 5 "_law_roster" ["_law_row", "_law_width_here", "_law_most"] (sp_roster K)) (C_law_sets : Cal P w K mg base 1 "_law_sets" ["_law_numbers"] (sp_sets K))
    (C_law_met : Cal P w K mg base 1 "_law_met" ["_law_width_here", "_law_numbers"] (sp_met K)) (C_law_looked : Cal P w K mg base 1 "_law_looked" ["_law_numbers", "_law_beginning"] (sp_looked K)) (C_law_worst : Cal P w K mg base 17 "_law_worst" ["_law_told", "_law_some", "_law_known"] (sp_lworst K 16)) (C_law_every : Cal P w K mg base 1 "_law_every" ["_law_width_here"] sp_every)
    (C_plan_of : Cal P w K mg base 35 "plan_of" ["width", "roster"] (sp_plan K g.c_TooMany)) (C_law_goes : Cal P w K mg base 8 "_law_goes" ["_law_plan", "_law_sets_here"] (sp_lgoes K)) (C_law_alike : Cal P w K mg base 7 "_law_alike" ["_law_found", "_law_due"] (sp_alikeG K 7)) :
    FnOk P w K mg base (L2.CX P w) 40 f fd ["_law_script"] (sp_law12 K TT) := by
  obtain ⟨ocw, odw, kVw, docw, pmw, anw, cdw, ctw, oslw, rfl, lkw, hcw⟩ := Fw.ex
  refine F.okX sc_law (fun vs H Q E h => ?_) (fun A outer s H vs Q E hr h => ⟨_, (pss_cons (ps_set (i := 1) sc_law.nd rfl (by first | exact Or.inl rfl | exact Or.inr rfl) (pe_lst (pa_cons (pv 0) (pa_cons pe_int (pa_cons pe_int (pa_cons pe_int pa_nil))))))
 (pss_lk (pss_cons (ps_for (passes_of rfl) rfl (pi_range1 rfl T.n_range (pa_cons pe_int pa_nil)) (pg_name (i := 2) sc_law.nd rfl (by first | exact Or.inl rfl | exact Or.inr rfl))
 (pss_cons (ps_set (i := 3) sc_law.nd rfl (by first | exact Or.inl rfl | exact Or.inr rfl) (pe_cal (E := E0) C_law_width (hr.mono (by first | decide | omega)) passL (pa_cons (pv 1) pa_nil)))
 (pss_cons (ps_set (i := 4) sc_law.nd rfl (by first | exact Or.inl rfl | exact Or.inr rfl) (pe_cal (E := E0) C_law_roster (hr.mono (by first | decide | omega)) passL (pa_cons (pv 1) (pa_cons (pv 3) (pa_cons (pe_ix (ixL (K := K) rfl) (pe_lst (pa_cons pe_int (pa_cons pe_int (pa_cons pe_int pa_nil)))) (pe_cal (E := E0) C_law_taken (hr.mono (by first | decide | omega)) passL (pa_cons (pv 1) (pa_cons pe_int pa_nil))) (fun _ _ => rfl)) pa_nil)))))
 (pss_cons (ps_set (i := 5) sc_law.nd rfl (by first | exact Or.inl rfl | exact Or.inr rfl) (pe_cal (E := E0) C_law_sets (hr.mono (by first | decide | omega)) passL (pa_cons (pv 4) pa_nil)))
 (pss_cons (ps_set (i := 6) sc_law.nd rfl (by first | exact Or.inl rfl | exact Or.inr rfl) pe_dnewK)
 (pss_cons (ps_for (passes_of rfl) rfl (piL (K := K) rfl (pe_cal (E := E0) C_law_met (hr.mono (by first | decide | omega)) passL (pa_cons (pv 3) (pa_cons (pv 4) pa_nil)))) (pg_name (i := 7) sc_law.nd rfl (by first | exact Or.inl rfl | exact Or.inr rfl))
 (pss_one (ps_dput (hu_of hr) (pv 6) (pv 7) (pe_lc (own := [("_law_one", 13)]) (g := gName 13) (tt := tYes) rfl sc_law.nd (piL (K := K) rfl (pv 5)) (blkOk_by (own := [("_law_one", 13)]) (N := ["_law_script", "_law_row", "_law_turn", "_law_width_here", "_law_roster_here", "_law_sets_here", "_law_told", "_law_beginning", "_law_due", "_law_handed", "_law_again", "_law_found", "_law_great", "_law_one", "_law_text"]) (sc := defScope s_law) (by decide +kernel)) (fun _ _ _ _ _ => pg_name (i := 13) sc_law.nd rfl (Or.inl rfl)) (fun _ _ _ _ _ => pts_nil) (fun _ _ _ _ _ => (pe_cal (E := E0) C_law_looked (hr.mono (by first | decide | omega)) passL (pa_cons (pv 13) (pa_cons (pv 7) pa_nil))))) rfl)))
 (pss_cons (ps_set (i := 8) sc_law.nd rfl (by first | exact Or.inl rfl | exact Or.inr rfl) (pe_lock (pe_cal (E := E0) C_law_worst (hr.mono (by first | decide | omega)) passL (pa_cons (pv 6) (pa_cons (pe_tupRg rfl (by rfl) T.n_tuple (prg_1 (by rfl) T.n_range (pe_callB (cLen (K := K) rfl) (by rfl) T.n_len (by decide +kernel) (pa_cons (pv 5) pa_nil)))) (pa_cons pe_dnewT pa_nil))))))
 (pss_cons (ps_set (i := 9) sc_law.nd rfl (by first | exact Or.inl rfl | exact Or.inr rfl) (pe_callTy (cList (K := K) rfl) (by rfl) T.n_list (by decide +kernel) (pa_cons (pv 4) pa_nil)))
 (pss_one (ps_for (passes_of rfl) rfl (pi_range1 rfl T.n_range (pa_cons pe_int pa_nil)) (pg_name (i := 10) sc_law.nd rfl (by first | exact Or.inl rfl | exact Or.inr rfl))
 (pss_cons (ps_set (i := 11) sc_law.nd rfl (by first | exact Or.inl rfl | exact Or.inr rfl) (pe_cal (E := E0) C_plan_of (hr.mono (by first | decide | omega)) passL (pa_cons (pv 3) (pa_cons (pv 9) pa_nil))))
 (pss_cons (ps_if (PW.pt (pw_or (pt_not (pt_val (pe_callB (cIsi (K := K) rfl) (by rfl) T.n_isinstance (by decide +kernel) (pa_cons (pv 11) (pa_cons (pe_bltn (v := .ty "tuple") rfl T.n_tuple (by decide +kernel) rfl) pa_nil))))) (pw_or (pt_cmpR op_ne (pe_callB (cLen (K := K) rfl) (by rfl) T.n_len (by decide +kernel) (pa_cons (pv 11) pa_nil)) pe_int (nomark _)) (pw_or1 (pt_cmpR (oNeD (K := K) rfl hr.units) (pv 9) (pv 4) (nomark _))))))
 (pss_one (ps_ret pe_bl))
 pss_nil)
 (pss_one (ps_if (PW.pt (pw_or (pt_not (pt_val (pe_cal (E := E0) C_law_alike (hr.mono (by first | decide | omega)) passL (pa_cons (pe_ix (ixA (K := K) rfl) (pv 11) pe_int (fun _ _ => rfl)) (pa_cons (pv 8) pa_nil))))) (pw_or1 (pt_cmpR op_ne (pe_cal (E := E0) C_law_goes (hr.mono (by first | decide | omega)) passL (pa_cons (pe_ix (ixA (K := K) rfl) (pv 11) pe_int (fun _ _ => rfl)) (pa_cons (pv 5) pa_nil))) (pv 8) (nomark _)))))
 (pss_one (ps_ret pe_bl))
 pss_nil))))))))))))))
 (pss_cons (ps_set (i := 12) sc_law.nd rfl (by first | exact Or.inl rfl | exact Or.inr rfl) (pe_slice (slL (K := K) rfl) (pe_lc (own := [("_law_text", 14)]) (g := gName 14) (tt := tYes) rfl sc_law.nd (piL (K := K) rfl (pe_cal (E := E0) C_law_every (hr.mono (by first | decide | omega)) passL (pa_cons pe_int pa_nil))) (blkOk_by (own := [("_law_text", 14)]) (N := ["_law_script", "_law_row", "_law_turn", "_law_width_here", "_law_roster_here", "_law_sets_here", "_law_told", "_law_beginning", "_law_due", "_law_handed", "_law_again", "_law_found", "_law_great", "_law_one", "_law_text"]) (sc := defScope s_law) (by decide +kernel)) (fun _ _ _ _ _ => pg_name (i := 14) sc_law.nd rfl (Or.inl rfl)) (fun _ _ _ _ _ => pts_nil) (fun _ _ _ _ _ => (pe_op o_addS (pv 14) (pe_ix ix_str pe_str (pe_cal (E := E0) C_law_taken (hr.mono (by first | decide | omega)) passL (pa_cons (pv 1) (pa_cons pe_int pa_nil))) (fun _ _ => rfl))))) po_none (po_some (pe_op op_add pe_int (pe_cal (E := E0) C_law_taken (hr.mono (by first | decide | omega)) passL (pa_cons (pv 1) (pa_cons pe_int pa_nil)))))))
 (pss_one (ps_ret (pe_cmpR op_eq (pe_work (k := 36) rfl m_word Fw.kp lkw hcw bw sc_law_word rfl (Or.inl rfl) (gives_wordR _ rfl rfl T g fw _) (hr.mono (by first | decide | omega)) (pe_lam0 (T := TT) (k := 36) TB rfl hmT hu (lamD_by (by kernel_rfl)) rfl (fun _ _ _ _ _ _ => rfl) (fun A outer s H E f c' hr => (pe_cal (E := E) C_plan_of (hr.mono (by first | decide | omega)) (passes_call (takes_of rfl rfl rfl rfl) (fun _ _ _ _ h => h)) (pa_cons pe_int (pa_cons (pv 12) pa_nil)))))) pe_str (nomark _)))))))), ?_⟩)
  · obtain ⟨a0, ns, rfl, _⟩ := h
    rfl
  · obtain ⟨a0, ns, rfl, hs0, htab, q⟩ := h
    tm_at "r"
    intro r H1 hr1 e1 hr2
    tm_at "r"
    refine lk_byS hr2 (e1.seq (nsh_ints ns) hs0) (tabs_ext htab e1) (fun z0 H2 D lg kD => ?_) (fun H' => q H')
    clear hr1 e1 hr2 hs0 htab
    tm_at "r"
    refine forR (fun i σ H => (∃ v : List (Option V), v.length = 13 ∧ σ = some (.ref a0) :: some (.ref r) :: v) ∧ LG K TT z0 r H) ⟨⟨_, rfl, rfl⟩, lg⟩ ?_ (fun σ' H' h => ?_)
    · clear lg
      rintro i0 σ H3 NN _ ⟨⟨v, hv, rfl⟩, lg⟩ kN
      obtain ⟨y2, y3, y4, y5, y6, y7, y8, y9, y10, y11, y12, y13, y14, rfl⟩ : ∃ y2 y3 y4 y5 y6 y7 y8 y9 y10 y11 y12 y13 y14, v = [y2, y3, y4, y5, y6, y7, y8, y9, y10, y11, y12, y13, y14] := by
        match v, hv with
        | [y2, y3, y4, y5, y6, y7, y8, y9, y10, y11, y12, y13, y14], _ => exact ⟨_, _, _, _, _, _, _, _, _, _, _, _, _, rfl⟩
      have kN : ∀ (v : List (Option V)) (H : Hp), v.length = 13 → LG K TT z0 r H → NN (some (.ref a0) :: some (.ref r) :: v) H := fun v H h1 h2 => kN _ _ ⟨⟨v, h1, rfl⟩, h2⟩
      tm_at "r"
      refine ⟨r, rfl, lg.row, fun n H4 hn1 hn2 e4 => ?_⟩
      have lg := lg.ext e4
      clear e4 hv
      tm_at "r"
      intro l5 H5 hl5 e5 hl51
      have hl51 : H5 l5 = some (.lst [.int 3, .int 3, .int 4]) := hl51
      have lg := lg.ext e5
      tm_at "r"
      refine u_taken lg.row (by omega) (by omega) fun x H6 hx0 hx1 e6 => ?_
      have lg := lg.ext e6
      have hl52 := e6.st _ _ hl51 (nsh_ints [3, 3, 4])
      obtain ⟨mo, hmo, hmo4⟩ : ∃ mo : Nat, atI [V.int 3, V.int 3, V.int 4] (x : Int) = some (.int (mo : Int)) ∧ 1 ≤ mo ∧ mo ≤ 4 := by
        have hx : x = 0 ∨ x = 1 ∨ x = 2 := by omega
        rcases hx with rfl | rfl | rfl
        · exact ⟨3, rfl, by decide, by decide⟩
        · exact ⟨3, rfl, by decide, by decide⟩
        · exact ⟨4, rfl, by decide, by decide⟩
      tm_at "r"
      refine w_ixL (SqL.of hl52) hmo ?_
      clear hl51 hl52 e5 e6 hl5
      tm_at "r"
      refine ⟨r, n, mo, rfl, lg.row, hn1, hn2, hmo4.1, by omega, fun pr ls H6 hpr e6 hpr6 hlr hls hlz => ?_⟩
      have lg := lg.ext e6
      have hz4 : ls.length ≤ 4 := Nat.le_trans hlz.2 hmo4.2
      tm_at "r"
      refine ⟨pr, ls, rfl, SqL.of hpr6, by omega, rise_nodup hlr, fun ps qs Ss H7 hps e7 hps7 hrw7 hperm hri _ => ?_⟩
      have J : In12 K TT z0 r pr ps qs ls Ss H7 := ⟨lg.ext e7, e7.st _ _ hpr6 (nsh_bvs _), hps7, hrw7⟩
      have hN : Ss.length ≤ 16 := by
        rw [hperm.length_eq, subs_len]
        exact Nat.le_trans (Nat.pow_le_pow_right (by decide) hz4) (by decide)
      have hSs : ∀ S ∈ Ss, S.length ≤ 40 ∧ ∀ x ∈ S, x.length = n := fun S hS => by
        have := mem_subs.mp (hperm.mem_iff.mp hS)
        exact ⟨by have := this.length_le; omega, fun x hx => hls x (this.subset hx)⟩
      have hSne : Ss ≠ [] := fun e => by
        have h := hperm.mem_iff.mpr (mem_subs.mpr (List.nil_sublist ls))
        rw [e] at h
        cases h
      clear lg hpr e6 hpr6 e7 hps7 hrw7 hps
      tm_at "r"
      intro pt hpt
      have e8 : Ext H7 (upd H7 pt (.dK [])) := Ext.new hpt
      have hpt8 : upd H7 pt (.dK []) pt = some (.dK (tK V.ref ([] : List (Bits × Addr)))) := upd_same
      generalize upd H7 pt (.dK []) = H8 at e8 hpt8 ⊢
      have hpl7 := paired_len J.rw_
      tm_at "r"
      refine ⟨n, pr, ls, rfl, hn1, hn2, SqL.of (J.ext e8).ro, by omega, hls, fun us pu H9 hpu e9 hpu9 hus hum => ?_⟩
      have hpt9 := e8.trans e9
      have hpu7 : H7 pu = none := e8.free hpu
      have hul : us.length ≤ 481 := Nat.le_trans (beg_many (by omega) hn2 (rise_nodup hus) fun b hb => (hum b).mp hb) (Nat.le_refl _)
      tm_at "r"
      refine w_lstOk (SqL.of hpu9) ?_
      refine forL (fun i σ H => (∃ (y7 y13 : Option V), σ = [some (.ref a0), some (.ref r), some (.int (0 + (i0 : Int))), some (.int (n : Int)), some (.ref pr), some (.ref ps), some (.ref pt), y7, y8, y9, y10, y11, y12, y13, y14]) ∧ Ext H7 H ∧ H pu = some (.lst (bvs us)) ∧ ∃ ts : List (Bits × Addr), H pt = some (.dK (tK V.ref ts)) ∧ ts.map (·.1) = us.take i ∧ ∀ p ∈ ts, ToldAt K H p.2 (Ss.map (_root_.Lw.pr p.1)))
        (fun i σ H h => SqL.of h.2.2.1) ⟨⟨y7, y13, rfl⟩, hpt9, hpu9, [], e9.st _ _ hpt8 nsh_dK, rfl, fun p hp => (by cases hp)⟩ ?_ ?_
      · rintro i x σ H10 N10 hi ⟨⟨y7, y13, rfl⟩, e10, hpu10, ts, hpt10, hks, hts⟩ kN10
        obtain ⟨b, hb, rfl⟩ := bvs_get hi
        have hbu : b ∈ us := List.mem_of_getElem? hb
        have hbn : b.length < n := ((hum b).mp hbu).2
        have htake : us.take (i + 1) = us.take i ++ [b] := by rw [List.take_succ, hb]; rfl
        have J10 := J.ext e10
        tm_at "r"
        refine w_lstOk (SqL.of J10.se) ?_
        refine lcH (src_lst (SqL.of J10.se) (nsh_refs _)) (fun i acc H' => ∃ ts : List Addr, acc = ts.map V.ref ∧ BbsAt K H' ts ((Ss.take i).map (_root_.Lw.pr b)))
          (fun i acc Ha Hb ⟨ts, h1, h2⟩ e => ⟨ts, h1, h2.ext e⟩) (fun i acc Ha D xs o hD ⟨ts, h1, h2⟩ => ⟨ts, h1, paired_mono (fun t p h => sqT_upd hD h) h2⟩) (fun Ha _ => ⟨[], rfl, .nil⟩) (fun i acc Ha ⟨ts, h1, _⟩ => (by rw [h1]; exact nsh_refs _)) (by rw [List.length_map]; omega) (fun _ => rfl) (fun j x acc H5 NE hil hY hacc e5 kE => ?_) (fun t acc H5 hacc ht5 e5 ht5' hlen2 => ?_)
        · obtain ⟨ts, rfl, hts⟩ := hacc
          rw [List.getElem?_map] at hY
          cases hpi : qs[j]? with
          | none => rw [hpi] at hY; cases hY
          | some pi =>
            rw [hpi] at hY
            cases hY
            obtain ⟨S, hS, hSp⟩ := paired_at J10.rw_ hpi
            obtain ⟨s1, s2⟩ := hSs S (List.mem_of_getElem? hS)
            tm_at "r"
            refine ⟨pi, S, b, rfl, SqL.of (e5.st _ _ hSp (nsh_bvs _)), by omega, fun l hl => ⟨by rw [s2 l hl]; exact hbn, by rw [s2 l hl]; omega⟩, fun t H6 ht e6 ht6 => ?_⟩
            refine kE _ _ e6 ⟨ts ++ [t], by rw [List.map_append]; rfl, ?_⟩
            rw [List.take_succ, hS]
            simp only [Option.toList_some, List.map_append]
            exact paired_snoc (r := fun t x => SqT K H6 t (bbV x)) (y := _root_.Lw.pr b S) (SqT.of ht6) (hts.ext e6)
        · obtain ⟨cs, rfl, hcs⟩ := hacc
          rw [List.length_map, hpl7, List.take_length] at hcs
          have hpt5 := e5.st _ _ hpt10 nsh_dK
          have hnt : b ∉ ts.map (·.1) := by
            rw [hks]
            intro hm
            have nd := rise_nodup hus
            have : (us.take (i + 1)).Nodup := nd.sublist (List.take_sublist _ _)
            rw [htake, List.nodup_append] at this
            exact this.2.2 b hm b (by simp) rfl
          have htl : ts.length ≤ 481 := by
            have := congrArg List.length hks
            rw [List.length_map, List.length_take] at this
            omega
          tm_at "r"
          refine w_dputB (g := V.ref) hpt5 (by omega) ?_
          rw [aput_new hnt]
          have E := (e10.trans e5).mut (o := .dK (tK V.ref (ts ++ [(b, t)]))) hpt
          have npt : ∀ a xs, H5 a = some (.lst xs) → a ≠ pt := fun a xs h => ne_of h hpt5 (by intro e; cases e)
          have tk : TK K H5 (upd H5 pt (.dK (tK V.ref (ts ++ [(b, t)])))) := fun a xs hs => by
            rcases hs with (hs | ⟨o, hs⟩) | hs
            · exact .inl (.inl (by rw [upd_ne (ne_of hs hpt5 (by intro e; cases e))]; exact hs))
            · exact .inl (.inr ⟨o, by rw [upd_ne (ne_of hs hpt5 (by intro e; cases e))]; exact hs⟩)
            · exact .inr hs
          have told : ∀ {q : Addr} {xs : List BB}, ToldAt K H5 q xs → ToldAt K (upd H5 pt (.dK (tK V.ref (ts ++ [(b, t)])))) q xs := fun ⟨ws, h1, h2⟩ => ⟨ws, by rw [upd_ne (npt _ _ h1)]; exact h1, paired_mono (fun t x h => tk _ _ h) h2⟩
          refine kN10 _ _ ⟨⟨_, _, rfl⟩, E, by rw [upd_ne (npt _ _ (e5.st _ _ hpu10 (nsh_bvs _)))]; exact e5.st _ _ hpu10 (nsh_bvs _), _, upd_same, by rw [List.map_append, hks, htake]; rfl, fun p hp => ?_⟩
          rcases List.mem_append.mp hp with hp | hp
          · exact told ((hts p hp).ext e5)
          · rw [List.mem_singleton.mp hp]
            exact told ⟨cs, ht5', hcs⟩
      · rintro σ H10 ⟨⟨y7, y13, rfl⟩, e10, hpu10, ts, hpt10, hks, hts⟩
        rw [bvs_len, List.take_length] at hks
        have J10 := J.ext e10
        tm_at "r"
        have W : PlS ls us Ss n := ⟨⟨hn1, hn2⟩, hls, hz4, hum, fun S hS => by
          have hsub := mem_subs.mp (hperm.mem_iff.mp hS)
          exact ⟨List.Pairwise.sublist hsub hlr, fun x hx => hsub.subset hx, by have := hsub.length_le; omega⟩, riseS_nodup hri, hN⟩
        refine ⟨pt, _, hpt10, True.intro, fun od => ?_⟩
        have hzf : upd H10 pt (.frz od (.dK (tK V.ref ts))) pt = some (.frz od (.dK (tK V.ref ts))) := upd_same
        have npt : ∀ a o, H10 a = some o → (∀ k, o ≠ .dK k) → upd H10 pt (.frz od (.dK (tK V.ref ts))) a = some o := fun a o h hk => by
          rw [upd_ne (fun e => by rw [e, hpt10] at h; exact hk _ (Option.some.inj h).symm)]
          exact h
        have nkf : ∀ a, a ≠ pt → upd H10 pt (.frz od (.dK (tK V.ref ts))) a = H10 a := fun a h => upd_ne h
        have tkf : TK K H10 (upd H10 pt (.frz od (.dK (tK V.ref ts)))) := fun a xs hs => by
          rcases hs with (hs | ⟨o, hs⟩) | hs
          · exact .inl (.inl (npt _ _ hs (fun k e => by cases e)))
          · exact .inl (.inr ⟨o, npt _ _ hs (fun k e => by cases e)⟩)
          · exact .inr hs
        have Zf : ToldW K pt od ts us Ss (upd H10 pt (.frz od (.dK (tK V.ref ts)))) := ⟨hzf, hks, rise_nodup hus, fun p hp => by
          obtain ⟨ws, h1, h2⟩ := hts p hp
          exact ⟨ws, npt _ _ h1 (fun k e => by cases e), paired_mono (fun t x h => tkf _ _ h) h2⟩⟩
        have hse := npt _ _ J10.se (fun k e => by cases e)
        have lock := @ext_lock H10 pt (.dK (tK V.ref ts)) od hpt10 nsh_dK
        generalize upd H10 pt (.frz od (.dK (tK V.ref ts))) = Hf at *
        tm_at "r"
        refine w_tupRg ?_
        refine w_rg1 ?_
        tm_at "r"
        refine w_lenL (SqL.of hse) ?_
        tm_at "r"
        rw [List.length_map, hpl7]
        refine ⟨RgOk.of_le (by omega) (by omega) (by omega) (by omega), fun tt htt => ?_⟩
        have e11 : Ext Hf (upd Hf tt (.tup (rgV 0 (Ss.length : Int)))) := Ext.new htt
        have htt1 : upd Hf tt (.tup (rgV 0 (Ss.length : Int))) tt = some (.tup ((List.range Ss.length).map vN)) := by rw [upd_same, rgV_nat]; rfl
        generalize upd Hf tt (.tup (rgV 0 (Ss.length : Int))) = H11 at e11 htt1 ⊢
        tm_at "r"
        intro pd hpd
        have e12 : Ext H11 (upd H11 pd (.dT [])) := Ext.new hpd
        have hpd1 : upd H11 pd (.dT []) pd = some (.dT (dI [])) := upd_same
        have htt2 : upd H11 pd (.dT []) tt = some (.tup ((List.range Ss.length).map vN)) := by rw [upd_ne (ne_of_none htt1 hpd)]; exact htt1
        generalize upd H11 pd (.dT []) = H12 at e12 hpd1 htt2 ⊢
        have e13 := e11.trans e12
        have hpd0 : Hf pd = none := e11.free hpd
        have hpd10 : H10 pd = none := by
          cases q : H10 pd with
          | none => rfl
          | some o =>
            by_cases c : ∃ k, o = .dK k
            · obtain ⟨k, rfl⟩ := c
              by_cases c2 : pd = pt
              · rw [c2, hzf] at hpd0
                cases hpd0
              · exact absurd (nkf pd c2) (by rw [hpd0, q]; intro e; cases e)
            · have := npt pd o q (fun k e => c ⟨k, e⟩)
              rw [hpd0] at this
              cases this
        have h0 : 0 < Ss.length := by
          rw [hperm.length_eq, subs_len]
          exact Nat.pow_pos (by decide)
        tm_at "r"
        refine ⟨pt, tt, pd, od, ts, ls, us, Ss, n, List.range Ss.length, rfl, Zf.ext e13, W, htt2, ⟨[], hpd1, fun l m h => (by cases h), List.nodup_nil, fun l h => (by cases h)⟩, List.Sublist.refl _, fun e => ?_, by rw [List.length_range]; exact hN, fun m H13 hlow _ st13 => ?_⟩
        · have := congrArg List.length e
          rw [List.length_range] at this
          simp only [List.length_nil] at this
          omega
        have hz13 : H13 pt = some (.frz od (.dK (tK V.ref ts))) := st13.st _ _ (e13.st _ _ hzf nsh_frz) (fun q => by rw [List.mem_singleton.mp q] at hzf; rw [hzf] at hpd0; cases hpd0) nsh_frz
        have E := lock e13 st13 hpd10
        refine ⟨hz13, ?_⟩
        generalize upd H13 pt (.dK (tK V.ref ts)) = H14 at E ⊢
        have J := J.ext (e10.trans E)
        clear lock st13 hz13 e13 hpd0 hpd10 hpd1 htt2 htt1 e12 e11 hpd htt hse Zf tkf npt nkf hzf hts hks hpt10 hpu10 e10 J10 hpu7 hpt9 hpu9 e9 hpu e8 hpt8 hpt hul
        tm_at "r"
        refine w_listL (SqL.of J.ro) fun ph H15 hph e15 hph15 => ?_
        have J := J.ext e15
        clear e15 hph
        tm_at "r"
        refine forR (fun i σ H => (∃ y10 y11, σ = [some (.ref a0), some (.ref r), some (.int (0 + (i0 : Int))), some (.int (n : Int)), some (.ref pr), some (.ref ps), some (.ref pt), y7, some (.int (m : Int)), some (.ref ph), y10, y11, y12, y13, y14]) ∧ In12 K TT z0 r pr ps qs ls Ss H ∧ H ph = some (.lst (bvs ls))) ⟨⟨y10, y11, rfl⟩, J, hph15⟩ ?_ ?_
        · clear J hph15
          rintro i1 σ H9 N9 _ ⟨⟨y10, y11, rfl⟩, J, hph⟩ kN9
          tm_at "r"
          refine ⟨n, ph, ls, rfl, ⟨hn1, hn2⟩, SqL.of hph, ⟨hlz.1, by omega⟩, hls, hlr, fun h => absurd h (by omega), fun _ q m2 T0 S2 us2 H10 e10 hm W2 hpm hss hb => ?_⟩
          obtain rfl : S2 = Ss := riseS_ext hss hri fun x => by rw [hpm.mem_iff, hperm.mem_iff]
          obtain rfl : m2 = m := (best_low W2 hb).uniq hlow
          obtain ⟨pv, hq, hT⟩ := hm
          have J := J.ext e10
          have hph := e10.st _ _ hph (nsh_bvs _)
          have dT := hT.dq hb.ok
          have dq : Dq K H10 (.ref q) (.tuple [.int (m2 : Int), T0.d]) := .tup hq (by show 2 ≤ 100000; decide) (.cons (.int _) (.cons dT .nil))
          tm_at "r"
          rw [show isiB "tuple" (PyData.tuple [PyData.int (m2 : Int), T0.d]) = true from rfl]
          tm_at "e"
          refine w_neLs (SqL.of hph) (SqL.of J.ro) ?_
          tm_at "r"
          refine w_iteF (by simp) ?_
          tm_at "r"
          refine w_ixAT hq at0 ?_
          tm_at "r"
          refine u_alikeE (d := .int (m2 : Int)) (.int _) (.int _) (by simp [PyData.depth]) fun H11 e11 => ?_
          have J := J.ext e11
          have hT := hT.tk (.of e11)
          have hq := e11.tup hq
          tm_at "r"
          tm_at "b"
          tm_at "r"
          refine w_ixAT hq at1 ?_
          tm_at "r"
          have hm4 := best_few W2 hb
          have hdp := hb.deep
          refine ⟨n, pv, ps, qs, T0, S2, rfl, hT, hb.ok, hn2, by omega, SqL.of J.se, J.rw_, by omega, hSs, hSne, fun u H12 e12 fol => ?_⟩
          have J := J.ext e12
          have hu : u = .int (m2 : Int) := by
            obtain ⟨m3, rfl, f1, S, hS, f2⟩ := fol.2 fun S hS => by
              obtain ⟨i, hi, e⟩ := gS_of hS
              have := (hb.go i hi).1
              rwa [e] at this
            obtain ⟨i, hi, e⟩ := gS_of hS
            have h1 := (hb.go i hi).2
            rw [e, f2] at h1
            obtain ⟨i2, hi2, e2⟩ := hb.att
            have h2 := f1 _ (gS_mem (List.mem_range.mp hi2))
            rw [e2] at h2
            obtain rfl : m3 = m2 := by omega
            rfl
          subst hu
          tm_at "r"
          refine w_iteF (by simp) ?_
          tm_at "q"
          exact kN9 _ _ ⟨⟨_, _, rfl⟩, J, (e11.trans e12).st _ _ hph (nsh_bvs _)⟩
        · rintro σ H9 ⟨⟨y10, y11, rfl⟩, J, hph⟩
          exact kN _ _ rfl J.lg
    · obtain ⟨⟨v, hv, rfl⟩, lg⟩ := h
      obtain ⟨y2, y3, y4, y5, y6, y7, y8, y9, y10, y11, y12, y13, y14, rfl⟩ : ∃ y2 y3 y4 y5 y6 y7 y8 y9 y10 y11 y12 y13 y14, v = [y2, y3, y4, y5, y6, y7, y8, y9, y10, y11, y12, y13, y14] := by
        match v, hv with
        | [y2, y3, y4, y5, y6, y7, y8, y9, y10, y11, y12, y13, y14], _ => exact ⟨_, _, _, _, _, _, _, _, _, _, _, _, _, rfl⟩
      clear hv
      have hl3 : (every 3).length = 8 := every_len
      tm_at "r"
      refine ⟨3, rfl, by decide, fun pe H8 hpe e8 hpe8 => ?_⟩
      have lg := lg.ext e8
      tm_at "r"
      refine w_lstOk (SqL.of hpe8) ?_
      refine lcH (src_lst (SqL.of hpe8) (nsh_bvs _)) (fun k acc H' => ∃ L : List Bits, acc = bvs L ∧ Paired (fun (a t : Bits) => ∃ c : Bool, a = t ++ [c]) L ((every 3).take k)) (fun k acc Ha Hb h _ => h) (fun k acc Ha D xs o _ h => h) (fun Ha _ => ⟨[], rfl, .nil⟩) (fun k acc Ha ⟨L, h1, _⟩ => by rw [h1]; exact nsh_bvs _) (by rw [bvs_len, hl3]; decide) (fun _ => rfl) (fun k x acc H9 NE hk hY hacc e9 kE => ?_) (fun D acc H9 hacc hD e9 hDa _ => ?_)
      · obtain ⟨L, rfl, hL⟩ := hacc
        obtain ⟨t, ht, rfl⟩ := bvs_get hY
        have htl := mem_every.mp (List.mem_of_getElem? ht)
        tm_at "r"
        refine u_taken (lg.ext e9).row (by omega) (by omega) fun x H10 hx0 hx1 e10 => ?_
        obtain ⟨c, hc⟩ : ∃ c : Bool, atI (Str.ofString "01").cps.toList x = some (bc c) := by
          have : x = 0 ∨ x = 1 := by omega
          rcases this with rfl | rfl
          · exact ⟨false, by decide +kernel⟩
          · exact ⟨true, by decide +kernel⟩
        refine w_ixS (by decide +kernel) hc ?_
        tm_at "r"
        refine w_addS (by rw [B_len, htl]; show 3 + 1 ≤ _; decide) ?_
        have eB : (B t ++ (⟨#[bc c]⟩ : Str)) = B (t ++ [c]) := by
          rw [← B_app]
          rfl
        rw [eB]
        refine kE _ H10 e10 ⟨L ++ [t ++ [c]], by rw [← bvs_append]; rfl, ?_⟩
        rw [List.take_succ, ht]
        exact paired_snoc (r := fun (a t : Bits) => ∃ c : Bool, a = t ++ [c]) ⟨c, rfl⟩ hL
      · obtain ⟨L, rfl, hL⟩ := hacc
        rw [bvs_len, List.take_length] at hL
        have lg := lg.ext e9
        obtain ⟨g1, g2, _⟩ := rise_tail (k := 3) hL every_rise fun t ht => mem_every.mp ht
        have hLl := paired_len hL
        rw [hl3] at hLl
        tm_at "r"
        refine u_taken lg.row (by omega) (by omega) fun x H10 hx0 hx1 e10 => ?_
        have lg := lg.ext e10
        have hD10 := e10.st _ _ hDa (nsh_bvs _)
        obtain ⟨jj, hjj, hj7⟩ : ∃ jj : Nat, 5 + x = (jj : Int) ∧ 5 ≤ jj ∧ jj ≤ 8 := ⟨(5 + x).toNat, by omega, by omega⟩
        tm_at "r"
        rw [hjj]
        refine w_slL (SqL.of hD10) fun pg H11 hpg e11 hpg1 => ?_
        rw [cutV_to, show (bvs L).take jj = bvs (L.take jj) from (List.map_take ..).symm] at hpg1
        have lg := lg.ext e11
        tm_at "r"
        refine ⟨lg.tab, fun f1 H12 eN1 T12 _ lam1 => ⟨f1, _, rfl, lam1, ?_⟩⟩
        have lg := lg.lam eN1 T12
        have hpg2 := eN1 _ _ hpg1 (fun ps q => by cases q)
        refine w_word ?_
        tm_at "r"
        have hgl : (L.take jj).length = jj := by rw [List.length_take]; omega
        refine ⟨4, pg, L.take jj, rfl, ⟨by decide, by decide⟩, SqL.of hpg2, by omega, fun x hx => g2 x (List.mem_of_mem_take hx), List.Pairwise.sublist (List.take_sublist _ _) g1, fun _ H13 e13 => ?_, fun h => absurd h (by omega)⟩
        refine ⟨11, g.c_TooMany, "many", rfl, rfl, by decide, by decide, by decide, rfl, rfl, fun H14 e14 => ?_⟩
        tm_at "r"
        rw [decide_eq_true rfl]
        exact kD _ ((lg.ext e13).ext e14)
end
end My
end

section
set_option pp.maxSteps 700
namespace My
open PySem L2 Lw PyProof.Rows
theorem all_mk {l : PySem.W.OpenLaw} {w : World} {K : PySem.W.Frag} {h : Heap} {mg : Str → Option Value} {fa c_Planner f_law_taken f_law_width f_law_number f_law_near f_law_things f_law_roster f_law_sets f_law_met f_law_looked f_law_worst f_law_every f_need_width f_are_bits f_is_number f_are_rising f_need_roster f_all_sets f_beginnings_of f_look_at f_parting f_Planner___init f_Planner_best f_plan_of f_law_alike f_law_goes f_law cd_law P_law f_Planner_tried f_law_word e_BusError e_BadWidth e_BadNumber e_BadKind e_BadBit e_There e_NotThere e_NoRound e_Over e_Busy e_BadLooks e_BadRoster e_TooMany e_BadPlan e_BadStep e_BadText a_ANSWERS b0_ANSWERS b1_ANSWERS b2_ANSWERS b3_ANSWERS : Addr} {ts : List Addr} (X : K.In h) (G : h.Ns mainGlobals mg) (hts : ∀ P ∈ ts, h.get? P = some (PySem.W.tabObj #[])) (hfa : mg "law" = some (.ref fa))
    {od_law_taken an_law_taken : Option Addr} {sl_law_taken : Array (Option Value)} {oc_law_taken kV_law_taken dc_law_taken pm_law_taken ct_law_taken cd_law_taken : Value}
    {od_law_width an_law_width : Option Addr} {sl_law_width : Array (Option Value)} {oc_law_width kV_law_width dc_law_width pm_law_width ct_law_width cd_law_width : Value}
    {od_law_number an_law_number : Option Addr} {sl_law_number : Array (Option Value)} {oc_law_number kV_law_number dc_law_number pm_law_number ct_law_number cd_law_number : Value}
    {od_law_near an_law_near : Option Addr} {sl_law_near : Array (Option Value)} {oc_law_near kV_law_near dc_law_near pm_law_near ct_law_near cd_law_near : Value}
    {od_law_things an_law_things : Option Addr} {sl_law_things : Array (Option Value)} {oc_law_things kV_law_things dc_law_things pm_law_things ct_law_things cd_law_things : Value}
    {od_law_roster an_law_roster : Option Addr} {sl_law_roster : Array (Option Value)} {oc_law_roster kV_law_roster dc_law_roster pm_law_roster ct_law_roster cd_law_roster : Value}
    {od_law_sets an_law_sets : Option Addr} {sl_law_sets : Array (Option Value)} {oc_law_sets kV_law_sets dc_law_sets pm_law_sets ct_law_sets cd_law_sets : Value}
    {od_law_met an_law_met : Option Addr} {sl_law_met : Array (Option Value)} {oc_law_met kV_law_met dc_law_met pm_law_met ct_law_met cd_law_met : Value}
    {od_law_looked an_law_looked : Option Addr} {sl_law_looked : Array (Option Value)} {oc_law_looked kV_law_looked dc_law_looked pm_law_looked ct_law_looked cd_law_looked : Value}
    {od_law_worst an_law_worst : Option Addr} {sl_law_worst : Array (Option Value)} {oc_law_worst kV_law_worst dc_law_worst pm_law_worst ct_law_worst cd_law_worst : Value}
    {od_law_every an_law_every : Option Addr} {sl_law_every : Array (Option Value)} {oc_law_every kV_law_every dc_law_every pm_law_every ct_law_every cd_law_every : Value}
    {od_need_width an_need_width : Option Addr} {sl_need_width : Array (Option Value)} {oc_need_width kV_need_width dc_need_width pm_need_width ct_need_width cd_need_width : Value}
    {od_are_bits an_are_bits : Option Addr} {sl_are_bits : Array (Option Value)} {oc_are_bits kV_are_bits dc_are_bits pm_are_bits ct_are_bits cd_are_bits : Value}
    {od_is_number an_is_number : Option Addr} {sl_is_number : Array (Option Value)} {oc_is_number kV_is_number dc_is_number pm_is_number ct_is_number cd_is_number : Value}
    {od_are_rising an_are_rising : Option Addr} {sl_are_rising : Array (Option Value)} {oc_are_rising kV_are_rising dc_are_rising pm_are_rising ct_are_rising cd_are_rising : Value}
    {od_need_roster an_need_roster : Option Addr} {sl_need_roster : Array (Option Value)} {oc_need_roster kV_need_roster dc_need_roster pm_need_roster ct_need_roster cd_need_roster : Value}
    {od_all_sets an_all_sets : Option Addr} {sl_all_sets : Array (Option Value)} {oc_all_sets kV_all_sets dc_all_sets pm_all_sets ct_all_sets cd_all_sets : Value}
    {od_beginnings_of an_beginnings_of : Option Addr} {sl_beginnings_of : Array (Option Value)} {oc_beginnings_of kV_beginnings_of dc_beginnings_of pm_beginnings_of ct_beginnings_of cd_beginnings_of : Value}
    {od_look_at an_look_at : Option Addr} {sl_look_at : Array (Option Value)} {oc_look_at kV_look_at dc_look_at pm_look_at ct_look_at cd_look_at : Value}
    {od_parting an_parting : Option Addr} {sl_parting : Array (Option Value)} {oc_parting kV_parting dc_parting pm_parting ct_parting cd_parting : Value}
    {od_Planner___init an_Planner___init : Option Addr} {sl_Planner___init : Array (Option Value)} {oc_Planner___init kV_Planner___init dc_Planner___init pm_Planner___init ct_Planner___init cd_Planner___init : Value}
    {od_Planner_best an_Planner_best : Option Addr} {sl_Planner_best : Array (Option Value)} {oc_Planner_best kV_Planner_best dc_Planner_best pm_Planner_best ct_Planner_best cd_Planner_best : Value}
    {od_plan_of an_plan_of : Option Addr} {sl_plan_of : Array (Option Value)} {oc_plan_of kV_plan_of dc_plan_of pm_plan_of ct_plan_of cd_plan_of : Value}
    {od_law_alike an_law_alike : Option Addr} {sl_law_alike : Array (Option Value)} {oc_law_alike kV_law_alike dc_law_alike pm_law_alike ct_law_alike cd_law_alike : Value}
    {od_law_goes an_law_goes : Option Addr} {sl_law_goes : Array (Option Value)} {oc_law_goes kV_law_goes dc_law_goes pm_law_goes ct_law_goes cd_law_goes : Value}
    {od_law an_law : Option Addr} {sl_law : Array (Option Value)} {oc_law kV_law dc_law pm_law ct_law : Value}
    {od_Planner_tried an_Planner_tried : Option Addr} {sl_Planner_tried : Array (Option Value)} {oc_Planner_tried kV_Planner_tried dc_Planner_tried pm_Planner_tried ct_Planner_tried cd_Planner_tried : Value}
    {od_law_word an_law_word : Option Addr} {sl_law_word : Array (Option Value)} {oc_law_word kV_law_word dc_law_word pm_law_word ct_law_word cd_law_word : Value}
    {nn_ANSWERS : Nat} {sl_ANSWERS : Array (Option Value)}
    {od0_ANSWERS : Option Addr} {nn0_ANSWERS : Nat} {sl0_ANSWERS : Array (Option Value)}
    {od1_ANSWERS : Option Addr} {nn1_ANSWERS : Nat} {sl1_ANSWERS : Array (Option Value)}
    {od2_ANSWERS : Option Addr} {nn2_ANSWERS : Nat} {sl2_ANSWERS : Array (Option Value)}
    {od3_ANSWERS : Option Addr} {nn3_ANSWERS : Nat} {sl3_ANSWERS : Array (Option Value)} {j_HUNG j_LOOK j_MOST_NAMES_plans j_MOST_NAMES_rosters j_MOST_WIDTH : Tok}
    (n_Planner : PySem.W.nsIn K mainGlobals "Planner" = some (some (.ref c_Planner)))
    (a_law_taken : PySem.W.nsIn K mainGlobals "_law_taken" = some (some (.ref f_law_taken)))
    (l_law_taken : K.lookup f_law_taken = some ⟨oc_law_taken, od_law_taken, .func (PySem.W.fnOf "_law_taken" "_law_taken" (defArgs s_law_taken) (defBody s_law_taken) (defScope s_law_taken) .none kV_law_taken dc_law_taken pm_law_taken an_law_taken cd_law_taken ct_law_taken), sl_law_taken⟩)
    (d_law_taken : PySem.W.codeIn K cd_law_taken "_law_taken" = true)
    (k_law_taken : PySem.W.keepIn K (.ref f_law_taken) = true)
    (a_law_width : PySem.W.nsIn K mainGlobals "_law_width" = some (some (.ref f_law_width)))
    (l_law_width : K.lookup f_law_width = some ⟨oc_law_width, od_law_width, .func (PySem.W.fnOf "_law_width" "_law_width" (defArgs s_law_width) (defBody s_law_width) (defScope s_law_width) .none kV_law_width dc_law_width pm_law_width an_law_width cd_law_width ct_law_width), sl_law_width⟩)
    (d_law_width : PySem.W.codeIn K cd_law_width "_law_width" = true)
    (k_law_width : PySem.W.keepIn K (.ref f_law_width) = true)
    (a_law_number : PySem.W.nsIn K mainGlobals "_law_number" = some (some (.ref f_law_number)))
    (l_law_number : K.lookup f_law_number = some ⟨oc_law_number, od_law_number, .func (PySem.W.fnOf "_law_number" "_law_number" (defArgs s_law_number) (defBody s_law_number) (defScope s_law_number) .none kV_law_number dc_law_number pm_law_number an_law_number cd_law_number ct_law_number), sl_law_number⟩)
    (d_law_number : PySem.W.codeIn K cd_law_number "_law_number" = true)
    (k_law_number : PySem.W.keepIn K (.ref f_law_number) = true)
    (a_law_near : PySem.W.nsIn K mainGlobals "_law_near" = some (some (.ref f_law_near)))
    (l_law_near : K.lookup f_law_near = some ⟨oc_law_near, od_law_near, .func (PySem.W.fnOf "_law_near" "_law_near" (defArgs s_law_near) (defBody s_law_near) (defScope s_law_near) .none kV_law_near dc_law_near pm_law_near an_law_near cd_law_near ct_law_near), sl_law_near⟩)
    (d_law_near : PySem.W.codeIn K cd_law_near "_law_near" = true)
    (k_law_near : PySem.W.keepIn K (.ref f_law_near) = true)
    (a_law_things : PySem.W.nsIn K mainGlobals "_law_things" = some (some (.ref f_law_things)))
    (l_law_things : K.lookup f_law_things = some ⟨oc_law_things, od_law_things, .func (PySem.W.fnOf "_law_things" "_law_things" (defArgs s_law_things) (defBody s_law_things) (defScope s_law_things) .none kV_law_things dc_law_things pm_law_things an_law_things cd_law_things ct_law_things), sl_law_things⟩)
    (d_law_things : PySem.W.codeIn K cd_law_things "_law_things" = true)
    (k_law_things : PySem.W.keepIn K (.ref f_law_things) = true)
    (a_law_roster : PySem.W.nsIn K mainGlobals "_law_roster" = some (some (.ref f_law_roster)))
    (l_law_roster : K.lookup f_law_roster = some ⟨oc_law_roster, od_law_roster, .func (PySem.W.fnOf "_law_roster" "_law_roster" (defArgs s_law_roster) (defBody s_law_roster) (defScope s_law_roster) .none kV_law_roster dc_law_roster pm_law_roster an_law_roster cd_law_roster ct_law_roster), sl_law_roster⟩)
    (d_law_roster : PySem.W.codeIn K cd_law_roster "_law_roster" = true)
    (k_law_roster : PySem.W.keepIn K (.ref f_law_roster) = true)
    (a_law_sets : PySem.W.nsIn K mainGlobals "_law_sets" = some (some (.ref f_law_sets)))
    (l_law_sets : K.lookup f_law_sets = some ⟨oc_law_sets, od_law_sets, .func (PySem.W.fnOf "_law_sets" "_law_sets" (defArgs s_law_sets) (defBody s_law_sets) (defScope s_law_sets) .none kV_law_sets dc_law_sets pm_law_sets an_law_sets cd_law_sets ct_law_sets), sl_law_sets⟩)
    (d_law_sets : PySem.W.codeIn K cd_law_sets "_law_sets" = true)
    (k_law_sets : PySem.W.keepIn K (.ref f_law_sets) = true)
    (a_law_met : PySem.W.nsIn K mainGlobals "_law_met" = some (some (.ref f_law_met)))
    (l_law_met : K.lookup f_law_met = some ⟨oc_law_met, od_law_met, .func (PySem.W.fnOf "_law_met" "_law_met" (defArgs s_law_met) (defBody s_law_met) (defScope s_law_met) .none kV_law_met dc_law_met pm_law_met an_law_met cd_law_met ct_law_met), sl_law_met⟩)
    (d_law_met : PySem.W.codeIn K cd_law_met "_law_met" = true)
    (k_law_met : PySem.W.keepIn K (.ref f_law_met) = true)
    (a_law_looked : PySem.W.nsIn K mainGlobals "_law_looked" = some (some (.ref f_law_looked)))
    (l_law_looked : K.lookup f_law_looked = some ⟨oc_law_looked, od_law_looked, .func (PySem.W.fnOf "_law_looked" "_law_looked" (defArgs s_law_looked) (defBody s_law_looked) (defScope s_law_looked) .none kV_law_looked dc_law_looked pm_law_looked an_law_looked cd_law_looked ct_law_looked), sl_law_looked⟩)
    (d_law_looked : PySem.W.codeIn K cd_law_looked "_law_looked" = true)
    (k_law_looked : PySem.W.keepIn K (.ref f_law_looked) = true)
    (a_law_worst : PySem.W.nsIn K mainGlobals "_law_worst" = some (some (.ref f_law_worst)))
    (l_law_worst : K.lookup f_law_worst = some ⟨oc_law_worst, od_law_worst, .func (PySem.W.fnOf "_law_worst" "_law_worst" (defArgs s_law_worst) (defBody s_law_worst) (defScope s_law_worst) .none kV_law_worst dc_law_worst pm_law_worst an_law_worst cd_law_worst ct_law_worst), sl_law_worst⟩)
    (d_law_worst : PySem.W.codeIn K cd_law_worst "_law_worst" = true)
    (k_law_worst : PySem.W.keepIn K (.ref f_law_worst) = true)
    (a_law_every : PySem.W.nsIn K mainGlobals "_law_every" = some (some (.ref f_law_every)))
    (l_law_every : K.lookup f_law_every = some ⟨oc_law_every, od_law_every, .func (PySem.W.fnOf "_law_every" "_law_every" (defArgs s_law_every) (defBody s_law_every) (defScope s_law_every) .none kV_law_every dc_law_every pm_law_every an_law_every cd_law_every ct_law_every), sl_law_every⟩)
    (d_law_every : PySem.W.codeIn K cd_law_every "_law_every" = true)
    (k_law_every : PySem.W.keepIn K (.ref f_law_every) = true)
    (a_need_width : PySem.W.nsIn K mainGlobals "need_width" = some (some (.ref f_need_width)))
    (l_need_width : K.lookup f_need_width = some ⟨oc_need_width, od_need_width, .func (PySem.W.fnOf "need_width" "need_width" (defArgs s_need_width) (defBody s_need_width) (defScope s_need_width) .none kV_need_width dc_need_width pm_need_width an_need_width cd_need_width ct_need_width), sl_need_width⟩)
    (d_need_width : PySem.W.codeIn K cd_need_width "need_width" = true)
    (k_need_width : PySem.W.keepIn K (.ref f_need_width) = true)
    (a_are_bits : PySem.W.nsIn K mainGlobals "are_bits" = some (some (.ref f_are_bits)))
    (l_are_bits : K.lookup f_are_bits = some ⟨oc_are_bits, od_are_bits, .func (PySem.W.fnOf "are_bits" "are_bits" (defArgs s_are_bits) (defBody s_are_bits) (defScope s_are_bits) .none kV_are_bits dc_are_bits pm_are_bits an_are_bits cd_are_bits ct_are_bits), sl_are_bits⟩)
    (d_are_bits : PySem.W.codeIn K cd_are_bits "are_bits" = true)
    (k_are_bits : PySem.W.keepIn K (.ref f_are_bits) = true)
    (a_is_number : PySem.W.nsIn K mainGlobals "is_number" = some (some (.ref f_is_number)))
    (l_is_number : K.lookup f_is_number = some ⟨oc_is_number, od_is_number, .func (PySem.W.fnOf "is_number" "is_number" (defArgs s_is_number) (defBody s_is_number) (defScope s_is_number) .none kV_is_number dc_is_number pm_is_number an_is_number cd_is_number ct_is_number), sl_is_number⟩)
    (d_is_number : PySem.W.codeIn K cd_is_number "is_number" = true)
    (k_is_number : PySem.W.keepIn K (.ref f_is_number) = true)
    (a_are_rising : PySem.W.nsIn K mainGlobals "are_rising" = some (some (.ref f_are_rising)))
    (l_are_rising : K.lookup f_are_rising = some ⟨oc_are_rising, od_are_rising, .func (PySem.W.fnOf "are_rising" "are_rising" (defArgs s_are_rising) (defBody s_are_rising) (defScope s_are_rising) .none kV_are_rising dc_are_rising pm_are_rising an_are_rising cd_are_rising ct_are_rising), sl_are_rising⟩)
    (d_are_rising : PySem.W.codeIn K cd_are_rising "are_rising" = true)
    (k_are_rising : PySem.W.keepIn K (.ref f_are_rising) = true)
    (a_need_roster : PySem.W.nsIn K mainGlobals "need_roster" = some (some (.ref f_need_roster)))
    (l_need_roster : K.lookup f_need_roster = some ⟨oc_need_roster, od_need_roster, .func (PySem.W.fnOf "need_roster" "need_roster" (defArgs s_need_roster) (defBody s_need_roster) (defScope s_need_roster) .none kV_need_roster dc_need_roster pm_need_roster an_need_roster cd_need_roster ct_need_roster), sl_need_roster⟩)
    (d_need_roster : PySem.W.codeIn K cd_need_roster "need_roster" = true)
    (k_need_roster : PySem.W.keepIn K (.ref f_need_roster) = true)
    (a_all_sets : PySem.W.nsIn K mainGlobals "all_sets" = some (some (.ref f_all_sets)))
    (l_all_sets : K.lookup f_all_sets = some ⟨oc_all_sets, od_all_sets, .func (PySem.W.fnOf "all_sets" "all_sets" (defArgs s_all_sets) (defBody s_all_sets) (defScope s_all_sets) .none kV_all_sets dc_all_sets pm_all_sets an_all_sets cd_all_sets ct_all_sets), sl_all_sets⟩)
    (d_all_sets : PySem.W.codeIn K cd_all_sets "all_sets" = true)
    (k_all_sets : PySem.W.keepIn K (.ref f_all_sets) = true)
    (a_beginnings_of : PySem.W.nsIn K mainGlobals "beginnings_of" = some (some (.ref f_beginnings_of)))
    (l_beginnings_of : K.lookup f_beginnings_of = some ⟨oc_beginnings_of, od_beginnings_of, .func (PySem.W.fnOf "beginnings_of" "beginnings_of" (defArgs s_beginnings_of) (defBody s_beginnings_of) (defScope s_beginnings_of) .none kV_beginnings_of dc_beginnings_of pm_beginnings_of an_beginnings_of cd_beginnings_of ct_beginnings_of), sl_beginnings_of⟩)
    (d_beginnings_of : PySem.W.codeIn K cd_beginnings_of "beginnings_of" = true)
    (k_beginnings_of : PySem.W.keepIn K (.ref f_beginnings_of) = true)
    (a_look_at : PySem.W.nsIn K mainGlobals "look_at" = some (some (.ref f_look_at)))
    (l_look_at : K.lookup f_look_at = some ⟨oc_look_at, od_look_at, .func (PySem.W.fnOf "look_at" "look_at" (defArgs s_look_at) (defBody s_look_at) (defScope s_look_at) .none kV_look_at dc_look_at pm_look_at an_look_at cd_look_at ct_look_at), sl_look_at⟩)
    (d_look_at : PySem.W.codeIn K cd_look_at "look_at" = true)
    (k_look_at : PySem.W.keepIn K (.ref f_look_at) = true)
    (a_parting : PySem.W.nsIn K mainGlobals "parting" = some (some (.ref f_parting)))
    (l_parting : K.lookup f_parting = some ⟨oc_parting, od_parting, .func (PySem.W.fnOf "parting" "parting" (defArgs s_parting) (defBody s_parting) (defScope s_parting) .none kV_parting dc_parting pm_parting an_parting cd_parting ct_parting), sl_parting⟩)
    (d_parting : PySem.W.codeIn K cd_parting "parting" = true)
    (k_parting : PySem.W.keepIn K (.ref f_parting) = true)
    (a_Planner___init : PySem.W.findIn K (.ref c_Planner) "__init__" = some (some (.ref f_Planner___init)))
    (i_Planner___init : PySem.W.isFn K (.ref f_Planner___init) = true)
    (l_Planner___init : K.lookup f_Planner___init = some ⟨oc_Planner___init, od_Planner___init, .func (PySem.W.fnOf "__init__" "Planner.__init__" (defArgs s_Planner_init) (defBody s_Planner_init) (defScope s_Planner_init) .none kV_Planner___init dc_Planner___init pm_Planner___init an_Planner___init cd_Planner___init ct_Planner___init), sl_Planner___init⟩)
    (d_Planner___init : PySem.W.codeIn K cd_Planner___init "Planner.__init__" = true)
    (k_Planner___init : PySem.W.keepIn K (.ref f_Planner___init) = true)
    (a_Planner_best : PySem.W.findIn K (.ref c_Planner) "best" = some (some (.ref f_Planner_best)))
    (i_Planner_best : PySem.W.isFn K (.ref f_Planner_best) = true)
    (l_Planner_best : K.lookup f_Planner_best = some ⟨oc_Planner_best, od_Planner_best, .func (PySem.W.fnOf "best" "Planner.best" (defArgs s_Planner_best) (defBody s_Planner_best) (defScope s_Planner_best) .none kV_Planner_best dc_Planner_best pm_Planner_best an_Planner_best cd_Planner_best ct_Planner_best), sl_Planner_best⟩)
    (d_Planner_best : PySem.W.codeIn K cd_Planner_best "Planner.best" = true)
    (k_Planner_best : PySem.W.keepIn K (.ref f_Planner_best) = true)
    (a_plan_of : PySem.W.nsIn K mainGlobals "plan_of" = some (some (.ref f_plan_of)))
    (l_plan_of : K.lookup f_plan_of = some ⟨oc_plan_of, od_plan_of, .func (PySem.W.fnOf "plan_of" "plan_of" (defArgs s_plan_of) (defBody s_plan_of) (defScope s_plan_of) .none kV_plan_of dc_plan_of pm_plan_of an_plan_of cd_plan_of ct_plan_of), sl_plan_of⟩)
    (d_plan_of : PySem.W.codeIn K cd_plan_of "plan_of" = true)
    (k_plan_of : PySem.W.keepIn K (.ref f_plan_of) = true)
    (a_law_alike : PySem.W.nsIn K mainGlobals "_law_alike" = some (some (.ref f_law_alike)))
    (l_law_alike : K.lookup f_law_alike = some ⟨oc_law_alike, od_law_alike, .func (PySem.W.fnOf "_law_alike" "_law_alike" (defArgs s_law_alike) (defBody s_law_alike) (defScope s_law_alike) .none kV_law_alike dc_law_alike pm_law_alike an_law_alike cd_law_alike ct_law_alike), sl_law_alike⟩)
    (d_law_alike : PySem.W.codeIn K cd_law_alike "_law_alike" = true)
    (k_law_alike : PySem.W.keepIn K (.ref f_law_alike) = true)
    (a_law_goes : PySem.W.nsIn K mainGlobals "_law_goes" = some (some (.ref f_law_goes)))
    (l_law_goes : K.lookup f_law_goes = some ⟨oc_law_goes, od_law_goes, .func (PySem.W.fnOf "_law_goes" "_law_goes" (defArgs s_law_goes) (defBody s_law_goes) (defScope s_law_goes) .none kV_law_goes dc_law_goes pm_law_goes an_law_goes cd_law_goes ct_law_goes), sl_law_goes⟩)
    (d_law_goes : PySem.W.codeIn K cd_law_goes "_law_goes" = true)
    (k_law_goes : PySem.W.keepIn K (.ref f_law_goes) = true)
    (a_law : PySem.W.nsIn K mainGlobals "law" = some (some (.ref f_law)))
    (l_law : K.lookup f_law = some ⟨oc_law, od_law, .func (PySem.W.fnOf "law" "law" (defArgs s_law) (defBody s_law) (defScope s_law) .none kV_law dc_law pm_law an_law (.ref cd_law) ct_law), sl_law⟩)
    (d_law : PySem.W.codeIn K (.ref cd_law) "law" = true)
    (k_law : PySem.W.keepIn K (.ref f_law) = true)
    (t_law : PySem.W.codeHdIn K cd_law P_law = true)
    (u_law : K.lookup P_law = none)
    (v_law : P_law ∈ ts)
    (a_Planner_tried : PySem.W.findIn K (.ref c_Planner) "tried" = some (some (.ref f_Planner_tried)))
    (i_Planner_tried : PySem.W.isFn K (.ref f_Planner_tried) = true)
    (l_Planner_tried : K.lookup f_Planner_tried = some ⟨oc_Planner_tried, od_Planner_tried, .func (PySem.W.fnOf "tried" "Planner.tried" (defArgs s_Planner_tried) (defBody s_Planner_tried) (defScope s_Planner_tried) .none kV_Planner_tried dc_Planner_tried pm_Planner_tried an_Planner_tried cd_Planner_tried ct_Planner_tried), sl_Planner_tried⟩)
    (d_Planner_tried : PySem.W.codeIn K cd_Planner_tried "Planner.tried" = true)
    (k_Planner_tried : PySem.W.keepIn K (.ref f_Planner_tried) = true)
    (a_law_word : PySem.W.nsIn K mainGlobals "_law_word" = some (some (.ref f_law_word)))
    (l_law_word : K.lookup f_law_word = some ⟨oc_law_word, od_law_word, .func (PySem.W.fnOf "_law_word" "_law_word" (defArgs s_law_word) (defBody s_law_word) (defScope s_law_word) .none kV_law_word dc_law_word pm_law_word an_law_word cd_law_word ct_law_word), sl_law_word⟩)
    (d_law_word : PySem.W.codeIn K cd_law_word "_law_word" = true)
    (k_law_word : PySem.W.keepIn K (.ref f_law_word) = true)
    (pg_Planner : PySem.W.plainGet K c_Planner Str.empty = true)
    (hd_Planner : PySem.W.hasDictIn K c_Planner = true)
    (po_Planner : PySem.W.plainOver K c_Planner = true)
    (sa_Planner : PySem.W.findIn K (.ref c_Planner) "__setattr__" = some (some (.builtin "object.__setattr__")))
    (mk_Planner : PySem.W.makesIn K c_Planner = true)
    (kc_Planner : PySem.W.keepIn K (.ref c_Planner) = true)
    (na_Planner_sets : PySem.W.findIn K (.ref c_Planner) "sets" = some none)
    (na_Planner_rows : PySem.W.findIn K (.ref c_Planner) "rows" = some none)
    (na_Planner_known : PySem.W.findIn K (.ref c_Planner) "known" = some none)
    (n_BusError : PySem.W.nsIn K mainGlobals "BusError" = some (some (.ref e_BusError)))
    (n_BadWidth : PySem.W.nsIn K mainGlobals "BadWidth" = some (some (.ref e_BadWidth)))
    (n_BadNumber : PySem.W.nsIn K mainGlobals "BadNumber" = some (some (.ref e_BadNumber)))
    (n_BadKind : PySem.W.nsIn K mainGlobals "BadKind" = some (some (.ref e_BadKind)))
    (n_BadBit : PySem.W.nsIn K mainGlobals "BadBit" = some (some (.ref e_BadBit)))
    (n_There : PySem.W.nsIn K mainGlobals "There" = some (some (.ref e_There)))
    (n_NotThere : PySem.W.nsIn K mainGlobals "NotThere" = some (some (.ref e_NotThere)))
    (n_NoRound : PySem.W.nsIn K mainGlobals "NoRound" = some (some (.ref e_NoRound)))
    (n_Over : PySem.W.nsIn K mainGlobals "Over" = some (some (.ref e_Over)))
    (n_Busy : PySem.W.nsIn K mainGlobals "Busy" = some (some (.ref e_Busy)))
    (n_BadLooks : PySem.W.nsIn K mainGlobals "BadLooks" = some (some (.ref e_BadLooks)))
    (n_BadRoster : PySem.W.nsIn K mainGlobals "BadRoster" = some (some (.ref e_BadRoster)))
    (n_TooMany : PySem.W.nsIn K mainGlobals "TooMany" = some (some (.ref e_TooMany)))
    (n_BadPlan : PySem.W.nsIn K mainGlobals "BadPlan" = some (some (.ref e_BadPlan)))
    (n_BadStep : PySem.W.nsIn K mainGlobals "BadStep" = some (some (.ref e_BadStep)))
    (n_BadText : PySem.W.nsIn K mainGlobals "BadText" = some (some (.ref e_BadText)))
    (q_BadRoster : PySem.W.excIn K e_BadRoster [.type "ValueError", .type "Exception", .type "BaseException", .type "object"] "ValueError.__new__" = true)
    (kx_BadRoster : PySem.W.keepIn K (.ref e_BadRoster) = true)
    (bx_BadRoster : PySem.W.subIn K (.ref e_BadRoster) (.type "BaseException") = some true)
    (tx_BadRoster : PySem.W.typeIn K (.ref e_BadRoster) = some (.type "type"))
    (q_BadWidth : PySem.W.excIn K e_BadWidth [.type "ValueError", .type "Exception", .type "BaseException", .type "object"] "ValueError.__new__" = true)
    (kx_BadWidth : PySem.W.keepIn K (.ref e_BadWidth) = true)
    (bx_BadWidth : PySem.W.subIn K (.ref e_BadWidth) (.type "BaseException") = some true)
    (tx_BadWidth : PySem.W.typeIn K (.ref e_BadWidth) = some (.type "type"))
    (q_TooMany : PySem.W.excIn K e_TooMany [.type "ValueError", .type "Exception", .type "BaseException", .type "object"] "ValueError.__new__" = true)
    (kx_TooMany : PySem.W.keepIn K (.ref e_TooMany) = true)
    (bx_TooMany : PySem.W.subIn K (.ref e_TooMany) (.type "BaseException") = some true)
    (tx_TooMany : PySem.W.typeIn K (.ref e_TooMany) = some (.type "type"))
    (kk : ([e_BadWidth, e_BadNumber, e_BadKind, e_BadBit, e_There, e_NotThere, e_NoRound, e_Over, e_Busy, e_BadLooks, e_BadRoster, e_TooMany, e_BadPlan, e_BadStep, e_BadText].map fun c => [e_BadWidth, e_BadNumber, e_BadKind, e_BadBit, e_There, e_NotThere, e_NoRound, e_Over, e_Busy, e_BadLooks, e_BadRoster, e_TooMany, e_BadPlan, e_BadStep, e_BadText].map fun d => PySem.W.kitOne K (.ref c) (.ref d)) = (List.range 15).map fun i => (List.range 15).map fun j => some (decide (i = j)))
    (kv : ([e_BadWidth, e_BadNumber, e_BadKind, e_BadBit, e_There, e_NotThere, e_NoRound, e_Over, e_Busy, e_BadLooks, e_BadRoster, e_TooMany, e_BadPlan, e_BadStep, e_BadText].map fun c => PySem.W.kitOne K (.ref c) (.type "ValueError")) = List.replicate 15 (some true))
    (kg : ([e_BadWidth, e_BadNumber, e_BadKind, e_BadBit, e_There, e_NotThere, e_NoRound, e_Over, e_Busy, e_BadLooks, e_BadRoster, e_TooMany, e_BadPlan, e_BadStep, e_BadText].map fun c => PySem.W.findIn K (.ref c) "__getattribute__") = List.replicate 15 (some (some (.builtin "BaseException.__getattribute__"))))
    (ka : ([e_BadWidth, e_BadNumber, e_BadKind, e_BadBit, e_There, e_NotThere, e_NoRound, e_Over, e_Busy, e_BadLooks, e_BadRoster, e_TooMany, e_BadPlan, e_BadStep, e_BadText].map fun c => PySem.W.findIn K (.ref c) "__getattr__") = List.replicate 15 (some none))
    (ks : ([e_BadWidth, e_BadNumber, e_BadKind, e_BadBit, e_There, e_NotThere, e_NoRound, e_Over, e_Busy, e_BadLooks, e_BadRoster, e_TooMany, e_BadPlan, e_BadStep, e_BadText].map fun c => PySem.W.subIn K (.ref c) (.type "BaseException")) = List.replicate 15 (some true))
    (kh : ([e_BadWidth, e_BadNumber, e_BadKind, e_BadBit, e_There, e_NotThere, e_NoRound, e_Over, e_Busy, e_BadLooks, e_BadRoster, e_TooMany, e_BadPlan, e_BadStep, e_BadText].map fun c => PySem.W.hasDictIn K c) = List.replicate 15 (true))
    (kl : ([e_BadWidth, e_BadNumber, e_BadKind, e_BadBit, e_There, e_NotThere, e_NoRound, e_Over, e_Busy, e_BadLooks, e_BadRoster, e_TooMany, e_BadPlan, e_BadStep, e_BadText].map fun c => PySem.W.findIn K (.ref c) "__class__") = List.replicate 15 (some (some (.builtin "object.__class__"))))
    (km : ([e_BadWidth, e_BadNumber, e_BadKind, e_BadBit, e_There, e_NotThere, e_NoRound, e_Over, e_Busy, e_BadLooks, e_BadRoster, e_TooMany, e_BadPlan, e_BadStep, e_BadText].map fun c => PySem.W.mroIn K c (.type "object")) = List.replicate 15 (some true))
    (kb : ([e_BadWidth, e_BadNumber, e_BadKind, e_BadBit, e_There, e_NotThere, e_NoRound, e_Over, e_Busy, e_BadLooks, e_BadRoster, e_TooMany, e_BadPlan, e_BadStep, e_BadText].map fun c => PySem.W.exmOne K (.ref c) (.ref e_BusError)) = List.replicate 15 (some true))
    (kn : PySem.W.specialIn K (.builtin "object.__class__") "__get__" = some (some (.builtin "getset_descriptor.__get__")))
    (kt : PySem.W.takesIn K (.builtin "object.__class__") = some true)
    (n_ANSWERS : PySem.W.nsIn K mainGlobals "ANSWERS" = some (some (.ref a_ANSWERS)))
    (l_ANSWERS : K.lookup a_ANSWERS = some ⟨.type "tuple", none, .seq #[.ref b0_ANSWERS, .ref b1_ANSWERS, .ref b2_ANSWERS, .ref b3_ANSWERS] nn_ANSWERS, sl_ANSWERS⟩)
    (l0_ANSWERS : K.lookup b0_ANSWERS = some ⟨.type "tuple", od0_ANSWERS, .seq #[.bool false, .bool false] nn0_ANSWERS, sl0_ANSWERS⟩)
    (l1_ANSWERS : K.lookup b1_ANSWERS = some ⟨.type "tuple", od1_ANSWERS, .seq #[.bool false, .bool true] nn1_ANSWERS, sl1_ANSWERS⟩)
    (l2_ANSWERS : K.lookup b2_ANSWERS = some ⟨.type "tuple", od2_ANSWERS, .seq #[.bool true, .bool false] nn2_ANSWERS, sl2_ANSWERS⟩)
    (l3_ANSWERS : K.lookup b3_ANSWERS = some ⟨.type "tuple", od3_ANSWERS, .seq #[.bool true, .bool true] nn3_ANSWERS, sl3_ANSWERS⟩)
    (n_HUNG : PySem.W.nsIn K mainGlobals "HUNG" = some (some (.str "hung" j_HUNG)))
    (n_LOOK : PySem.W.nsIn K mainGlobals "LOOK" = some (some (.str "look" j_LOOK)))
    (n_MOST_NAMES_plans : PySem.W.nsIn K mainGlobals "MOST_NAMES_plans" = some (some (.int 4 j_MOST_NAMES_plans)))
    (n_MOST_NAMES_rosters : PySem.W.nsIn K mainGlobals "MOST_NAMES_rosters" = some (some (.int 8 j_MOST_NAMES_rosters)))
    (n_MOST_WIDTH : PySem.W.nsIn K mainGlobals "MOST_WIDTH" = some (some (.int 12 j_MOST_WIDTH)))
    (z_len : PySem.W.nsIn K mainGlobals "len" = some none)
    (z_range : PySem.W.nsIn K mainGlobals "range" = some none)
    (z_int : PySem.W.nsIn K mainGlobals "int" = some none)
    (z_bool : PySem.W.nsIn K mainGlobals "bool" = some none)
    (z_str : PySem.W.nsIn K mainGlobals "str" = some none)
    (z_tuple : PySem.W.nsIn K mainGlobals "tuple" = some none)
    (z_list : PySem.W.nsIn K mainGlobals "list" = some none)
    (z_set : PySem.W.nsIn K mainGlobals "set" = some none)
    (z_sorted : PySem.W.nsIn K mainGlobals "sorted" = some none)
    (z_max : PySem.W.nsIn K mainGlobals "max" = some none)
    (z_min : PySem.W.nsIn K mainGlobals "min" = some none)
    (z_sum : PySem.W.nsIn K mainGlobals "sum" = some none)
    (z_isinstance : PySem.W.nsIn K mainGlobals "isinstance" = some none)
    (z_enumerate : PySem.W.nsIn K mainGlobals "enumerate" = some none)
    (z_ValueError : PySem.W.nsIn K mainGlobals "ValueError" = some none) :
    LamX.LawAtS l w K (L2.CX l.prog w) 40 63 "_law_script" mg fa h := by
  have e := hfa.symm.trans (PySem.W.mg_of X G a_law)
  cases e
  have T : TxB mg := ⟨mg_none X G z_len, mg_none X G z_range, mg_none X G z_int, mg_none X G z_bool, mg_none X G z_str, mg_none X G z_tuple, mg_none X G z_list, mg_none X G z_set, mg_none X G z_sorted, mg_none X G z_max, mg_none X G z_min, mg_none X G z_sum, mg_none X G z_isinstance, mg_none X G z_enumerate, mg_none X G z_ValueError⟩
  have TPl : ClPl K c_Planner := ⟨⟨pg_Planner, hd_Planner, po_Planner, sa_Planner⟩, na_Planner_sets, na_Planner_rows, na_Planner_known⟩
  have X_BadRoster : Lw.ExcC K mg "BadRoster" e_BadRoster := ⟨q_BadRoster, PySem.W.mg_of X G n_BadRoster, kx_BadRoster, bx_BadRoster, tx_BadRoster⟩
  have X_BadWidth : Lw.ExcC K mg "BadWidth" e_BadWidth := ⟨q_BadWidth, PySem.W.mg_of X G n_BadWidth, kx_BadWidth, bx_BadWidth, tx_BadWidth⟩
  have X_TooMany : Lw.ExcC K mg "TooMany" e_TooMany := ⟨q_TooMany, PySem.W.mg_of X G n_TooMany, kx_TooMany, bx_TooMany, tx_TooMany⟩
  let g : Kinds K mg := ⟨e_BusError, e_BadWidth, e_BadNumber, e_BadKind, e_BadBit, e_There, e_NotThere, e_NoRound, e_Over, e_Busy, e_BadLooks, e_BadRoster, e_TooMany, e_BadPlan, e_BadStep, e_BadText, PySem.W.mg_of X G n_BusError, PySem.W.mg_of X G n_BadWidth, PySem.W.mg_of X G n_BadNumber, PySem.W.mg_of X G n_BadKind, PySem.W.mg_of X G n_BadBit, PySem.W.mg_of X G n_There, PySem.W.mg_of X G n_NotThere, PySem.W.mg_of X G n_NoRound, PySem.W.mg_of X G n_Over, PySem.W.mg_of X G n_Busy, PySem.W.mg_of X G n_BadLooks, PySem.W.mg_of X G n_BadRoster, PySem.W.mg_of X G n_TooMany, PySem.W.mg_of X G n_BadPlan, PySem.W.mg_of X G n_BadStep, PySem.W.mg_of X G n_BadText, kinds_kk kk, kinds_kv kv kg ka ks kh kl km kb kn kt⟩
  have k_ANSWERS := PySem.W.mg_of X G n_ANSWERS
  have o_ANSWERS : ∃ o : Obj, K.lookup a_ANSWERS = some o ∧ o.cls = .type "tuple" ∧ o.dict = none := ⟨_, l_ANSWERS, rfl, rfl⟩
  have t_ANSWERS : AnsK K a_ANSWERS := ⟨[b0_ANSWERS, b1_ANSWERS, b2_ANSWERS, b3_ANSWERS], fun H => .inr ⟨_, _, _, l_ANSWERS, rfl, rfl, show (4 : Nat) ≤ sizeLine by decide, .cons rfl (.cons rfl (.cons rfl (.cons rfl (.nil))))⟩, fun H => .cons (.inr ⟨_, _, _, l0_ANSWERS, rfl, rfl, show (2 : Nat) ≤ sizeLine by decide, .cons rfl (.cons rfl .nil)⟩) (.cons (.inr ⟨_, _, _, l1_ANSWERS, rfl, rfl, show (2 : Nat) ≤ sizeLine by decide, .cons rfl (.cons rfl .nil)⟩) (.cons (.inr ⟨_, _, _, l2_ANSWERS, rfl, rfl, show (2 : Nat) ≤ sizeLine by decide, .cons rfl (.cons rfl .nil)⟩) (.cons (.inr ⟨_, _, _, l3_ANSWERS, rfl, rfl, show (2 : Nat) ≤ sizeLine by decide, .cons rfl (.cons rfl .nil)⟩) (.nil))))⟩
  have k_HUNG := PySem.W.mg_of X G n_HUNG
  have k_LOOK := PySem.W.mg_of X G n_LOOK
  have k_MOST_NAMES_plans := PySem.W.mg_of X G n_MOST_NAMES_plans
  have k_MOST_NAMES_rosters := PySem.W.mg_of X G n_MOST_NAMES_rosters
  have k_MOST_WIDTH := PySem.W.mg_of X G n_MOST_WIDTH
  have F_law_taken := fun_mk (st := s_law_taken) l_law_taken d_law_taken k_law_taken
  have b_law_taken := F_law_taken.binds (ps := ["_law_row", "_law_many"]) fun _ _ _ _ _ _ us hl => match us, hl with | [_, _], _ => rfl
  have m_law_taken := PySem.W.mg_of X G a_law_taken
  have F_law_width := fun_mk (st := s_law_width) l_law_width d_law_width k_law_width
  have b_law_width := F_law_width.binds (ps := ["_law_row"]) fun _ _ _ _ _ _ us hl => match us, hl with | [_], _ => rfl
  have m_law_width := PySem.W.mg_of X G a_law_width
  have F_law_number := fun_mk (st := s_law_number) l_law_number d_law_number k_law_number
  have b_law_number := F_law_number.binds (ps := ["_law_row", "_law_width_here"]) fun _ _ _ _ _ _ us hl => match us, hl with | [_, _], _ => rfl
  have m_law_number := PySem.W.mg_of X G a_law_number
  have F_law_near := fun_mk (st := s_law_near) l_law_near d_law_near k_law_near
  have b_law_near := F_law_near.binds (ps := ["_law_row", "_law_width_here", "_law_some"]) fun _ _ _ _ _ _ us hl => match us, hl with | [_, _, _], _ => rfl
  have m_law_near := PySem.W.mg_of X G a_law_near
  have F_law_things := fun_mk (st := s_law_things) l_law_things d_law_things k_law_things
  have b_law_things := F_law_things.binds (ps := ["_law_row", "_law_width_here", "_law_most"]) fun _ _ _ _ _ _ us hl => match us, hl with | [_, _, _], _ => rfl
  have m_law_things := PySem.W.mg_of X G a_law_things
  have F_law_roster := fun_mk (st := s_law_roster) l_law_roster d_law_roster k_law_roster
  have b_law_roster := F_law_roster.binds (ps := ["_law_row", "_law_width_here", "_law_most"]) fun _ _ _ _ _ _ us hl => match us, hl with | [_, _, _], _ => rfl
  have m_law_roster := PySem.W.mg_of X G a_law_roster
  have F_law_sets := fun_mk (st := s_law_sets) l_law_sets d_law_sets k_law_sets
  have b_law_sets := F_law_sets.binds (ps := ["_law_numbers"]) fun _ _ _ _ _ _ us hl => match us, hl with | [_], _ => rfl
  have m_law_sets := PySem.W.mg_of X G a_law_sets
  have F_law_met := fun_mk (st := s_law_met) l_law_met d_law_met k_law_met
  have b_law_met := F_law_met.binds (ps := ["_law_width_here", "_law_numbers"]) fun _ _ _ _ _ _ us hl => match us, hl with | [_, _], _ => rfl
  have m_law_met := PySem.W.mg_of X G a_law_met
  have F_law_looked := fun_mk (st := s_law_looked) l_law_looked d_law_looked k_law_looked
  have b_law_looked := F_law_looked.binds (ps := ["_law_numbers", "_law_beginning"]) fun _ _ _ _ _ _ us hl => match us, hl with | [_, _], _ => rfl
  have m_law_looked := PySem.W.mg_of X G a_law_looked
  have F_law_worst := fun_mk (st := s_law_worst) l_law_worst d_law_worst k_law_worst
  have b_law_worst := F_law_worst.binds (ps := ["_law_told", "_law_some", "_law_known"]) fun _ _ _ _ _ _ us hl => match us, hl with | [_, _, _], _ => rfl
  have m_law_worst := PySem.W.mg_of X G a_law_worst
  have F_law_every := fun_mk (st := s_law_every) l_law_every d_law_every k_law_every
  have b_law_every := F_law_every.binds (ps := ["_law_width_here"]) fun _ _ _ _ _ _ us hl => match us, hl with | [_], _ => rfl
  have m_law_every := PySem.W.mg_of X G a_law_every
  have F_need_width := fun_mk (st := s_need_width) l_need_width d_need_width k_need_width
  have b_need_width := F_need_width.binds (ps := ["width"]) fun _ _ _ _ _ _ us hl => match us, hl with | [_], _ => rfl
  have m_need_width := PySem.W.mg_of X G a_need_width
  have F_are_bits := fun_mk (st := s_are_bits) l_are_bits d_are_bits k_are_bits
  have b_are_bits := F_are_bits.binds (ps := ["part"]) fun _ _ _ _ _ _ us hl => match us, hl with | [_], _ => rfl
  have m_are_bits := PySem.W.mg_of X G a_are_bits
  have F_is_number := fun_mk (st := s_is_number) l_is_number d_is_number k_is_number
  have b_is_number := F_is_number.binds (ps := ["width", "part"]) fun _ _ _ _ _ _ us hl => match us, hl with | [_, _], _ => rfl
  have m_is_number := PySem.W.mg_of X G a_is_number
  have F_are_rising := fun_mk (st := s_are_rising) l_are_rising d_are_rising k_are_rising
  have b_are_rising := F_are_rising.binds (ps := ["width", "numbers"]) fun _ _ _ _ _ _ us hl => match us, hl with | [_, _], _ => rfl
  have m_are_rising := PySem.W.mg_of X G a_are_rising
  have F_need_roster := fun_mk (st := s_need_roster) l_need_roster d_need_roster k_need_roster
  have b_need_roster := F_need_roster.binds (ps := ["width", "roster"]) fun _ _ _ _ _ _ us hl => match us, hl with | [_, _], _ => rfl
  have m_need_roster := PySem.W.mg_of X G a_need_roster
  have F_all_sets := fun_mk (st := s_all_sets) l_all_sets d_all_sets k_all_sets
  have b_all_sets := F_all_sets.binds (ps := ["roster"]) fun _ _ _ _ _ _ us hl => match us, hl with | [_], _ => rfl
  have m_all_sets := PySem.W.mg_of X G a_all_sets
  have F_beginnings_of := fun_mk (st := s_beginnings_of) l_beginnings_of d_beginnings_of k_beginnings_of
  have b_beginnings_of := F_beginnings_of.binds (ps := ["width", "numbers"]) fun _ _ _ _ _ _ us hl => match us, hl with | [_, _], _ => rfl
  have m_beginnings_of := PySem.W.mg_of X G a_beginnings_of
  have F_look_at := fun_mk (st := s_look_at) l_look_at d_look_at k_look_at
  have b_look_at := F_look_at.binds (ps := ["numbers", "beginning"]) fun _ _ _ _ _ _ us hl => match us, hl with | [_, _], _ => rfl
  have m_look_at := PySem.W.mg_of X G a_look_at
  have F_parting := fun_mk (st := s_parting) l_parting d_parting k_parting
  have b_parting := F_parting.binds (ps := ["width", "roster", "sets"]) fun _ _ _ _ _ _ us hl => match us, hl with | [_, _, _], _ => rfl
  have m_parting := PySem.W.mg_of X G a_parting
  have F_Planner___init := fun_mk (st := s_Planner_init) l_Planner___init d_Planner___init k_Planner___init
  have b_Planner___init := F_Planner___init.binds (ps := ["self", "width", "roster"]) fun _ _ _ _ _ _ us hl => match us, hl with | [_, _, _], _ => rfl
  have F_Planner_best := fun_mk (st := s_Planner_best) l_Planner_best d_Planner_best k_Planner_best
  have b_Planner_best := F_Planner_best.binds (ps := ["self", "some"]) fun _ _ _ _ _ _ us hl => match us, hl with | [_, _], _ => rfl
  have F_plan_of := fun_mk (st := s_plan_of) l_plan_of d_plan_of k_plan_of
  have b_plan_of := F_plan_of.binds (ps := ["width", "roster"]) fun _ _ _ _ _ _ us hl => match us, hl with | [_, _], _ => rfl
  have m_plan_of := PySem.W.mg_of X G a_plan_of
  have F_law_alike := fun_mk (st := s_law_alike) l_law_alike d_law_alike k_law_alike
  have b_law_alike := F_law_alike.binds (ps := ["_law_found", "_law_due"]) fun _ _ _ _ _ _ us hl => match us, hl with | [_, _], _ => rfl
  have m_law_alike := PySem.W.mg_of X G a_law_alike
  have F_law_goes := fun_mk (st := s_law_goes) l_law_goes d_law_goes k_law_goes
  have b_law_goes := F_law_goes.binds (ps := ["_law_plan", "_law_sets_here"]) fun _ _ _ _ _ _ us hl => match us, hl with | [_, _], _ => rfl
  have m_law_goes := PySem.W.mg_of X G a_law_goes
  have F_law : FunC K "law" "law" s_law _ _ cd_law := ⟨⟨oc_law, od_law, kV_law, dc_law, pm_law, an_law, ct_law, sl_law, rfl, l_law, d_law⟩, k_law⟩
  have F_Planner_tried := fun_mk (st := s_Planner_tried) l_Planner_tried d_Planner_tried k_Planner_tried
  have b_Planner_tried := F_Planner_tried.binds (ps := ["self", "beginning", "parts"]) fun _ _ _ _ _ _ us hl => match us, hl with | [_, _, _], _ => rfl
  have F_law_word := fun_mk (st := s_law_word) l_law_word d_law_word k_law_word
  have b_law_word := F_law_word.binds (ps := ["_law_work"]) fun _ _ _ _ _ _ us hl => match us, hl with | [_], _ => rfl
  have m_law_word := PySem.W.mg_of X G a_law_word
  refine ⟨PySem.W.fnOf "law" "law" (defArgs s_law) (defBody s_law) (defScope s_law) .none kV_law dc_law pm_law an_law (.ref cd_law) ct_law, [(cd_law, P_law)], sp_law12 K [(P_law, ("law.<locals>.<lambda>" : Str))], ?_, ?_, ?_, fun s v => .of_eq rfl, ?_, ?_⟩
  · intro p hp
    simp only [List.mem_cons, List.not_mem_nil, or_false] at hp
    rcases hp with rfl
    all_goals exact hts _ (by assumption)
  · intro p hp
    simp only [List.mem_cons, List.not_mem_nil, or_false] at hp
    rcases hp with rfl
    all_goals assumption
  · intro p hp
    simp only [List.mem_cons, List.not_mem_nil, or_false] at hp
    rcases hp with rfl
    all_goals exact PySem.W.codeHd_of_K X (by assumption)
  · intro H a ns _ _ hT hS
    refine ⟨a, ns, rfl, hS, fun p hp => ?_, fun _ => rfl⟩
    simp only [List.mem_cons, List.not_mem_nil, or_false] at hp
    rcases hp with rfl
    · exact LamX.TabS.nil (hT (cd_law, P_law) (by simp))
  intro base hKb hNs TBs
  have C_law_taken : Cal l.prog w K mg base 1 "_law_taken" ["_law_row", "_law_many"] _ := ⟨f_law_taken, _, ok_taken (P := l.prog) (w := w) (base := base) (F := F_law_taken) (T := T), m_law_taken, k_law_taken, b_law_taken⟩
  have C_law_width : Cal l.prog w K mg base 2 "_law_width" ["_law_row"] _ := ⟨f_law_width, _, ok_width (P := l.prog) (w := w) (base := base) (F := F_law_width) (T := T) (C_law_taken := C_law_taken), m_law_width, k_law_width, b_law_width⟩
  have C_law_number : Cal l.prog w K mg base 2 "_law_number" ["_law_row", "_law_width_here"] _ := ⟨f_law_number, _, ok_number (P := l.prog) (w := w) (base := base) (F := F_law_number) (T := T) (C_law_taken := C_law_taken), m_law_number, k_law_number, b_law_number⟩
  have C_law_near : Cal l.prog w K mg base 3 "_law_near" ["_law_row", "_law_width_here", "_law_some"] _ := ⟨f_law_near, _, ok_near (P := l.prog) (w := w) (base := base) (F := F_law_near) (T := T) (C_law_taken := C_law_taken) (C_law_number := C_law_number), m_law_near, k_law_near, b_law_near⟩
  have C_law_things : Cal l.prog w K mg base 4 "_law_things" ["_law_row", "_law_width_here", "_law_most"] _ := ⟨f_law_things, _, ok_things (P := l.prog) (w := w) (base := base) (F := F_law_things) (T := T) (C_law_taken := C_law_taken) (C_law_number := C_law_number) (C_law_near := C_law_near), m_law_things, k_law_things, b_law_things⟩
  have C_law_roster : Cal l.prog w K mg base 5 "_law_roster" ["_law_row", "_law_width_here", "_law_most"] _ := ⟨f_law_roster, _, ok_roster (P := l.prog) (w := w) (base := base) (F := F_law_roster) (T := T) (C_law_number := C_law_number) (C_law_things := C_law_things), m_law_roster, k_law_roster, b_law_roster⟩
  have C_law_sets : Cal l.prog w K mg base 1 "_law_sets" ["_law_numbers"] _ := ⟨f_law_sets, _, ok_sets (P := l.prog) (w := w) (base := base) (F := F_law_sets) (T := T), m_law_sets, k_law_sets, b_law_sets⟩
  have C_law_met : Cal l.prog w K mg base 1 "_law_met" ["_law_width_here", "_law_numbers"] _ := ⟨f_law_met, _, ok_met (P := l.prog) (w := w) (base := base) (F := F_law_met) (T := T), m_law_met, k_law_met, b_law_met⟩
  have C_law_looked : Cal l.prog w K mg base 1 "_law_looked" ["_law_numbers", "_law_beginning"] _ := ⟨f_law_looked, _, ok_looked (P := l.prog) (w := w) (base := base) (F := F_law_looked) (T := T), m_law_looked, k_law_looked, b_law_looked⟩
  have C_law_worst : Cal l.prog w K mg base 17 "_law_worst" ["_law_told", "_law_some", "_law_known"] _ := ⟨f_law_worst, _, ok_lworst (P := l.prog) (w := w) (base := base) (F := F_law_worst) (T := T) (hM := m_law_worst) (hb := b_law_worst) 16, m_law_worst, k_law_worst, b_law_worst⟩
  have C_law_every : Cal l.prog w K mg base 1 "_law_every" ["_law_width_here"] _ := ⟨f_law_every, _, ok_every (P := l.prog) (w := w) (base := base) (F := F_law_every) (T := T), m_law_every, k_law_every, b_law_every⟩
  have C_need_width : Cal l.prog w K mg base 1 "need_width" ["width"] _ := ⟨f_need_width, _, ok_need_width (P := l.prog) (w := w) (base := base) (F := F_need_width) (T := T) (k_MOST_WIDTH := k_MOST_WIDTH) (X_BadWidth := X_BadWidth), m_need_width, k_need_width, b_need_width⟩
  have C_are_bits : Cal l.prog w K mg base 1 "are_bits" ["part"] _ := ⟨f_are_bits, _, ok_are_bits (P := l.prog) (w := w) (base := base) (F := F_are_bits) (T := T), m_are_bits, k_are_bits, b_are_bits⟩
  have C_is_number : Cal l.prog w K mg base 2 "is_number" ["width", "part"] _ := ⟨f_is_number, _, ok_is_number (P := l.prog) (w := w) (base := base) (F := F_is_number) (T := T) (C_are_bits := C_are_bits), m_is_number, k_is_number, b_is_number⟩
  have C_are_rising : Cal l.prog w K mg base 3 "are_rising" ["width", "numbers"] _ := ⟨f_are_rising, _, ok_are_rising (P := l.prog) (w := w) (base := base) (F := F_are_rising) (T := T) (C_is_number := C_is_number), m_are_rising, k_are_rising, b_are_rising⟩
  have C_need_roster : Cal l.prog w K mg base 4 "need_roster" ["width", "roster"] _ := ⟨f_need_roster, _, ok_need_roster (P := l.prog) (w := w) (base := base) (F := F_need_roster) (T := T) (k_MOST_NAMES_rosters := k_MOST_NAMES_rosters) (C_need_width := C_need_width) (C_are_rising := C_are_rising) (X_BadRoster := X_BadRoster), m_need_roster, k_need_roster, b_need_roster⟩
  have C_all_sets : Cal l.prog w K mg base 1 "all_sets" ["roster"] _ := ⟨f_all_sets, _, ok_all_sets (P := l.prog) (w := w) (base := base) (F := F_all_sets) (T := T), m_all_sets, k_all_sets, b_all_sets⟩
  have C_beginnings_of : Cal l.prog w K mg base 1 "beginnings_of" ["width", "numbers"] _ := ⟨f_beginnings_of, _, ok_begof (P := l.prog) (w := w) (base := base) (F := F_beginnings_of) (T := T), m_beginnings_of, k_beginnings_of, b_beginnings_of⟩
  have C_look_at : Cal l.prog w K mg base 1 "look_at" ["numbers", "beginning"] _ := ⟨f_look_at, _, ok_look_at (P := l.prog) (w := w) (base := base) (F := F_look_at) (T := T), m_look_at, k_look_at, b_look_at⟩
  have C_parting : Cal l.prog w K mg base 2 "parting" ["width", "roster", "sets"] _ := ⟨f_parting, _, ok_parting (P := l.prog) (w := w) (base := base) (F := F_parting) (T := T) (C_beginnings_of := C_beginnings_of) (C_look_at := C_look_at), m_parting, k_parting, b_parting⟩
  have C_Planner : CalC l.prog w K mg base 3 c_Planner "Planner" ["self", "width", "roster"] _ := ⟨f_Planner___init, _, ok_plinit (P := l.prog) (w := w) (base := base) (F := F_Planner___init) (T := T) (TPl := TPl) (C_all_sets := C_all_sets) (C_parting := C_parting), ⟨mk_Planner, a_Planner___init, i_Planner___init, kc_Planner⟩, PySem.W.mg_of X G n_Planner, b_Planner___init⟩
  have C_Planner_best : CalM l.prog w K mg base 34 c_Planner "best" ["self", "some"] _ := ⟨f_Planner_best, _, ok_best (P := l.prog) (w := w) (base := base) (F := F_Planner_best) (Ft := F_Planner_tried) (T := T) (TPl := TPl) (k_LOOK := k_LOOK) (k_HUNG := k_HUNG) (k_ANSWERS := k_ANSWERS) (t_ANSWERS := t_ANSWERS) (hM := ⟨a_Planner_best, i_Planner_best, k_Planner_best⟩) (hb := b_Planner_best) (hMt := ⟨a_Planner_tried, i_Planner_tried, k_Planner_tried⟩) (hbt := b_Planner_tried) 16, ⟨a_Planner_best, i_Planner_best, k_Planner_best⟩, b_Planner_best⟩
  have C_plan_of : Cal l.prog w K mg base 35 "plan_of" ["width", "roster"] _ := ⟨f_plan_of, _, ok_plan_of (P := l.prog) (w := w) (base := base) (F := F_plan_of) (T := T) (TPl := TPl) (k_MOST_NAMES_plans := k_MOST_NAMES_plans) (C_need_roster := C_need_roster) (C_Planner := C_Planner) (C_Planner_best := C_Planner_best) (X_TooMany := X_TooMany), m_plan_of, k_plan_of, b_plan_of⟩
  have C_law_alike : Cal l.prog w K mg base 7 "_law_alike" ["_law_found", "_law_due"] _ := ⟨f_law_alike, _, ok_alikeG (P := l.prog) (w := w) (base := base) (F := F_law_alike) (T := T) (hm := m_law_alike) (hb := b_law_alike) 7, m_law_alike, k_law_alike, b_law_alike⟩
  have C_law_goes : Cal l.prog w K mg base 8 "_law_goes" ["_law_plan", "_law_sets_here"] _ := ⟨f_law_goes, _, ok_lgoes (P := l.prog) (w := w) (base := base) (F := F_law_goes) (T := T) (C_law_looked := C_law_looked) (C_law_alike := C_law_alike), m_law_goes, k_law_goes, b_law_goes⟩
  exact ok_law12 (P := l.prog) (w := w) (base := base) (TT := [(P_law, ("law.<locals>.<lambda>" : Str))]) (g := g) (F := F_law) (T := T) (Fw := F_law_word) (bw := b_law_word) (m_word := m_law_word) (TB := (TBs (cd_law, P_law) (by simp))) (hmT := (by simp)) (hu := (tabs_hu)) (C_law_taken := C_law_taken) (C_law_width := C_law_width) (C_law_roster := C_law_roster) (C_law_sets := C_law_sets) (C_law_met := C_law_met) (C_law_looked := C_law_looked) (C_law_worst := C_law_worst) (C_law_every := C_law_every) (C_plan_of := C_plan_of) (C_law_goes := C_law_goes) (C_law_alike := C_law_alike)
end My
end

section
set_option pp.maxSteps 700
open PySem PySem.W PyProof.Rows
set_option maxRecDepth 100000 in
set_option maxHeartbeats 0 in
theorem PySem.Challenge.cw_busfind_k12_plans_with_the_least_looks_holds : PySem.Challenge.rw_busfind_k12_plans_with_the_least_looks.Holds := by
  w_on; o_law; k_head; (case hw => w_witness2)
  k_fill
  refine LamX.walk_ofTs (l := PySem.Challenge.rw_busfind_k12_plans_with_the_least_looks) (n := 63) (k := 40) (x := "_law_script") (CX := fun w => L2.CX PySem.Challenge.rw_busfind_k12_plans_with_the_least_looks.prog w) rfl (by decide) rfl ⟨rfl, by decide, by decide⟩ (fun w h Y => PySem.W.km_in_of Y) ?F (fun w H s e s' h => by obtain ⟨_, _, _, _, _, _, _, _, _, _, _, _, z⟩ := h; exact z)
  case F =>
    intro w mg fa h Y KX G hmg
    refine' My.all_mk KX G (PySem.W.km_tabs_of Y) hmg ?n_Planner ?a_law_taken ?l_law_taken ?d_law_taken ?k_law_taken ?a_law_width ?l_law_width ?d_law_width ?k_law_width ?a_law_number ?l_law_number ?d_law_number ?k_law_number ?a_law_near ?l_law_near ?d_law_near ?k_law_near ?a_law_things ?l_law_things ?d_law_things ?k_law_things ?a_law_roster ?l_law_roster ?d_law_roster ?k_law_roster ?a_law_sets ?l_law_sets ?d_law_sets ?k_law_sets ?a_law_met ?l_law_met ?d_law_met ?k_law_met ?a_law_looked ?l_law_looked ?d_law_looked ?k_law_looked ?a_law_worst ?l_law_worst ?d_law_worst ?k_law_worst ?a_law_every ?l_law_every ?d_law_every ?k_law_every ?a_need_width ?l_need_width ?d_need_width ?k_need_width ?a_are_bits ?l_are_bits ?d_are_bits ?k_are_bits ?a_is_number ?l_is_number ?d_is_number ?k_is_number ?a_are_rising ?l_are_rising ?d_are_rising ?k_are_rising ?a_need_roster ?l_need_roster ?d_need_roster ?k_need_roster ?a_all_sets ?l_all_sets ?d_all_sets ?k_all_sets ?a_beginnings_of ?l_beginnings_of ?d_beginnings_of ?k_beginnings_of ?a_look_at ?l_look_at ?d_look_at ?k_look_at ?a_parting ?l_parting ?d_parting ?k_parting ?a_Planner___init ?i_Planner___init ?l_Planner___init ?d_Planner___init ?k_Planner___init ?a_Planner_best ?i_Planner_best ?l_Planner_best ?d_Planner_best ?k_Planner_best ?a_plan_of ?l_plan_of ?d_plan_of ?k_plan_of ?a_law_alike ?l_law_alike ?d_law_alike ?k_law_alike ?a_law_goes ?l_law_goes ?d_law_goes ?k_law_goes ?a_law ?l_law ?d_law ?k_law ?t_law ?u_law ?v_law ?a_Planner_tried ?i_Planner_tried ?l_Planner_tried ?d_Planner_tried ?k_Planner_tried ?a_law_word ?l_law_word ?d_law_word ?k_law_word ?pg_Planner ?hd_Planner ?po_Planner ?sa_Planner ?mk_Planner ?kc_Planner ?na_Planner_sets ?na_Planner_rows ?na_Planner_known ?n_BusError ?n_BadWidth ?n_BadNumber ?n_BadKind ?n_BadBit ?n_There ?n_NotThere ?n_NoRound ?n_Over ?n_Busy ?n_BadLooks ?n_BadRoster ?n_TooMany ?n_BadPlan ?n_BadStep ?n_BadText ?q_BadRoster ?kx_BadRoster ?bx_BadRoster ?tx_BadRoster ?q_BadWidth ?kx_BadWidth ?bx_BadWidth ?tx_BadWidth ?q_TooMany ?kx_TooMany ?bx_TooMany ?tx_TooMany ?kk ?kv ?kg ?ka ?ks ?kh ?kl ?km ?kb ?kn ?kt ?n_ANSWERS ?l_ANSWERS ?l0_ANSWERS ?l1_ANSWERS ?l2_ANSWERS ?l3_ANSWERS ?n_HUNG ?n_LOOK ?n_MOST_NAMES_plans ?n_MOST_NAMES_rosters ?n_MOST_WIDTH ?z_len ?z_range ?z_int ?z_bool ?z_str ?z_tuple ?z_list ?z_set ?z_sorted ?z_max ?z_min ?z_sum ?z_isinstance ?z_enumerate ?z_ValueError
    (case v_law => exact List.mem_cons_self)
    (case n_Planner => k_is)
    (case n_BusError => k_is)
    (case n_BadWidth => k_is)
    (case n_BadNumber => k_is)
    (case n_BadKind => k_is)
    (case n_BadBit => k_is)
    (case n_There => k_is)
    (case n_NotThere => k_is)
    (case n_NoRound => k_is)
    (case n_Over => k_is)
    (case n_Busy => k_is)
    (case n_BadLooks => k_is)
    (case n_BadRoster => k_is)
    (case n_TooMany => k_is)
    (case n_BadPlan => k_is)
    (case n_BadStep => k_is)
    (case n_BadText => k_is)
    (case n_ANSWERS => k_is)
    (case n_HUNG => k_is)
    (case n_LOOK => k_is)
    (case n_MOST_NAMES_plans => k_is)
    (case n_MOST_NAMES_rosters => k_is)
    (case n_MOST_WIDTH => k_is)
    (case a_law_taken => k_is)
    (case l_law_taken => k_is)
    (case d_law_taken => k_is)
    (case k_law_taken => k_is)
    (case a_law_width => k_is)
    (case l_law_width => k_is)
    (case d_law_width => k_is)
    (case k_law_width => k_is)
    (case a_law_number => k_is)
    (case l_law_number => k_is)
    (case d_law_number => k_is)
    (case k_law_number => k_is)
    (case a_law_near => k_is)
    (case l_law_near => k_is)
    (case d_law_near => k_is)
    (case k_law_near => k_is)
    (case a_law_things => k_is)
    (case l_law_things => k_is)
    (case d_law_things => k_is)
    (case k_law_things => k_is)
    (case a_law_roster => k_is)
    (case l_law_roster => k_is)
    (case d_law_roster => k_is)
    (case k_law_roster => k_is)
    (case a_law_sets => k_is)
    (case l_law_sets => k_is)
    (case d_law_sets => k_is)
    (case k_law_sets => k_is)
    (case a_law_met => k_is)
    (case l_law_met => k_is)
    (case d_law_met => k_is)
    (case k_law_met => k_is)
    (case a_law_looked => k_is)
    (case l_law_looked => k_is)
    (case d_law_looked => k_is)
    (case k_law_looked => k_is)
    (case a_law_worst => k_is)
    (case l_law_worst => k_is)
    (case d_law_worst => k_is)
    (case k_law_worst => k_is)
    (case a_law_every => k_is)
    (case l_law_every => k_is)
    (case d_law_every => k_is)
    (case k_law_every => k_is)
    (case a_need_width => k_is)
    (case l_need_width => k_is)
    (case d_need_width => k_is)
    (case k_need_width => k_is)
    (case a_are_bits => k_is)
    (case l_are_bits => k_is)
    (case d_are_bits => k_is)
    (case k_are_bits => k_is)
    (case a_is_number => k_is)
    (case l_is_number => k_is)
    (case d_is_number => k_is)
    (case k_is_number => k_is)
    (case a_are_rising => k_is)
    (case l_are_rising => k_is)
    (case d_are_rising => k_is)
    (case k_are_rising => k_is)
    (case a_need_roster => k_is)
    (case l_need_roster => k_is)
    (case d_need_roster => k_is)
    (case k_need_roster => k_is)
    (case a_all_sets => k_is)
    (case l_all_sets => k_is)
    (case d_all_sets => k_is)
    (case k_all_sets => k_is)
    (case a_beginnings_of => k_is)
    (case l_beginnings_of => k_is)
    (case d_beginnings_of => k_is)
    (case k_beginnings_of => k_is)
    (case a_look_at => k_is)
    (case l_look_at => k_is)
    (case d_look_at => k_is)
    (case k_look_at => k_is)
    (case a_parting => k_is)
    (case l_parting => k_is)
    (case d_parting => k_is)
    (case k_parting => k_is)
    (case a_Planner___init => k_is)
    (case i_Planner___init => k_is)
    (case l_Planner___init => k_is)
    (case d_Planner___init => k_is)
    (case k_Planner___init => k_is)
    (case a_Planner_best => k_is)
    (case i_Planner_best => k_is)
    (case l_Planner_best => k_is)
    (case d_Planner_best => k_is)
    (case k_Planner_best => k_is)
    (case a_plan_of => k_is)
    (case l_plan_of => k_is)
    (case d_plan_of => k_is)
    (case k_plan_of => k_is)
    (case a_law_alike => k_is)
    (case l_law_alike => k_is)
    (case d_law_alike => k_is)
    (case k_law_alike => k_is)
    (case a_law_goes => k_is)
    (case l_law_goes => k_is)
    (case d_law_goes => k_is)
    (case k_law_goes => k_is)
    (case a_law => k_is)
    (case l_law => k_is)
    (case d_law => k_is)
    (case k_law => k_is)
    (case t_law => first | k_is | kernel_rfl)
    (case u_law => first | k_is | kernel_rfl)
    (case a_Planner_tried => k_is)
    (case i_Planner_tried => k_is)
    (case l_Planner_tried => k_is)
    (case d_Planner_tried => k_is)
    (case k_Planner_tried => k_is)
    (case a_law_word => k_is)
    (case l_law_word => k_is)
    (case d_law_word => k_is)
    (case k_law_word => k_is)
    (case pg_Planner => k_is)
    (case hd_Planner => k_is)
    (case po_Planner => k_is)
    (case sa_Planner => k_is)
    (case mk_Planner => k_is)
    (case kc_Planner => k_is)
    (case na_Planner_sets => k_is)
    (case na_Planner_rows => k_is)
    (case na_Planner_known => k_is)
    (case q_BadRoster => first | k_is | kernel_rfl)
    (case kx_BadRoster => k_is)
    (case bx_BadRoster => k_is)
    (case tx_BadRoster => k_is)
    (case q_BadWidth => first | k_is | kernel_rfl)
    (case kx_BadWidth => k_is)
    (case bx_BadWidth => k_is)
    (case tx_BadWidth => k_is)
    (case q_TooMany => first | k_is | kernel_rfl)
    (case kx_TooMany => k_is)
    (case bx_TooMany => k_is)
    (case tx_TooMany => k_is)
    (case kk => first | k_is | kernel_rfl)
    (case kv => first | k_is | kernel_rfl)
    (case kg => first | k_is | kernel_rfl)
    (case ka => first | k_is | kernel_rfl)
    (case ks => first | k_is | kernel_rfl)
    (case kh => first | k_is | kernel_rfl)
    (case kl => first | k_is | kernel_rfl)
    (case km => first | k_is | kernel_rfl)
    (case kb => first | k_is | kernel_rfl)
    (case kn => first | k_is | kernel_rfl)
    (case kt => first | k_is | kernel_rfl)
    (case l_ANSWERS => k_is)
    (case l0_ANSWERS => k_is)
    (case l1_ANSWERS => k_is)
    (case l2_ANSWERS => k_is)
    (case l3_ANSWERS => k_is)
    (case z_len => k_is)
    (case z_range => k_is)
    (case z_int => k_is)
    (case z_bool => k_is)
    (case z_str => k_is)
    (case z_tuple => k_is)
    (case z_list => k_is)
    (case z_set => k_is)
    (case z_sorted => k_is)
    (case z_max => k_is)
    (case z_min => k_is)
    (case z_sum => k_is)
    (case z_isinstance => k_is)
    (case z_enumerate => k_is)
    (case z_ValueError => k_is)
end

