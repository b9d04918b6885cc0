import PyProof.Rows.All
import Wide.All
import OpenK.AllK
import Wide.FinOn
import KE.KStateDown
import HandS.ForMost
import HandS.ForExc
import HandS.Walk
import HandS.Wide
import HandS.WideMore
import HandS.WideBits
import HandS.Defaults
import HandS.CallSlots
import HandS.Flow
import HandS.More
import HandS.Small
import HandS.IsInst
import HandS.ExcIs
import HandS.TryMany
import HandS.TryElse
import HandS.DeepEq
import HandS.Deep
import HandS.Sort
import HandS.SortInts
import HandS.SortKw
import HandS.ListItems
import HandS.DictTup
import HandS.Head0
import HandS.Head1
import HandS.Head2
import HandS.HeadEnd
import HandS.HeadHook1
import HandS.HeadHook2
import HandS.Steps
import HandS.Style
import PySem.Challenge.RW_mixposts_k15_tables_told_are_ones_own
set_option Elab.async false
set_option linter.all false
set_option maxRecDepth 100000
set_option maxHeartbeats 4000000
namespace Mx
open PySem PySem.Spec PyProof.Rows L2

/-! ### heaps -/
theorem same_new {H : Hp} {p : Addr} {o : HO} (h : H p = none) : Same H (upd H p o) := fun b x e => by
  rw [upd_ne (ne_of_none e h)]
  exact e
theorem same_mut {H H' : Hp} {p : Addr} {o : HO} (e : Same H H') (h : H p = none) : Same H (upd H' p o) := fun b x ha => by
  rw [upd_ne (ne_of_none ha h)]
  exact e b x ha
theorem Same.tup {K : PySem.W.Frag} {H H' : Hp} {a : Addr} {xs : List V} (e : Same H H') (h : SqT K H a xs) : SqT K H' a xs := by
  rcases h with (h | ⟨o, h⟩) | h
  · exact .inl (.inl (e _ _ h))
  · exact .inl (.inr ⟨o, e _ _ h⟩)
  · exact .inr h
theorem Same.at {H H' : Hp} {a : Addr} {o : HO} (e : Same H H') (h : H a = some o) : H' a = some o := e a o h
theorem upd_at {H : Hp} {a p : Addr} {o u : HO} (n : H p = none) (h : H a = some o) : upd H p u a = some o := by
  rw [upd_ne (ne_of_none h n)]
  exact h
theorem upd_atN {H : Hp} {a p : Addr} {o u : HO} (n : a ≠ p) (h : H a = some o) : upd H p u a = some o := by
  rw [upd_ne n]
  exact h
theorem sqL_new {K : PySem.W.Frag} {H : Hp} {a : Addr} {xs : List V} : SqL K (upd H a (.lst xs)) a xs := .inl (.inl upd_same)
theorem sqT_new {K : PySem.W.Frag} {H : Hp} {a : Addr} {xs : List V} : SqT K (upd H a (.tup xs)) a xs := .inl (.inl upd_same)
theorem sqL_upd {K : PySem.W.Frag} {H : Hp} {a p : Addr} {u : HO} {xs : List V} (n : H p = none) (h : SqL K H a xs) : SqL K (upd H p u) a xs := (same_new n).seq h
theorem sqT_upd {K : PySem.W.Frag} {H : Hp} {a p : Addr} {u : HO} {xs : List V} (n : H p = none) (h : SqT K H a xs) : SqT K (upd H p u) a xs := Same.tup (same_new n) h

/-! ### operators, by short names -/
abbrev oAdd : R2 := rI0 fun i j => .int (i + j)
abbrev oSub : R2 := rI0 fun i j => .int (i - j)
abbrev oMul : R2 := rI CMul fun i j => .int (i * j)
abbrev oFdv : R2 := rI CDivW fun i j => .int (i / j)
abbrev oMod : R2 := rI (fun _ j => 0 < j) fun i j => .int (i % j)
abbrev oPow : R2 := rI CPow fun i j => .int (i ^ j.toNat)
abbrev oNeg : V → Hp → VK → Prop := rU fun i => .int (-i)
abbrev oAddS : R2 := fun x y H Q => ∃ i j, x = .str i ∧ y = .str j ∧ i.length + j.length ≤ sizeLine ∧ Q (.str (i ++ j)) H
abbrev oLt : R2 := rI0 fun i j => .bl (decide (i < j))
abbrev oLe : R2 := rI0 fun i j => .bl (decide (i ≤ j))
abbrev oGt : R2 := rI0 fun i j => .bl (decide (j < i))
abbrev oGe : R2 := rI0 fun i j => .bl (decide (j ≤ i))
abbrev oInS : R2 := fun x y H Q => ∃ i j, x = .str i ∧ y = .str j ∧ Q (.bl (!(Builtin.Str.occurrences j i 0 j.length 1).isEmpty)) H
abbrev oNotInS : R2 := fun x y H Q => ∃ i j, x = .str i ∧ y = .str j ∧ Q (.bl (!(!(Builtin.Str.occurrences j i 0 j.length 1).isEmpty))) H
abbrev RV := List V → Hp → VK → Prop
abbrev oLen (K : PySem.W.Frag) : RV := fun xs H Q => ∃ p ys, xs = [.ref p] ∧ (SqL K H p ys ∨ SqT K H p ys) ∧ Q (.int ys.length) H
abbrev oLenD : RV := fun xs H Q => ∃ a kvs, xs = [V.ref a] ∧ H a = some (.dK kvs) ∧ Q (.int kvs.length) H
abbrev oMin2 : RV := fun xs H Q => ∃ i j, xs = [.int i, .int j] ∧ Q (.int (if j < i then j else i)) H
abbrev oMax2 : RV := fun xs H Q => ∃ i j, xs = [.int i, .int j] ∧ Q (.int (if j > i then j else i)) H
abbrev oDivmod : RV := fun xs H Q => ∃ i j, xs = [.int i, .int j] ∧ CDivP i j ∧ ∀ p, H p = none → Q (.ref p) (upd H p (.tup [.int (i / j), .int (i % j)]))
abbrev oList (K : PySem.W.Frag) : RV := fun xs H Q => ∃ p ys, xs = [.ref p] ∧ (SqL K H p ys ∨ SqT K H p ys) ∧ ∀ l, H l = none → Q (.ref l) (upd H l (.lst ys))
abbrev oInt1 : RV := fun xs H Q => (∃ i, xs = [.int i] ∧ Q (.int i) H) ∨ ∃ k, xs = [.bl k] ∧ Q (.int (if k then 1 else 0)) H
/-- o.f of an instance of the class at C -/
def xFld (C : Addr) (ta : TE) (f : Str) : TE := fun σ H Q => ta σ H fun x H1 => ∃ a dx fs v, x = .ref a ∧ H1 a = some (.ins C dx fs) ∧ fs.lookup f = some v ∧ Q v H1
theorem kc_fld {X : Cx} {e : Expr} {f : Str} {pos : Pos} {ta : TE} {C : Addr} (he : PE X e ta) (c : Cls X.K C) (n : NoAttr X.K C f) (hb : attributeBase e f X.env (eval e X.env) = eval e X.env) : PE X (.Attribute e f pos) (xFld C ta f) := by
  refine ⟨fun pins s σ H Q I h => ?_⟩
  refine attr_of hb (thn (he.run pins s σ H _ I h) fun u s1 ⟨x, H1, I1, rx, a, dx, fs, v, ex, ea, l, q⟩ => ?_)
  subst ex
  obtain rfl : u = Value.ref a := rx
  exact getattr_ok I1 ea c n l fun u' s2 I2 ru => ⟨v, H1, I2, ru, q⟩
/-- o.f = value -/
def xsFld (C : Addr) (ta tv : TE) (f : Str) : TS := fun D σ H => tv σ H fun y H1 => ta σ H1 fun x H2 => ∃ a dx fs, x = .ref a ∧ H2 a = some (.ins C dx fs) ∧ fs.length < 1000 ∧
  D.nx σ (upd H2 a (.ins C dx (putF f y fs)))
theorem kc_sfld {X : Cx} {o value : Expr} {f : Str} {pos pos' : Pos} {ta tv : TE} {C : Addr} (ha : PE X o ta) (hv : PE X value tv) (c : Cls X.K C) (n : NoAttr X.K C f) (hs : swapsWith value (some (.Attribute o f pos')) pos.line X.env = pure false) : PS X (.Assign [.Attribute o f pos'] value pos) (xsFld C ta tv f) := by
  refine ⟨fun pins s σ H D I h => ?_⟩
  refine plainObj_wpAny_Assign_Attribute (thn (hv.run pins s σ H _ I h) fun u s1 ⟨y, H1, I1, ry, q⟩ => thn (ha.run pins s1 σ H1 _ I1 q) fun ov s2 ⟨x, H2, I2, rx, a, dx, fs, ex, ea, l, q2⟩ => ?_) hs
  subst ex
  obtain rfl : ov = Value.ref a := rx
  exact setattr_ok I2 ea c n l ry fun s3 I3 => ⟨σ, _, I3, q2⟩
/-! ### isinstance of built-in kinds -/
def kinds : List String := ["int", "bool", "str", "list", "tuple", "dict", "NoneType"]
def subK (a b : String) : Bool := a == b || (a == "bool" && b == "int")
theorem kit_kinds : ∀ a ∈ kinds, ∀ b ∈ kinds, kitB a b = some (subK a b) := by decide +kernel
def kindOf (H : Hp) : V → String → Prop
  | .int _, t => t = "int"
  | .bl _, t => t = "bool"
  | .str _, t => t = "str"
  | .non, t => t = "NoneType"
  | .ref a, t => ((∃ xs, H a = some (.lst xs)) ∧ t = "list") ∨ ((∃ xs, H a = some (.tup xs)) ∧ t = "tuple") ∨ ((∃ xs, H a = some (.dK xs)) ∧ t = "dict")
  | _, _ => False
theorem kindOf.ty {K : PySem.W.Frag} {H : Hp} {x : V} {t : String} (h : kindOf H x t) : t ∈ kinds ∧ TyX K H x (.type t) := by
  cases x with
  | int i => cases (show t = "int" from h); exact ⟨by decide, .base (.int i)⟩
  | bl b => cases (show t = "bool" from h); exact ⟨by decide, .base (.bl b)⟩
  | str z => cases (show t = "str" from h); exact ⟨by decide, .base (.str z)⟩
  | non => cases (show t = "NoneType" from h); exact ⟨by decide, .base .non⟩
  | ref a =>
    rcases (show ((∃ xs, H a = some (.lst xs)) ∧ t = "list") ∨ ((∃ xs, H a = some (.tup xs)) ∧ t = "tuple") ∨ ((∃ xs, H a = some (.dK xs)) ∧ t = "dict") from h) with ⟨⟨xs, e⟩, rfl⟩ | ⟨⟨xs, e⟩, rfl⟩ | ⟨⟨xs, e⟩, rfl⟩
    · exact ⟨by decide, .base (.lst e)⟩
    · exact ⟨by decide, .base (.tup e)⟩
    · exact ⟨by decide, .base (.dK e)⟩
  | _ => exact h.elim
/-- isinstance(x, n), n a built-in class -/
def xIsT : RV := fun xs H Q => ∃ x n t, xs = [x, .ty n] ∧ n ∈ kinds ∧ kindOf H x t ∧ Q (.bl (subK t n)) H
theorem kc_isT {X : Cx} : CallR X (.builtin "isinstance") xIsT := by
  intro pins s σ H xs us Q I r h
  obtain ⟨x, n, t, rfl, hn, ht, q⟩ := h
  obtain ⟨h1, h2⟩ := ht.ty (K := X.K)
  exact call_isi pins s σ H _ us Q I r ⟨x, .ty n, .type t, .type n, subK t n, rfl, .ty n, h2, kit_ty (kit_kinds t h1 n hn), q⟩
/-- isinstance(e, c), e the exception that a suite holds -/
def xIsE (K : PySem.W.Frag) (cls : Value) (d : Option Addr) (a : Addr) : RV := fun xs H Q => ∃ D, cls = .ref D ∧ d = none ∧ ExcC K D ∧ rIsE K D a xs H Q
theorem kc_isE {X : Cx} {a : Addr} {cls : Value} {d : Option Addr} {oe : Obj} {pn : List (Addr × Obj)} (hz : Zc cls d oe) (hf : ∃ vs, oe.data = .fields vs) : CallR (X.suite a ((a, oe) :: pn)) (.builtin "isinstance") (xIsE X.K cls d a) := by
  intro pins s σ H xs us Q I r h
  obtain ⟨D, rfl, rfl, C, h⟩ := h
  exact call_isE C hz hf pins s σ H xs us Q I r h
/-- raise X('..') -/
def xRaise (C : Addr) (E : XK) : TS := fun _ _ H => E (.ref C) none H

/-! ### callable defs -/
/-- the def at f may be called: its promise sp, at most k levels, dvs the defaults that fill up -/
structure Cal (P : Program) (w : World) (K : PySem.W.Frag) (mg : Str → Option Value) (base : Heap) (f : Addr) (ps : List Str) (k : Nat) (dvs : List V) (sp : Sp) : Prop where
  ex : ∃ fd, FnOk P w K mg base (L2.CX P w) k f fd ps sp ∧ ∃ ds, Vals dvs ds ∧ Binds K fd ps ds
  kp : PySem.W.keepIn K (.ref f) = true
theorem Cal.mono {P : Program} {w : World} {K : PySem.W.Frag} {mg : Str → Option Value} {base : Heap} {f : Addr} {ps : List Str} {j k : Nat} {dvs : List V} {sp : Sp} (c : Cal P w K mg base f ps j dvs sp) (h : j ≤ k) : Cal P w K mg base f ps k dvs sp := by
  obtain ⟨⟨fd, F, r⟩, kp⟩ := c
  exact ⟨⟨fd, F.mono h, r⟩, kp⟩
/-- no exception leaves here -/
theorem px0 {X : Cx} (σ : L2.St) : PassesAt (L2.CX X.prog X.w) X σ E0 := fun pins H s e s' I c => passL pins σ H s e s' I c
/-- it reaches the def's own way out -/
theorem pxE {X : Cx} {E : XK} (tk : Takes X (fun cls d _ H => E cls d H)) (σ : L2.St) : PassesAt (L2.CX X.prog X.w) X σ E := passAt (W := fun cls d _ H => E cls d H) tk σ
section
variable {X : Cx} {k : Nat} {f C : Addr} {ps : List Str} {sp : Sp} {dvs : List V} {E : L2.St → XK} {x m : Str} {p pos apos : Pos} {e o : Expr} {es : List Expr} {ta : TE} {t : TA}
theorem kc_call (c : Cal X.prog X.w X.K X.mg X.base f ps k dvs sp) (hr : Room k X.A) (hg : Gl X x) (hm : X.mg x = some (.ref f)) (hx : ∀ σ, PassesAt (L2.CX X.prog X.w) X σ (E σ)) (ha : PA X (e :: es) t)
    (hdb : (x == ("__debug__" : Str)) = false := by decide) (he : starEach (e :: es) X.env = (false, eval e X.env) :: starEach es X.env := by rfl) (hpl : (backTo pos (starEach es X.env)).any (·.1) = false := by rfl) :
    PE X (.Call (.Name x p) (e :: es) [] pos) (tCallSD sp dvs E t) := by
  obtain ⟨⟨fd, F, ds, hd, hb⟩, kp⟩ := c
  exact pe_callSD F hr hg hm kp hb hd hx ha hdb he hpl
theorem kc_call0 (c : Cal X.prog X.w X.K X.mg X.base f ps k dvs sp) (hr : Room k X.A) (hg : Gl X x) (hm : X.mg x = some (.ref f)) (hx : ∀ σ, PassesAt (L2.CX X.prog X.w) X σ (E σ))
    (hdb : (x == ("__debug__" : Str)) = false := by decide) : PE X (.Call (.Name x p) [] [] pos) (tCallSD sp dvs E tNil) := by
  obtain ⟨⟨fd, F, ds, hd, hb⟩, kp⟩ := c
  refine ⟨fun pins s σ H Q I h => ?_⟩
  refine wpAny_Call_Name_kw (ld_glob I hg hm ?_ hdb)
  exact PySem.W.callWith_K0 I.kIn kp (run_fnSD (us := []) F hr hb hd (hx σ) I .nil h)
/-- o.m(..) -/
def xMeth (C : Addr) (m : Str) (sp : Sp) (dvs : List V) (E : L2.St → XK) (ta : TE) (t : TA) : TE := fun σ H Q => ta σ H fun x H1 => ∃ a dx fs, x = .ref a ∧ H1 a = some (.ins C dx fs) ∧ fs.lookup m = none ∧ t σ H1 fun vs H2 => sp (x :: (vs ++ dvs)) H2 Q (E σ)
theorem kc_meth {pl : Sem Bool} (he : PE X o ta) (cl : Cls X.K C) (hm : Meth X.K C m f) (c : Cal X.prog X.w X.K X.mg X.base f ps k dvs sp) (hr : Room k X.A) (hx : ∀ σ, PassesAt (L2.CX X.prog X.w) X σ (E σ)) (ha : PA X (e :: es) t)
    (hst : starEach (e :: es) X.env = (false, eval e X.env) :: starEach es X.env := by rfl) (hpl : (backTo pos (starEach es X.env)).any (·.1) = false := by rfl)
    (ht : eval (.Call (.Attribute o m apos) (e :: es) [] pos) X.env = (do
      let ov ← eval o X.env
      standAt apos.atName
      let (f, first) ← holding [ov] (getMethod ov m pl)
      callWith pos f first (backTo pos (starEach (e :: es) X.env)) (backToKw pos (keywordEach [] X.env))) := by rfl) :
    PE X (.Call (.Attribute o m apos) (e :: es) [] pos) (xMeth C m sp dvs E ta t) := by
  obtain ⟨⟨fd, F, ds, hd, hb⟩, kp⟩ := c
  refine ⟨fun pins s σ H Q I h => ?_⟩
  refine PySem.W.methodCall_KW (pl := pl) (thn (he.run pins s σ H _ I h) fun u s1 ⟨x, H1, I1, rx, a, dx, fs, ex, ea, l, q⟩ => ?_) ht
  subst ex
  obtain rfl : u = Value.ref a := rx
  refine getmeth_ok I1 ea cl hm l ?_
  refine PySem.W.callWith_K (first := [.ref a]) (h₀ := X.base) I.ok.mod.kin hm.kp (thn (ha.run pos pins s1 σ H1 _ I1 q) fun us s2 ⟨vs, H2, I2, r, q2⟩ => ⟨I2.kIn, ?_⟩) hst hpl
  exact run_fnSD (us := .ref a :: us) (vs := .ref a :: vs) F hr hb hd (hx σ) I2 (.cons rfl r) q2
theorem kc_meth0 {pl : Sem Bool} (he : PE X o ta) (cl : Cls X.K C) (hm : Meth X.K C m f) (c : Cal X.prog X.w X.K X.mg X.base f ps k dvs sp) (hr : Room k X.A) (hx : ∀ σ, PassesAt (L2.CX X.prog X.w) X σ (E σ))
    (ht : eval (.Call (.Attribute o m apos) [] [] pos) X.env = (do
      let ov ← eval o X.env
      standAt apos.atName
      let (f, first) ← holding [ov] (getMethod ov m pl)
      callWith pos f first (backTo pos (starEach [] X.env)) (backToKw pos (keywordEach [] X.env))) := by rfl) :
    PE X (.Call (.Attribute o m apos) [] [] pos) (xMeth C m sp dvs E ta tNil) := by
  obtain ⟨⟨fd, F, ds, hd, hb⟩, kp⟩ := c
  refine ⟨fun pins s σ H Q I h => ?_⟩
  refine PySem.W.methodCall_KW (pl := pl) (thn (he.run pins s σ H _ I h) fun u s1 ⟨x, H1, I1, rx, a, dx, fs, ex, ea, l, q⟩ => ?_) ht
  subst ex
  obtain rfl : u = Value.ref a := rx
  refine getmeth_ok I1 ea cl hm l ?_
  exact PySem.W.callWith_K0 (first := [.ref a]) I1.kIn hm.kp (run_fnSD (us := [.ref a]) (vs := [.ref a]) F hr hb hd (hx σ) I1 (.cons rfl .nil) q)
/-- C(..) -/
def xMake (C : Addr) (sp : Sp) (dvs : List V) (E : L2.St → XK) (t : TA) : TE := fun σ H Q => t σ H fun vs H1 => ∀ x dx, H1 x = none → H1 dx = none → dx ≠ x →
  sp (.ref x :: (vs ++ dvs)) (upd (upd H1 dx (.own x)) x (.ins C dx [])) (fun v H2 => v = .non ∧ Q (.ref x) H2) (E σ)
theorem kc_runmake {pins : List (Addr × Obj)} {σ : L2.St} {H : Hp} {s : Shared} {Q : VK} {us : List Value} {vs : List V} {fd : FuncData} {ds : List Value} (M : Mk X.K C f) (F : FnOk X.prog X.w X.K X.mg X.base (L2.CX X.prog X.w) k f fd ps sp) (hr : Room (k + 1) X.A) (hb : Binds X.K fd ps ds) (hd : Vals dvs ds)
    (hx : PassesAt (L2.CX X.prog X.w) X σ (E σ)) (I : Inv X pins σ H s) (r : Vals vs us)
    (h : ∀ x dx, H x = none → H dx = none → dx ≠ x → sp (.ref x :: (vs ++ dvs)) (upd (upd H dx (.own x)) x (.ins C dx [])) (fun v H2 => v = .non ∧ Q (.ref x) H2) (E σ)) :
    wpAny (model X.prog X.w) X.A (call (.ref C) us) (EP X pins σ Q) X.xe s := by
  have hq := h (s.heap.objs.size + 1) s.heap.objs.size (I.hok.fresh (Nat.le_succ _)) (I.hok.fresh (Nat.le_refl _)) (Nat.ne_of_lt (Nat.lt_succ_self _))
  have I2 := Inv.made (C := C) I
  have r2 : Vals (V.ref (s.heap.objs.size + 1) :: (vs ++ dvs)) (Value.ref (s.heap.objs.size + 1) :: (us ++ ds)) := .cons rfl (r.append hd)
  have hl : (Value.ref (s.heap.objs.size + 1) :: us ++ ds).length = ps.length := by
    have e := r2.length
    rw [F.len _ _ _ _ hq] at e
    exact e.symm
  refine wpAny_call (make_map (f := f) I.kIn M.makes M.init (beq_iff_eq.mp M.fn) (codeAny_mono (F.run _ X.stack _ _ ⟨Value.ref (s.heap.objs.size + 1) :: us, []⟩ (Value.ref (s.heap.objs.size + 1) :: (us ++ ds)) _ _ (E σ) (hr.make C us [])
    (I2.env0.make C us []) (hb _ (Value.ref (s.heap.objs.size + 1) :: us) I2.kIn hl) r2 hq) fun r s' hq' => ?_))
  cases r with
  | error e => exact hx pins _ _ e s' I2 hq'
  | ok fl =>
    cases fl with
    | ret u =>
      obtain ⟨v, H', I3, rv, ev, q3⟩ := I2.after hq'
      subst ev
      exact ⟨rv, ⟨V.ref (s.heap.objs.size + 1), H', I3, rfl, q3⟩⟩
    | next => exact False.elim hq'
    | brk => exact False.elim hq'
    | cont => exact False.elim hq'
theorem kc_make (M : Mk X.K C f) (c : Cal X.prog X.w X.K X.mg X.base f ps k dvs sp) (hr : Room (k + 1) X.A) (hg : Gl X x) (hm : X.mg x = some (.ref C)) (hx : ∀ σ, PassesAt (L2.CX X.prog X.w) X σ (E σ)) (ha : PA X (e :: es) t)
    (hdb : (x == ("__debug__" : Str)) = false := by decide) (he : starEach (e :: es) X.env = (false, eval e X.env) :: starEach es X.env := by rfl) (hpl : (backTo pos (starEach es X.env)).any (·.1) = false := by rfl) :
    PE X (.Call (.Name x p) (e :: es) [] pos) (xMake C sp dvs E t) := by
  obtain ⟨⟨fd, F, ds, hd, hb⟩, kp⟩ := c
  refine ⟨fun pins s σ H Q I h => ?_⟩
  refine wpAny_Call_Name_kw (ld_glob I hg hm ?_ hdb)
  refine PySem.W.callWith_K (h₀ := X.base) I.ok.mod.kin M.kp (thn (ha.run pos pins s σ H _ I h) fun us s1 ⟨vs, H1, I1, r, q⟩ => ⟨I1.kIn, ?_⟩) he hpl
  exact kc_runmake M F hr hb hd (hx σ) I1 r q
theorem kc_make0 (M : Mk X.K C f) (c : Cal X.prog X.w X.K X.mg X.base f ps k dvs sp) (hr : Room (k + 1) X.A) (hg : Gl X x) (hm : X.mg x = some (.ref C)) (hx : ∀ σ, PassesAt (L2.CX X.prog X.w) X σ (E σ))
    (hdb : (x == ("__debug__" : Str)) = false := by decide) : PE X (.Call (.Name x p) [] [] pos) (xMake C sp dvs E tNil) := by
  obtain ⟨⟨fd, F, ds, hd, hb⟩, kp⟩ := c
  refine ⟨fun pins s σ H Q I h => ?_⟩
  refine wpAny_Call_Name_kw (ld_glob I hg hm ?_ hdb)
  exact PySem.W.callWith_K0 I.kIn M.kp (kc_runmake (us := []) M F hr hb hd (hx σ) I .nil h)
end

/-! ### tests -/
theorem iteD {p A B : Prop} [Decidable p] (h1 : p → A) (h2 : ¬ p → B) : if decide p = true then A else B := by
  by_cases h : p
  · rw [if_pos (decide_eq_true h)]; exact h1 h
  · rw [if_neg (fun z => h (of_decide_eq_true z))]; exact h2 h
theorem iteN {p A B : Prop} [Decidable p] (h1 : ¬ p → A) (h2 : p → B) : if (!decide p) = true then A else B := by
  by_cases h : p
  · rw [decide_eq_true h]; exact iteF (h2 h)
  · rw [decide_eq_false h]; exact iteT (h1 h)
theorem iteEq {i j : Int} {A B : Prop} (h1 : i = j → A) (h2 : ¬ i = j → B) : if decide (V.int i = V.int j) = true then A else B :=
  iteD (fun z => h1 (V.int.inj z)) fun z => h2 fun y => z (by rw [y])
theorem iteNe {i j : Int} {A B : Prop} (h1 : ¬ i = j → A) (h2 : i = j → B) : if (!decide (V.int i = V.int j)) = true then A else B :=
  iteN (fun z => h1 fun y => z (by rw [y])) fun z => h2 (V.int.inj z)
theorem iteEqS {i j : Str} {A B : Prop} (h1 : i = j → A) (h2 : ¬ i = j → B) : if decide (V.str i = V.str j) = true then A else B :=
  iteD (fun z => h1 (V.str.inj z)) fun z => h2 fun y => z (by rw [y])
theorem iteNeS {i j : Str} {A B : Prop} (h1 : ¬ i = j → A) (h2 : i = j → B) : if (!decide (V.str i = V.str j)) = true then A else B :=
  iteN (fun z => h1 fun y => z (by rw [y])) fun z => h2 (V.str.inj z)
theorem iteB {b : Bool} {A B : Prop} (h1 : b = true → A) (h2 : b = false → B) : if b = true then A else B := by
  cases b with
  | true => exact iteT (h1 rfl)
  | false => exact iteF (h2 rfl)
theorem iteNB {b : Bool} {A B : Prop} (h1 : b = false → A) (h2 : b = true → B) : if (!b) = true then A else B := by
  cases b with
  | true => exact iteF (h2 rfl)
  | false => exact iteT (h1 rfl)
/-- where the stepping is to stop -/
structure Here (p : Prop) : Prop where
  h : p
/-! ### loops -/
section
variable {J : It} {n : Nat} {G : Hp → Prop} {tb : TS} {D : Ends} {σ : L2.St} {H : Hp} {K : PySem.W.Frag}
/-- a for with one name (slot a) over a walk -/
theorem loop1 {Y : Nat → Hp → V → Hp → Prop} (w : Walk J n G Y) (a : Nat) (Pv : Nat → L2.St → Hp → Prop) (h0 : Pv 0 σ H) (hG : ∀ i σ H, i ≤ n → Pv i σ H → G H)
    (hs : ∀ i x σ H H', i < n → Pv i σ H → Y i H x H' → tb { D with nx := fun σ H => Here (Pv (i + 1) σ H), ct := fun σ H => Here (Pv (i + 1) σ H), bk := D.nx } (σ.set a (some x)) H') (hd : ∀ σ H, Pv n σ H → D.nx σ H) :
    ∃ W : Nat → Nat → L2.St → Hp → Prop, (∃ m, W 0 m σ H) ∧ ∀ i m σ H, W i m σ H →
      (J.stop i H ∧ D.nx σ H) ∨ (J.go i H ∧ ∃ N : L2.St → Hp → Prop, (∀ σ' H', N σ' H' → ∃ m', m' < m ∧ W (i + 1) m' σ' H') ∧ ∀ x H', J.yld i H x H' → gName a x σ H' fun σ2 H2 => tb { D with nx := N, ct := N, bk := D.nx } σ2 H2) := by
  refine for_it w (fun i σ H => Here (Pv i σ H)) ⟨h0⟩ (fun i σ H hi h => hG i σ H hi h.h) (fun i x σ H H' hi p y => hs i x σ H H' hi p.h y) fun σ H h => hd σ H h.h
/-- a for with two names over a walk of new pairs -/
theorem loop2 {xs ys : Nat → Option V} (w : Walk J n G (YPair xs ys)) (a b : Nat) (Pv : Nat → L2.St → Hp → Prop) (h0 : Pv 0 σ H) (hG : ∀ i σ H, i ≤ n → Pv i σ H → G H)
    (hs : ∀ i x y σ H H', i < n → Pv i σ H → xs i = some x → ys i = some y → Same H H' → tb { D with nx := fun σ H => Here (Pv (i + 1) σ H), ct := fun σ H => Here (Pv (i + 1) σ H), bk := D.nx } ((σ.set a (some x)).set b (some y)) H') (hd : ∀ σ H, Pv n σ H → D.nx σ H) :
    ∃ W : Nat → Nat → L2.St → Hp → Prop, (∃ m, W 0 m σ H) ∧ ∀ i m σ H, W i m σ H →
      (J.stop i H ∧ D.nx σ H) ∨ (J.go i H ∧ ∃ N : L2.St → Hp → Prop, (∀ σ' H', N σ' H' → ∃ m', m' < m ∧ W (i + 1) m' σ' H') ∧ ∀ x H', J.yld i H x H' → gTup K 2 (gCons (gName a) (gCons (gName b) gNil)) x σ H' fun σ2 H2 => tb { D with nx := N, ct := N, bk := D.nx } σ2 H2) :=
  for_it w (fun i σ H => Here (Pv i σ H)) ⟨h0⟩ (fun i σ H hi h => hG i σ H hi h.h) (fun i x σ H H' hi p q => by
    obtain ⟨T, x1, y1, rfl, nT, rfl, e1, e2⟩ := q
    exact ⟨T, [x1, y1], rfl, .inl (.inl upd_same), rfl, x1, [y1], rfl, y1, [], rfl, rfl, hs i x1 y1 σ H _ hi p.h e1 e2 (same_new nT)⟩) fun σ H h => hd σ H h.h
/-- a for with any target -/
theorem loopG {g : TG} {Y : Nat → Hp → V → Hp → Prop} (w : Walk J n G Y) (Pv : Nat → L2.St → Hp → Prop) (h0 : Pv 0 σ H) (hG : ∀ i σ H, i ≤ n → Pv i σ H → G H)
    (hs : ∀ i x σ H H', i < n → Pv i σ H → Y i H x H' → g x σ H' fun σ2 H2 => tb { D with nx := fun σ H => Here (Pv (i + 1) σ H), ct := fun σ H => Here (Pv (i + 1) σ H), bk := D.nx } σ2 H2) (hd : ∀ σ H, Pv n σ H → D.nx σ H) :
    ∃ W : Nat → Nat → L2.St → Hp → Prop, (∃ m, W 0 m σ H) ∧ ∀ i m σ H, W i m σ H →
      (J.stop i H ∧ D.nx σ H) ∨ (J.go i H ∧ ∃ N : L2.St → Hp → Prop, (∀ σ' H', N σ' H' → ∃ m', m' < m ∧ W (i + 1) m' σ' H') ∧ ∀ x H', J.yld i H x H' → g x σ H' fun σ2 H2 => tb { D with nx := N, ct := N, bk := D.nx } σ2 H2) := by
  refine for_it w (fun i σ H => Here (Pv i σ H)) ⟨h0⟩ (fun i σ H hi h => hG i σ H hi h.h) (fun i x σ H H' hi p y => hs i x σ H H' hi p.h y) fun σ H h => hd σ H h.h
/-- while, by a word and a measure -/
theorem loopW {c : TT} (W : Nat → L2.St → Hp → Prop) (m0 : Nat) (h0 : W m0 σ H)
    (hs : ∀ m σ H, W m σ H → c σ H fun b H1 => if b = true then ∃ N : L2.St → Hp → Prop, (∀ σ' H', N σ' H' → ∃ m', m' < m ∧ W m' σ' H') ∧ tb { D with nx := N, ct := N, bk := D.nx } σ H1 else D.nx σ H1) : tWhile c tb D σ H :=
  ⟨W, ⟨m0, h0⟩, hs⟩
/-- a turn's end: the word at a smaller measure -/
theorem turnW {W : Nat → L2.St → Hp → Prop} {m : Nat} {σ : L2.St} {H : Hp} (h : tb { D with nx := fun σ2 H2 => Here (∃ m', m' < m ∧ W m' σ2 H2), ct := fun σ2 H2 => Here (∃ m', m' < m ∧ W m' σ2 H2), bk := D.nx } σ H) :
    ∃ N : L2.St → Hp → Prop, (∀ σ' H', N σ' H' → ∃ m', m' < m ∧ W m' σ' H') ∧ tb { D with nx := N, ct := N, bk := D.nx } σ H := ⟨_, fun _ _ z => z.h, h⟩

/-- the goal of a comprehension's reading behind its source -/
abbrev LcGoal (J : It) (g : TG) (tt : TT) (te : TE) (vs : List Nat) (σ : L2.St) (H1 : Hp) (Q : Addr → Hp → Prop) : Prop := ∀ D, H1 D = none → ∃ W : Nat → Nat → Hp → Prop, (∃ m, W 0 m (upd H1 D (.lst []))) ∧ ∀ i m H, W i m H →
  (J.stop i H ∧ Q D H) ∨ (J.go i H ∧ ∃ Nx : Hp → Prop, (∀ H', Nx H' → ∃ m', m' < m ∧ W (i + 1) m' H') ∧ ∀ x H', J.yld i H x H' → g x (wipe σ vs) H' fun σ2 H2 => wipe σ2 vs = wipe σ vs ∧ tt σ2 H2 fun b H3 =>
    if b = true then te σ2 H3 fun y H4 => ∃ acc, H4 D = some (.lst acc) ∧ acc.length < sizeLine ∧ Nx (upd H4 D (.lst (acc ++ [y]))) else Nx H3)
/-- what is given: v i for the turns of f, in order -/
def givn {α : Type} (f : Nat → Bool) (v : Nat → α) : Nat → List α
  | 0 => []
  | n + 1 => if f n = true then givn f v n ++ [v n] else givn f v n
theorem givn_len {α : Type} {f : Nat → Bool} {v : Nat → α} : ∀ n, (givn f v n).length ≤ n
  | 0 => Nat.le_refl 0
  | n + 1 => by
    have h := givn_len (f := f) (v := v) n
    unfold givn
    split
    · rw [List.length_append]; show _ + 1 ≤ _; omega
    · omega
theorem givn_map {α β : Type} (f : Nat → Bool) (v : Nat → α) (h : α → β) : ∀ n, (givn f v n).map h = givn f (fun i => h (v i)) n
  | 0 => rfl
  | n + 1 => by
    unfold givn
    split
    · rw [List.map_append, givn_map f v h n]; rfl
    · exact givn_map f v h n
/-- over a list: its filter, mapped -/
theorem givn_list {α β : Type} (xs : List α) (p : α → Bool) (g : α → β) (f : Nat → Bool) (v : Nat → β) (hf : ∀ i x, xs[i]? = some x → f i = p x) (hv : ∀ i x, xs[i]? = some x → v i = g x) :
    ∀ n, n ≤ xs.length → givn f v n = ((xs.take n).filter p).map g
  | 0, _ => by simp [givn]
  | n + 1, hn => by
    have h1 : n < xs.length := by omega
    have e : xs[n]? = some xs[n] := List.getElem?_eq_getElem h1
    have ih := givn_list xs p g f v hf hv n (by omega)
    unfold givn
    rw [ih, hf n _ e, hv n _ e, List.take_succ_eq_append_getElem h1, List.filter_append, List.map_append]
    cases hp : p xs[n] with
    | true => simp [hp]
    | false => simp [hp]
theorem givn_all {α : Type} (v : Nat → α) : ∀ n, givn (fun _ => true) v n = (List.range n).map v
  | 0 => rfl
  | n + 1 => by
    unfold givn
    rw [givn_all v n, List.range_succ, List.map_append]
    rfl
theorem givn_listA {α β : Type} (xs : List α) (g : α → β) (v : Nat → β) (hv : ∀ i x, xs[i]? = some x → v i = g x) : givn (fun _ => true) v xs.length = xs.map g := by
  rw [givn_list xs (fun _ => true) g (fun _ => true) v (fun _ _ _ => rfl) hv xs.length (Nat.le_refl _), List.take_length, List.filter_eq_self.mpr (fun _ _ => rfl)]
theorem upd_some_ne {H : Hp} {D b : Addr} {o u : HO} (hb : b ≠ D) (e : H b = some o) : upd H D u b = some o := by rw [upd_ne hb]; exact e
/-- a comprehension whose elements are values told ahead: v i at the turns of f -/
theorem lcF {Y : Nat → Hp → V → Hp → Prop} {te : TE} {vs : List Nat} {Q : Addr → Hp → Prop} {g : TG} {tt : TT} (w : Walk J n G Y) (f : Nat → Bool) (v : Nat → V)
    (hn : n < sizeLine) (hG : ∀ H', Same H H' → G H')
    (hs : ∀ i x H1 H' (F : VK) (F' : Hp → Prop), i < n → Same H H1 → Y i H1 x H' → (f i = true → ∀ H4, Same H1 H4 → F (v i) H4) → (f i = false → ∀ H4, Same H1 H4 → F' H4) →
      g x (wipe σ vs) H' fun σ2 H2 => wipe σ2 vs = wipe σ vs ∧ tt σ2 H2 fun b H3 => if b = true then te σ2 H3 F else F' H3)
    (hq : ∀ p H', H p = none → Same H H' → H' p = some (.lst (givn f v n)) → Q p H') : LcGoal J g tt te vs σ H Q := by
  intro D hD
  refine lc_it w (fun i H' => Same H H' ∧ H' D = some (.lst (givn f v i))) ⟨same_new hD, upd_same⟩ (fun i H' _ h => hG H' h.1) ?_ (fun H' h => hq D H' hD h.1 h.2)
  rintro i x H1 H' hi ⟨e1, e2⟩ y
  have hz : (givn f v i).length < sizeLine := Nat.lt_of_le_of_lt (givn_len i) (by omega)
  refine hs i x H1 H' _ _ hi e1 y (fun hf H4 e4 => ⟨givn f v i, e4 _ _ e2, hz, fun b o ha => ?_, ?_⟩) (fun hf H4 e4 => ⟨e1.trans e4, ?_⟩)
  · exact upd_some_ne (ne_of_none ha hD) ((e1.trans e4) b o ha)
  · rw [upd_same]
    show _ = some (HO.lst (if f i = true then _ else _))
    rw [if_pos hf]
  · rw [e4 _ _ e2]
    show _ = some (HO.lst (if f i = true then _ else _))
    rw [if_neg (by rw [hf]; exact Bool.false_ne_true)]
/-- the same without a test -/
theorem lcA {Y : Nat → Hp → V → Hp → Prop} {te : TE} {vs : List Nat} {Q : Addr → Hp → Prop} {g : TG} (w : Walk J n G Y) (v : Nat → V)
    (hn : n < sizeLine) (hG : ∀ H', Same H H' → G H')
    (hs : ∀ i x H1 H' (F : VK), i < n → Same H H1 → Y i H1 x H' → (∀ H4, Same H1 H4 → F (v i) H4) →
      g x (wipe σ vs) H' fun σ2 H2 => wipe σ2 vs = wipe σ vs ∧ te σ2 H2 F)
    (hq : ∀ p H', H p = none → Same H H' → H' p = some (.lst (givn (fun _ => true) v n)) → Q p H') : LcGoal J g tYes te vs σ H Q :=
  lcF w (fun _ => true) v hn hG (fun i x H1 H' F F' hi e1 y h1 h2 => hs i x H1 H' F hi e1 y (h1 rfl)) hq
/-- a comprehension without a test; what is told of each element holds where the new list grows -/
theorem lcH {Y : Nat → Hp → V → Hp → Prop} {te : TE} {vs : List Nat} {Q : Addr → Hp → Prop} {g : TG} (w : Walk J n G Y) (R : Nat → V → Hp → Prop)
    (hR : ∀ i v H1 H2 D xs, (∀ b o, b ≠ D → H1 b = some o → H2 b = some o) → H1 D = some (.lst xs) → R i v H1 → R i v H2) (hn : n < sizeLine) (hG : ∀ H', Same H H' → G H')
    (hs : ∀ i x H1 H' (F : VK), i < n → Same H H1 → Y i H1 x H' → (∀ v H4, Same H1 H4 → R i v H4 → F v H4) →
      g x (wipe σ vs) H' fun σ2 H2 => wipe σ2 vs = wipe σ vs ∧ te σ2 H2 F)
    (hq : ∀ p H' ys, H p = none → Same H H' → H' p = some (.lst ys) → ys.length = n → (∀ i v, ys[i]? = some v → R i v H') → Q p H') : LcGoal J g tYes te vs σ H Q := by
  intro D hD
  refine lc_it w (fun i H' => Same H H' ∧ ∃ ys, H' D = some (.lst ys) ∧ ys.length = i ∧ ∀ j v, ys[j]? = some v → R j v H') ⟨same_new hD, [], upd_same, rfl, fun j v e => by simp at e⟩ (fun i H' _ h => hG H' h.1) ?_ ?_
  · rintro i x H1 H' hi ⟨e1, ys, eD, hl, hr⟩ y
    refine hs i x H1 H' _ hi e1 y fun v H4 e4 r4 => ?_
    refine ⟨ys, e4 _ _ eD, by omega, fun b o ha => upd_some_ne (ne_of_none ha hD) ((e1.trans e4) b o ha), ys ++ [v], upd_same, by rw [List.length_append, hl]; rfl, fun j u e => ?_⟩
    by_cases hj : j < ys.length
    · rw [List.getElem?_append_left hj] at e
      refine hR j u H1 _ D ys (fun b o hb q => upd_some_ne hb (e4 b o q)) eD (hr j u e)
    · have hj2 : j = i := by
        have := (List.getElem?_eq_some_iff.mp e).1
        rw [List.length_append] at this
        have : [v].length = 1 := rfl
        omega
      subst hj2
      rw [← hl, List.getElem?_concat_length] at e
      cases e
      exact hR j v H4 _ D ys (fun b o hb q => upd_some_ne hb q) (e4 _ _ eD) r4
  · rintro H' ⟨e1, ys, eD, hl, hr⟩
    exact hq D H' ys hD e1 eD hl hr
end

/-! ### more facts of the head -/
inductive Fx where
  | excC (x : Str)
  | kitR (x y : Str) (b : Bool)
  | kitT (x : Str) (n : String) (b : Bool)
  | exm (x y : Str) (b : Bool)
def Fx.ok (K : PySem.W.Frag) : Fx → Bool
  | .excC x => He.eqO (PySem.W.findIn K (.ref (He.ga K x)) "__getattribute__") (some (some (.builtin "BaseException.__getattribute__"))) && (He.eqO (PySem.W.findIn K (.ref (He.ga K x)) "__getattr__") (some none) && (decide (PySem.W.subIn K (.ref (He.ga K x)) (.type "BaseException") = some true) && (PySem.W.hasDictIn K (He.ga K x) &&
      (He.eqO (PySem.W.findIn K (.ref (He.ga K x)) "__class__") (some (some (.builtin "object.__class__"))) && (He.eqO (PySem.W.specialIn K (.builtin "object.__class__") "__get__") (some (some (.builtin "getset_descriptor.__get__"))) && (decide (PySem.W.takesIn K (.builtin "object.__class__") = some true) && decide (PySem.W.mroIn K (He.ga K x) (.type "object") = some true)))))))
  | .kitR x y b => decide (PySem.W.kitOne K (.ref (He.ga K x)) (.ref (He.ga K y)) = some b)
  | .kitT x n b => decide (PySem.W.kitOne K (.ref (He.ga K x)) (.type n) = some b)
  | .exm x y b => decide (PySem.W.exmOne K (.ref (He.ga K x)) (.ref (He.ga K y)) = some b)
theorem Fx.excC_ok {K : PySem.W.Frag} {x : Str} (c : (Fx.excC x).ok K = true) : ExcC K (He.ga K x) := by
  obtain ⟨c1, c⟩ := He.ba c
  obtain ⟨c2, c⟩ := He.ba c
  obtain ⟨c3, c⟩ := He.ba c
  obtain ⟨c4, c⟩ := He.ba c
  obtain ⟨c5, c⟩ := He.ba c
  obtain ⟨c6, c⟩ := He.ba c
  obtain ⟨c7, c8⟩ := He.ba c
  exact ⟨He.eqO_ok c1, He.eqO_ok c2, of_decide_eq_true c3, c4, He.eqO_ok c5, He.eqO_ok c6, of_decide_eq_true c7, of_decide_eq_true c8⟩
theorem Fx.kitR_ok {K : PySem.W.Frag} {x y : Str} {b : Bool} (c : (Fx.kitR x y b).ok K = true) : PySem.W.kitOne K (.ref (He.ga K x)) (.ref (He.ga K y)) = some b := of_decide_eq_true c
theorem Fx.kitT_ok {K : PySem.W.Frag} {x : Str} {n : String} {b : Bool} (c : (Fx.kitT x n b).ok K = true) : PySem.W.kitOne K (.ref (He.ga K x)) (.type n) = some b := of_decide_eq_true c
theorem Fx.exm_ok {K : PySem.W.Frag} {x y : Str} {b : Bool} (c : (Fx.exm x y b).ok K = true) : PySem.W.exmOne K (.ref (He.ga K x)) (.ref (He.ga K y)) = some b := of_decide_eq_true c
abbrev AlX : Type := He.AlD × Bool
def obsX (fa : List He.Fa) (fn : List He.DefD) (fx : List Fx) (K : PySem.W.Frag) : AlX := (He.obsD fa fn K, fx.all fun f => f.ok K)
def valX (fn : List He.DefD) : AlX := (He.valD fn, true)
def SaysX (fa : List He.Fa) (fn : List He.DefD) (fx : List Fx) (K : PySem.W.Frag) : Prop := obsX fa fn fx K = valX fn
theorem SaysX.d {fa : List He.Fa} {fn : List He.DefD} {fx : List Fx} {K : PySem.W.Frag} (c : SaysX fa fn fx K) : He.SaysD fa fn K := congrArg (fun z : AlX => z.1) c
theorem SaysX.x {fa : List He.Fa} {fn : List He.DefD} {fx : List Fx} {K : PySem.W.Frag} (c : SaysX fa fn fx K) (i : Nat) {f : Fx} (h : fx[i]? = some f := by rfl) : f.ok K = true :=
  List.all_eq_true.mp (show (fx.all fun f => f.ok K) = true from congrArg (fun z : AlX => z.2) c) f (List.mem_of_getElem? h)
def obsXG (n : Nat) (fa : List He.Fa) (fn : List He.DefD) (fx : List Fx) (g : Addr → Option Obj) : AlX := obsX fa fn fx (He.frG g (He.asD g n))
def hookX (n : Nat) (fa : List He.Fa) (fn : List He.DefD) (fx : List Fx) : PySem.W.Hook where
  α := AlX
  obs := fun s => obsXG n fa fn fx s.heap.get?
  val := fun _ => valX fn
  says := fun _ h => ∃ K : PySem.W.Frag, K.In h ∧ SaysX fa fn fx K
  of := fun _ _ e => ⟨_, He.frG_in, e⟩
  keeps := fun _ _ _ ⟨K, hK, c⟩ k => ⟨K, PySem.W.Frag.In.keeps hK k, c⟩
theorem obsXG_eq {n : Nat} {fa : List He.Fa} {fn : List He.DefD} {fx : List Fx} {g : Addr → Option Obj} {s : Shared} (h : ∀ a, g a = s.heap.get? a) : obsXG n fa fn fx g = (hookX n fa fn fx).obs s := by
  have e : g = s.heap.get? := funext h
  rw [e] <;> rfl

/-- a def that asks nothing of exceptions lets none out -/
theorem FnOk.to0 {P : Program} {w : World} {K : PySem.W.Frag} {mg : Str → Option Value} {base : Heap} {k : Nat} {f : Addr} {fd : FuncData} {ps : List Str} {sp : Sp} (F : FnOk P w K mg base (L2.CX P w) k f fd ps sp) (h : ∀ vs H Q E E', sp vs H Q E → sp vs H Q E') : FnOk P w K mg base CX0 k f fd ps sp :=
  ⟨F.len, fun A outer s H args us vs Q E hr e0 hb hv hs => codeAny_mono (F.run A outer s H args us vs Q E0 hr e0 hb hv (h _ _ _ _ _ hs)) fun r s' q => by
    cases r with
    | ok fl =>
      cases fl with
      | ret u => exact q
      | next => exact q
      | brk => exact q
      | cont => exact q
    | error e =>
      obtain ⟨_, _, _, _, _, _, _, _, _, _, _, _, z⟩ := (show L2.CX P w outer H s E0 e s' from q)
      exact z.elim⟩
end Mx

set_option Elab.async false
set_option maxRecDepth 100000
set_option maxHeartbeats 4000000
namespace Nt
/-! numbers of a prime: plain mathematics -/
/-- no number from 2 on whose square is not above it divides it -/
def isPr (n : Int) : Bool := decide (2 ≤ n) && (List.range n.toNat).all fun d => decide (d < 2) || decide (n < (d : Int) * d) || decide (n % (d : Int) ≠ 0)
theorem isPr_iff {n : Int} : isPr n = true ↔ 2 ≤ n ∧ ∀ d : Int, 2 ≤ d → d * d ≤ n → n % d ≠ 0 := by
  unfold isPr
  rw [Bool.and_eq_true, decide_eq_true_eq, List.all_eq_true]
  constructor
  · rintro ⟨h2, h⟩
    refine ⟨h2, fun d hd hq => ?_⟩
    have hdn : d ≤ d * d := by
      have : 1 * d ≤ d * d := Int.mul_le_mul_of_nonneg_right (by omega) (by omega)
      omega
    have hlt : d < n := by
      have : 2 * d ≤ d * d := Int.mul_le_mul_of_nonneg_right (by omega) (by omega)
      omega
    have q := h d.toNat (List.mem_range.mpr (by omega))
    have e : (d.toNat : Int) = d := Int.toNat_of_nonneg (by omega)
    rw [e] at q
    simp only [Bool.or_eq_true, decide_eq_true_eq] at q
    rcases q with (q | q) | q
    · omega
    · omega
    · exact q
  · rintro ⟨h2, h⟩
    refine ⟨h2, fun d _ => ?_⟩
    simp only [Bool.or_eq_true, decide_eq_true_eq]
    by_cases h1 : d < 2
    · exact .inl (.inl h1)
    · by_cases h3 : n < (d : Int) * d
      · exact .inl (.inr h3)
      · exact .inr (h d (by omega) (by omega))
theorem isPr_false {n d : Int} (h2 : 2 ≤ d) (h : d * d ≤ n) (h0 : n % d = 0) : isPr n = false := by
  cases e : isPr n with
  | false => rfl
  | true => exact absurd h0 ((isPr_iff.mp e).2 d h2 h)
theorem isPr_small {n : Int} (h : n < 2) : isPr n = false := by
  cases e : isPr n with
  | false => rfl
  | true => exact absurd (isPr_iff.mp e).1 (by omega)
theorem isPr_pos {p : Int} (h : isPr p = true) : 2 ≤ p := (isPr_iff.mp h).1
/-- a prime's divisors -/
theorem pr_dvd {p d : Int} (h : isPr p = true) (h1 : 1 ≤ d) (hd : p % d = 0) : d = 1 ∨ d = p := by
  obtain ⟨h2, hp⟩ := isPr_iff.mp h
  by_cases e1 : d = 1
  · exact .inl e1
  · right
    obtain ⟨k, hk⟩ : ∃ k, p = d * k := Int.dvd_of_emod_eq_zero hd
    have hk0 : 0 < k := by
      rcases Int.lt_trichotomy k 0 with h' | h' | h'
      · have : d * k < 0 := Int.mul_neg_of_pos_of_neg (by omega) h'
        omega
      · rw [h', Int.mul_zero] at hk; omega
      · exact h'
    by_cases hq : d * d ≤ p
    · exact absurd hd (hp d (by omega) hq)
    · have hkd : k < d := by
        by_cases h' : k < d
        · exact h'
        · have : d * d ≤ d * k := Int.mul_le_mul_of_nonneg_left (by omega) (by omega)
          omega
      by_cases k1 : k = 1
      · rw [k1, Int.mul_one] at hk; exact hk.symm
      · have hkk : k * k ≤ p := by
          have : k * k ≤ d * k := Int.mul_le_mul_of_nonneg_right (by omega) (by omega)
          omega
        have : p % k = 0 := Int.emod_eq_zero_of_dvd ⟨d, by rw [hk, Int.mul_comm]⟩
        exact absurd this (hp k (by omega) hkk)
/-- the number that makes 1 with n -/
def inv (p n : Int) : Int := (((List.range p.toNat).find? fun b : Nat => decide ((b : Int) * n % p = 1)).getD 0 : Nat)
theorem inv_range {p n : Int} (hp : 0 < p) : 0 ≤ inv p n ∧ inv p n < p := by
  unfold inv
  cases e : (List.range p.toNat).find? fun b : Nat => decide ((b : Int) * n % p = 1) with
  | none => simp; omega
  | some b =>
    have := List.mem_range.mp (List.mem_of_find?_eq_some e)
    simp only [Option.getD_some]
    omega
theorem inv_of {p n b : Int} (h0 : 0 ≤ b) (hb : b < p) (h : b * n % p = 1) : inv p n * n % p = 1 ∧ b = inv p n := by
  have hp : 0 < p := by omega
  have key : ∀ c : Int, 0 ≤ c → c < p → c * n % p = 1 → c = b := fun c c0 cb hc => by
    -- c = c * (b n) = b * (c n) = b
    have e1 : (c * n * b) % p = b % p := by rw [Int.mul_emod, hc, Int.one_mul, Int.emod_emod]
    have e2 : (b * n * c) % p = c % p := by rw [Int.mul_emod, h, Int.one_mul, Int.emod_emod]
    have e3 : c * n * b = b * n * c := by rw [Int.mul_comm (c * n) b, Int.mul_comm c n, ← Int.mul_assoc]
    rw [e3, e2, Int.emod_eq_of_lt c0 cb, Int.emod_eq_of_lt h0 hb] at e1
    exact e1
  have hex : ∃ b' ∈ List.range p.toNat, (fun b : Nat => decide ((b : Int) * n % p = 1)) b' = true := ⟨b.toNat, List.mem_range.mpr (by omega), by
    show decide (((b.toNat : Nat) : Int) * n % p = 1) = true
    rw [Int.toNat_of_nonneg h0]; exact decide_eq_true h⟩
  cases e : (List.range p.toNat).find? fun b : Nat => decide ((b : Int) * n % p = 1) with
  | none =>
    obtain ⟨b', m, t⟩ := hex
    exact absurd t (by simpa using List.find?_eq_none.mp e b' m)
  | some c =>
    have hc : inv p n = (c : Int) := by unfold inv; rw [e]; rfl
    have c1 : (c : Int) * n % p = 1 := of_decide_eq_true (List.find?_some (p := fun b : Nat => decide ((b : Int) * n % p = 1)) e)
    have c2 := List.mem_range.mp (List.mem_of_find?_eq_some e)
    rw [hc]
    exact ⟨c1, (key c (by omega) (by omega) c1).symm⟩
/-! ### primes by a common divisor with 1000! -/
def fac : Nat → Nat
  | 0 => 1
  | n + 1 => (n + 1) * fac n
theorem dvd_fac : ∀ {n d : Nat}, 1 ≤ d → d ≤ n → d ∣ fac n
  | 0, d, h1, h2 => by omega
  | n + 1, d, h1, h2 => by
    by_cases e : d = n + 1
    · exact ⟨fac n, by rw [e]; rfl⟩
    · obtain ⟨k, hk⟩ := dvd_fac (n := n) h1 (by omega)
      exact ⟨(n + 1) * k, by show (n + 1) * fac n = _; rw [hk, Nat.mul_left_comm]⟩
theorem pr_of_gcd {n : Nat} (h2 : 2 ≤ n) (hn : n ≤ 1000000) (h : Nat.gcd n (fac 1000) = 1) : isPr (n : Int) = true := by
  refine isPr_iff.mpr ⟨by omega, fun d hd hq h0 => ?_⟩
  have hd1000 : d ≤ 1000 := by
    by_cases h' : d ≤ 1000
    · exact h'
    · have : (1001 : Int) * 1001 ≤ d * d := Int.mul_le_mul (by omega) (by omega) (by omega) (by omega)
      omega
  have e : (d.toNat : Int) = d := Int.toNat_of_nonneg (by omega)
  have hdn : d.toNat ∣ n := by
    have : (d.toNat : Int) ∣ (n : Int) := by rw [e]; exact Int.dvd_of_emod_eq_zero h0
    exact Int.natCast_dvd_natCast.mp this
  have := Nat.dvd_gcd hdn (dvd_fac (n := 1000) (d := d.toNat) (by omega) (by omega))
  rw [h] at this
  have := Nat.le_of_dvd (by decide) this
  omega
/-- 1000! -/
def F : Nat := 402387260077093773543702433923003985719374864210714632543799910429938512398629020592044208486969404800479988610197196058631666872994808558901323829669944590997424504087073759918823627727188732519779505950995276120874975462497043601418278094646496291056393887437886487337119181045825783647849977012476632889835955735432513185323958463075557409114262417474349347553428646576611667797396668820291207379143853719588249808126867838374559731746136085379534524221586593201928090878297308431392844403281231558611036976801357304216168747609675871348312025478589320767169132448426236131412508780208000261683151027341827977704784635868170164365024153691398281264810213092761244896359928705114964975419909342221566832572080821333186116811553615836546984046708975602900950537616475847728421889679646244945160765353408198901385442487984959953319101723355556602139450399736280750137837615307127761926849034352625200015888535147331611702103968175921510907788019393178114194545257223865541461062892187960223838971476088506276862967146674697562911234082439208160153780889893964518263243671616762179168909779911903754031274622289988005195444414282012187361745992642956581746628302955570299024324153181617210465832036786906117260158783520751516284225540265170483304226143974286933061690897968482590125458327168226458066526769958652682272807075781391858178889652208164348344825993266043367660176999612831860788386150279465955131156552036093988180612138558600301435694527224206344631797460594682573103790084024432438465657245014402821885252470935190620929023136493273497565513958720559654228749774011413346962715422845862377387538230483865688976461927383814900140767310446640259899490222221765904339901886018566526485061799702356193897017860040811889729918311021171229845901641921068884387121855646124960798722908519296819372388642614839657382291123125024186649353143970137428531926649875337218940694281434118520158014123344828015051399694290153483077644569099073152433278288269864602789864321139083506217095002597389863554277196742822248757586765752344220207573630569498825087968928162753848863396909959826280956121450994871701244516461260379029309120889086942028510640182154399457156805941872748998094254742173582401063677404595741785160829230135358081840096996372524230560855903700624271243416909004153690105933983835777939410970027753472000000000000000000000000000000000000000000000000000000000000000000000000000000000000000000000000000000000000000000000000000000000000000000000000000000000000000000000000000000000000000000000000000000000000000000000000000000000000000000000000000000000
theorem F_eq : F = fac 1000 := by decide +kernel
/-- one of 100 j + 1, 100 j + 3, .. below 100 j + 2 k that has no common divisor with it -/
def some1 (j : Nat) : Nat → Bool
  | 0 => false
  | k + 1 => bif Nat.beq (Nat.gcd (100 * j + (2 * k + 1)) F) 1 then true else some1 j k
theorem some1_ok {j : Nat} : ∀ {k : Nat}, some1 j k = true → ∃ o, o < 2 * k ∧ Nat.gcd (100 * j + o) (fac 1000) = 1
  | 0, h => by cases h
  | k + 1, h => by
    cases e : Nat.beq (Nat.gcd (100 * j + (2 * k + 1)) F) 1 with
    | true =>
      refine ⟨2 * k + 1, by omega, ?_⟩
      rw [← F_eq]
      exact Nat.eq_of_beq_eq_true e
    | false =>
      have q : (bif Nat.beq (Nat.gcd (100 * j + (2 * k + 1)) F) 1 then true else some1 j k) = true := h
      rw [e] at q
      obtain ⟨o, h1, h2⟩ := some1_ok (k := k) q
      exact ⟨o, by omega, h2⟩
def all1 : Nat → Nat → Bool
  | 0, j => Nat.ble j 9 || (Nat.ble 9992 j || some1 j 50)
  | d + 1, j => all1 d (2 * j) && all1 d (2 * j + 1)
theorem all1_ok : ∀ {d j : Nat}, all1 d j = true → ∀ i, j * 2 ^ d ≤ i → i < (j + 1) * 2 ^ d → 10 ≤ i → i ≤ 9991 → some1 i 50 = true
  | 0, j, h, i, h1, h2, h3, h4 => by
    have e : i = j := by simp at h1 h2; omega
    subst e
    have q : (Nat.ble i 9 || (Nat.ble 9992 i || some1 i 50)) = true := h
    rw [Bool.or_eq_true, Bool.or_eq_true] at q
    rcases q with q | q | q
    · have := Nat.le_of_ble_eq_true q; omega
    · have := Nat.le_of_ble_eq_true q; omega
    · exact q
  | d + 1, j, h, i, h1, h2, h3, h4 => by
    obtain ⟨a, b⟩ := Bool.and_eq_true_iff.mp (show (all1 d (2 * j) && all1 d (2 * j + 1)) = true from h)
    have e1 : j * 2 ^ (d + 1) = (2 * j) * 2 ^ d := by rw [Nat.pow_succ, Nat.mul_comm 2 j, Nat.mul_assoc, Nat.mul_comm 2]
    have e2 : (j + 1) * 2 ^ (d + 1) = (2 * j + 1 + 1) * 2 ^ d := by rw [Nat.pow_succ, show 2 * j + 1 + 1 = 2 * (j + 1) by omega, Nat.mul_comm 2 (j + 1), Nat.mul_assoc, Nat.mul_comm 2]
    rw [e1] at h1
    rw [e2] at h2
    by_cases c : i < (2 * j + 1) * 2 ^ d
    · exact all1_ok a i h1 c h3 h4
    · exact all1_ok b i (by omega) h2 h3 h4
theorem all1_run : all1 14 0 = true := by decide +kernel
theorem few_run : ([199, 397, 593, 787, 983] : List Int).all isPr = true := by decide +kernel
theorem gap (n : Int) (h2 : 2 ≤ n) (hn : n ≤ 999001) : ∃ k : Nat, k < 200 ∧ isPr (n + (k : Nat)) = true := by
  have few : ∀ q : Int, q ∈ ([199, 397, 593, 787, 983] : List Int) → n ≤ q → q < n + 200 → ∃ k : Nat, k < 200 ∧ isPr (n + (k : Nat)) = true := fun q hq a b => by
    have := List.all_eq_true.mp few_run q hq
    refine ⟨(q - n).toNat, by omega, ?_⟩
    have e : n + ((q - n).toNat : Int) = q := by omega
    rw [e]; exact this
  by_cases a1 : n ≤ 199
  · exact few 199 (by simp) a1 (by omega)
  by_cases a2 : n ≤ 397
  · exact few 397 (by simp) a2 (by omega)
  by_cases a3 : n ≤ 593
  · exact few 593 (by simp) a3 (by omega)
  by_cases a4 : n ≤ 787
  · exact few 787 (by simp) a4 (by omega)
  by_cases a5 : n ≤ 983
  · exact few 983 (by simp) a5 (by omega)
  have e : (n.toNat : Int) = n := Int.toNat_of_nonneg (by omega)
  generalize hm : n.toNat = m at *
  have hj : 10 ≤ m / 100 + 1 ∧ m / 100 + 1 ≤ 9991 := by omega
  have h14 : (0 + 1) * 2 ^ 14 = 16384 := by decide
  obtain ⟨o, ho, hg⟩ := some1_ok (k := 50) (all1_ok (d := 14) (j := 0) all1_run (m / 100 + 1) (by simp) (by omega) hj.1 hj.2)
  refine ⟨100 * (m / 100 + 1) + o - m, by omega, ?_⟩
  have e2 : n + ((100 * (m / 100 + 1) + o - m : Nat) : Int) = ((100 * (m / 100 + 1) + o : Nat) : Int) := by omega
  rw [e2]
  exact pr_of_gcd (by omega) (by omega) hg
theorem some_run : ([2, 3, 5, 7, 11, 13, 17, 19, 23, 29, 31, 37, 41, 43, 47, 53, 59, 61, 67, 71, 97, 101, 257] : List Int).all isPr = true := by decide +kernel
theorem big_run : isPr 999983 = true := pr_of_gcd (n := 999983) (by decide) (by decide) (by rw [← F_eq]; decide +kernel)
/-! ### Euclid -/
theorem euc_step {p n left right one other : Int} (h1 : (one * n - left) % p = 0) (h2 : (other * n - right) % p = 0) : ((one - left / right * other) * n - left % right) % p = 0 := by
  have e : (one - left / right * other) * n - left % right = (one * n - left) - left / right * (other * n - right) := by
    have q := Int.mul_ediv_add_emod left right
    have q2 : left / right * right = left - left % right := by rw [Int.mul_comm]; omega
    rw [Int.sub_mul, Int.mul_sub, Int.mul_assoc, q2]
    omega
  rw [e]
  have d1 := Int.dvd_of_emod_eq_zero h1
  have d2 := Int.dvd_of_emod_eq_zero h2
  exact Int.emod_eq_zero_of_dvd (Int.dvd_sub d1 (Int.dvd_mul_of_dvd_right d2))
end Nt

set_option Elab.async false
set_option linter.all false
set_option maxRecDepth 100000
set_option maxHeartbeats 4000000
namespace Mx
open PySem PySem.Spec PyProof.Rows L2
theorem ty_lst {K : PySem.W.Frag} {H : Hp} {p : Addr} {xs : List V} (h : H p = some (.lst xs)) : tyV K "list" (.ref p) H := .inl ⟨rfl, xs, SqL.of h⟩
theorem ty_dK {K : PySem.W.Frag} {H : Hp} {p : Addr} {xs : List (Key × V)} (h : H p = some (.dK xs)) : tyV K "dict" (.ref p) H := .inr (.inr (.inl ⟨rfl, .inl ⟨xs, h⟩⟩))
theorem sqL_at {K : PySem.W.Frag} {H : Hp} {p : Addr} {xs : List V} (h : H p = some (.lst xs)) : SqL K H p xs := SqL.of h
/-! ### data as trees, what stands for them in a heap, by footprints -/
inductive Dat where
  | non | bl (b : Bool) | int (i : Int) | str (s : Str) | lst (l : List Dat) | tup (l : List Dat) | dct (l : List (Key × Dat))
abbrev dI (xs : List Int) : Dat := .lst (xs.map .int)
abbrev dT (rows : List (List Int)) : Dat := .lst (rows.map dI)
mutual
inductive Tr (H : Hp) : V → Dat → List Addr → Prop
  | non : Tr H .non .non []
  | bl (b : Bool) : Tr H (.bl b) (.bl b) []
  | int (i : Int) : Tr H (.int i) (.int i) []
  | str (s : Str) : Tr H (.str s) (.str s) []
  | lst {a : Addr} {vs : List V} {ds : List Dat} {fp : List Addr} : H a = some (.lst vs) → Trs H vs ds fp → Tr H (.ref a) (.lst ds) (a :: fp)
  | tup {a : Addr} {vs : List V} {ds : List Dat} {fp : List Addr} : H a = some (.tup vs) → Trs H vs ds fp → Tr H (.ref a) (.tup ds) (a :: fp)
  | dct {a : Addr} {kvs : List (Key × V)} {kds : List (Key × Dat)} {fp : List Addr} : H a = some (.dK kvs) → kvs.map (·.1) = kds.map (·.1) → Trs H (kvs.map (·.2)) (kds.map (·.2)) fp → Tr H (.ref a) (.dct kds) (a :: fp)
inductive Trs (H : Hp) : List V → List Dat → List Addr → Prop
  | nil : Trs H [] [] []
  | cons {v : V} {d : Dat} {vs : List V} {ds : List Dat} {f1 f2 : List Addr} : Tr H v d f1 → Trs H vs ds f2 → Trs H (v :: vs) (d :: ds) (f1 ++ f2)
end
mutual
theorem Tr.mono {H H' : Hp} : ∀ {v : V} {d : Dat} {fp : List Addr}, Tr H v d fp → (∀ b ∈ fp, ∀ o, H b = some o → H' b = some o) → Tr H' v d fp
  | _, _, _, .non, _ => .non
  | _, _, _, .bl b, _ => .bl b
  | _, _, _, .int i, _ => .int i
  | _, _, _, .str s, _ => .str s
  | _, _, _, .lst e t, k => .lst (k _ (List.mem_cons_self) _ e) (t.mono fun b hb => k b (List.mem_cons_of_mem _ hb))
  | _, _, _, .tup e t, k => .tup (k _ (List.mem_cons_self) _ e) (t.mono fun b hb => k b (List.mem_cons_of_mem _ hb))
  | _, _, _, .dct e q t, k => .dct (k _ (List.mem_cons_self) _ e) q (t.mono fun b hb => k b (List.mem_cons_of_mem _ hb))
theorem Trs.mono {H H' : Hp} : ∀ {vs : List V} {ds : List Dat} {fp : List Addr}, Trs H vs ds fp → (∀ b ∈ fp, ∀ o, H b = some o → H' b = some o) → Trs H' vs ds fp
  | _, _, _, .nil, _ => .nil
  | _, _, _, .cons a t, k => .cons (a.mono fun b hb => k b (List.mem_append_left _ hb)) (t.mono fun b hb => k b (List.mem_append_right _ hb))
end
mutual
theorem Tr.dom {H : Hp} : ∀ {v : V} {d : Dat} {fp : List Addr}, Tr H v d fp → ∀ b ∈ fp, ∃ o, H b = some o
  | _, _, _, .non, b, h => by cases h
  | _, _, _, .bl _, b, h => by cases h
  | _, _, _, .int _, b, h => by cases h
  | _, _, _, .str _, b, h => by cases h
  | _, _, _, .lst e t, b, h => by
    rcases List.mem_cons.mp h with rfl | h
    · exact ⟨_, e⟩
    · exact t.dom b h
  | _, _, _, .tup e t, b, h => by
    rcases List.mem_cons.mp h with rfl | h
    · exact ⟨_, e⟩
    · exact t.dom b h
  | _, _, _, .dct e q t, b, h => by
    rcases List.mem_cons.mp h with rfl | h
    · exact ⟨_, e⟩
    · exact t.dom b h
theorem Trs.dom {H : Hp} : ∀ {vs : List V} {ds : List Dat} {fp : List Addr}, Trs H vs ds fp → ∀ b ∈ fp, ∃ o, H b = some o
  | _, _, _, .nil, b, h => by cases h
  | _, _, _, .cons a t, b, h => by
    rcases List.mem_append.mp h with h | h
    · exact a.dom b h
    · exact t.dom b h
end
theorem Trs.len {H : Hp} : ∀ {vs : List V} {ds : List Dat} {fp : List Addr}, Trs H vs ds fp → vs.length = ds.length
  | _, _, _, .nil => rfl
  | _, _, _, .cons _ t => by rw [List.length_cons, List.length_cons, t.len]
theorem Trs.append {H : Hp} : ∀ {vs ws : List V} {ds es : List Dat} {f g : List Addr}, Trs H vs ds f → Trs H ws es g → Trs H (vs ++ ws) (ds ++ es) (f ++ g)
  | _, _, _, _, _, _, .nil, q => q
  | _, _, _, _, _, _, .cons (f1 := f1) (f2 := f2) a t, q => by
    rw [List.append_assoc]
    exact .cons a (t.append q)
theorem Trs.snoc {H : Hp} {vs : List V} {ds : List Dat} {f g : List Addr} {v : V} {d : Dat} (t : Trs H vs ds f) (a : Tr H v d g) : Trs H (vs ++ [v]) (ds ++ [d]) (f ++ g) := by
  have := t.append (.cons a .nil)
  rw [List.append_nil] at this
  exact this
theorem Trs.at {H : Hp} : ∀ {vs : List V} {ds : List Dat} {fp : List Addr} {i : Nat} {d : Dat}, Trs H vs ds fp → ds[i]? = some d → ∃ v f, vs[i]? = some v ∧ Tr H v d f ∧ ∀ b ∈ f, b ∈ fp
  | _, _, _, i, d, .nil, h => by simp at h
  | _, _, _, 0, d, .cons a t, h => by
    have e := Option.some.inj (show some _ = some d from h)
    subst e
    exact ⟨_, _, rfl, a, fun b hb => List.mem_append_left _ hb⟩
  | _, _, _, i + 1, d, .cons a t, h => by
    obtain ⟨v, f, e, q, m⟩ := t.at (i := i) (d := d) h
    exact ⟨v, f, e, q, fun b hb => List.mem_append_right _ (m b hb)⟩
/-- flat items -/
theorem Trs.ints {H : Hp} : ∀ xs : List Int, Trs H (xs.map V.int) (xs.map Dat.int) []
  | [] => .nil
  | x :: xs => .cons (f1 := []) (f2 := []) (.int x) (Trs.ints xs)
theorem Trs.strs {H : Hp} : ∀ xs : List Str, Trs H (xs.map V.str) (xs.map Dat.str) []
  | [] => .nil
  | x :: xs => .cons (f1 := []) (f2 := []) (.str x) (Trs.strs xs)
theorem Trs.ints_inv {H : Hp} : ∀ {xs : List Int} {vs : List V} {fp : List Addr}, Trs H vs (xs.map Dat.int) fp → vs = xs.map V.int ∧ fp = []
  | [], _, _, .nil => ⟨rfl, rfl⟩
  | x :: xs, _, _, .cons (.int _) t => by
    obtain ⟨rfl, rfl⟩ := Trs.ints_inv t
    exact ⟨rfl, rfl⟩
theorem Trs.strs_inv {H : Hp} : ∀ {xs : List Str} {vs : List V} {fp : List Addr}, Trs H vs (xs.map Dat.str) fp → vs = xs.map V.str ∧ fp = []
  | [], _, _, .nil => ⟨rfl, rfl⟩
  | x :: xs, _, _, .cons (.str _) t => by
    obtain ⟨rfl, rfl⟩ := Trs.strs_inv t
    exact ⟨rfl, rfl⟩

/-! ### what is to be read -/
def Rep (H : Hp) (v : V) (d : Dat) : Prop := ∃ fp, Tr H v d fp
theorem Rep.mono {H H' : Hp} {v : V} {d : Dat} (r : Rep H v d) (e : Same H H') : Rep H' v d := let ⟨fp, t⟩ := r; ⟨fp, t.mono fun b _ o h => e b o h⟩
theorem Rep.int {H : Hp} {v : V} {i : Int} (r : Rep H v (.int i)) : v = .int i := by obtain ⟨fp, t⟩ := r; cases t; rfl
theorem Rep.str {H : Hp} {v : V} {i : Str} (r : Rep H v (.str i)) : v = .str i := by obtain ⟨fp, t⟩ := r; cases t; rfl
theorem Rep.list {H : Hp} {v : V} {ds : List Dat} (r : Rep H v (.lst ds)) : ∃ (a : Addr) (vs : List V), v = .ref a ∧ H a = some (.lst vs) ∧ vs.length = ds.length ∧ ∀ (i : Nat) (d : Dat), ds[i]? = some d → ∃ u, vs[i]? = some u ∧ Rep H u d := by
  obtain ⟨fp, t⟩ := r
  cases t with
  | lst e t => exact ⟨_, _, rfl, e, t.len, fun i d h => let ⟨u, f, a, b, _⟩ := t.at h; ⟨u, a, f, b⟩⟩
theorem Rep.tuple {H : Hp} {v : V} {ds : List Dat} (r : Rep H v (.tup ds)) : ∃ (a : Addr) (vs : List V), v = .ref a ∧ H a = some (.tup vs) ∧ vs.length = ds.length ∧ ∀ (i : Nat) (d : Dat), ds[i]? = some d → ∃ u, vs[i]? = some u ∧ Rep H u d := by
  obtain ⟨fp, t⟩ := r
  cases t with
  | tup e t => exact ⟨_, _, rfl, e, t.len, fun i d h => let ⟨u, f, a, b, _⟩ := t.at h; ⟨u, a, f, b⟩⟩
theorem Rep.ints {H : Hp} {v : V} {xs : List Int} (r : Rep H v (dI xs)) : ∃ a, v = .ref a ∧ H a = some (.lst (xs.map V.int)) := by
  obtain ⟨fp, t⟩ := r
  cases t with
  | lst e t =>
    obtain ⟨rfl, _⟩ := Trs.ints_inv t
    exact ⟨_, rfl, e⟩
theorem Rep.of_ints {H : Hp} {a : Addr} {xs : List Int} (h : H a = some (.lst (xs.map V.int))) : Rep H (.ref a) (dI xs) := ⟨_, .lst h (Trs.ints xs)⟩
/-- a table: the rows' addresses -/
theorem Rep.table {H : Hp} {v : V} {rows : List (List Int)} (r : Rep H v (dT rows)) : ∃ (a : Addr) (ls : List Addr), v = .ref a ∧ H a = some (.lst (ls.map V.ref)) ∧ ls.length = rows.length ∧ ∀ (i : Nat) (l : Addr) (row : List Int), ls[i]? = some l → rows[i]? = some row → H l = some (.lst (row.map V.int)) := by
  obtain ⟨fp, t⟩ := r
  cases t with
  | lst e t =>
    have key : ∀ {rows : List (List Int)} {vs : List V} {fp : List Addr}, Trs H vs (rows.map dI) fp → ∃ ls : List Addr, vs = ls.map V.ref ∧ ls.length = rows.length ∧ ∀ (i : Nat) (l : Addr) (row : List Int), ls[i]? = some l → rows[i]? = some row → H l = some (.lst (row.map V.int)) := by
      intro rows
      induction rows with
      | nil => intro vs fp t; cases t; exact ⟨[], rfl, rfl, fun i l row h => by simp at h⟩
      | cons x xs ih =>
        intro vs fp t
        cases t with
        | cons a t =>
          obtain ⟨q, rfl, e1⟩ := Rep.ints ⟨_, a⟩
          obtain ⟨ls, rfl, e2, e3⟩ := ih t
          refine ⟨q :: ls, rfl, by rw [List.length_cons, List.length_cons, e2], fun i l row h1 h2 => ?_⟩
          cases i with
          | zero => cases h1; cases h2; exact e1
          | succ i => exact e3 i l row h1 h2
    obtain ⟨ls, rfl, e2, e3⟩ := key t
    exact ⟨_, ls, rfl, e, e2, e3⟩

/-! ### what is new since H0 -/
def New (H0 H : Hp) (v : V) (d : Dat) : Prop := ∃ fp, Tr H v d fp ∧ fp.Nodup ∧ ∀ b ∈ fp, H0 b = none
theorem New.rep {H0 H : Hp} {v : V} {d : Dat} (n : New H0 H v d) : Rep H v d := let ⟨fp, t, _⟩ := n; ⟨fp, t⟩
theorem New.mono {H0 H H' : Hp} {v : V} {d : Dat} (n : New H0 H v d) (e : Same H H') : New H0 H' v d := let ⟨fp, t, a, b⟩ := n; ⟨fp, t.mono fun b _ o h => e b o h, a, b⟩
theorem New.back {H0 H1 H : Hp} {v : V} {d : Dat} (n : New H1 H v d) (e : Same H0 H1) : New H0 H v d := let ⟨fp, t, a, b⟩ := n; ⟨fp, t, a, fun c hc => e.free (b c hc)⟩
theorem New.int {H0 H : Hp} (i : Int) : New H0 H (.int i) (.int i) := ⟨[], .int i, List.nodup_nil, fun b h => by cases h⟩
theorem New.bl {H0 H : Hp} (i : Bool) : New H0 H (.bl i) (.bl i) := ⟨[], .bl i, List.nodup_nil, fun b h => by cases h⟩
theorem New.str {H0 H : Hp} (i : Str) : New H0 H (.str i) (.str i) := ⟨[], .str i, List.nodup_nil, fun b h => by cases h⟩
theorem New.non {H0 H : Hp} : New H0 H .non .non := ⟨[], .non, List.nodup_nil, fun b h => by cases h⟩
theorem New.ints {H0 H : Hp} {p : Addr} {xs : List Int} (n : H0 p = none) (e : H p = some (.lst (xs.map V.int))) : New H0 H (.ref p) (dI xs) :=
  ⟨[p], .lst e (Trs.ints xs), List.nodup_cons.mpr ⟨fun z => (by cases z), List.nodup_nil⟩, fun b hb => by rw [List.mem_singleton.mp hb]; exact n⟩
theorem New.strs {H0 H : Hp} {p : Addr} {xs : List Str} (n : H0 p = none) (e : H p = some (.lst (xs.map V.str))) : New H0 H (.ref p) (.lst (xs.map .str)) :=
  ⟨[p], .lst e (Trs.strs xs), List.nodup_cons.mpr ⟨fun z => (by cases z), List.nodup_nil⟩, fun b hb => by rw [List.mem_singleton.mp hb]; exact n⟩

/-! ### a list that grows -/
structure AccL (H0 H : Hp) (o : Addr) (vs : List V) (ds : List Dat) : Prop where
  at_ : H o = some (.lst vs)
  new : ∃ fp, Trs H vs ds fp ∧ (o :: fp).Nodup ∧ ∀ b ∈ o :: fp, H0 b = none
theorem AccL.start {H : Hp} {o : Addr} (h : H o = none) : AccL H (upd H o (.lst [])) o [] [] :=
  ⟨upd_same, [], .nil, List.nodup_cons.mpr ⟨fun z => (by cases z), List.nodup_nil⟩, fun b hb => by rw [List.mem_singleton.mp hb]; exact h⟩
theorem AccL.mono {H0 H H' : Hp} {o : Addr} {vs : List V} {ds : List Dat} (a : AccL H0 H o vs ds) (e : Same H H') : AccL H0 H' o vs ds :=
  ⟨e _ _ a.at_, let ⟨fp, t, x, y⟩ := a.new; ⟨fp, t.mono fun b _ o h => e b o h, x, y⟩⟩
theorem AccL.len {H0 H : Hp} {o : Addr} {vs : List V} {ds : List Dat} (a : AccL H0 H o vs ds) : vs.length = ds.length := let ⟨_, t, _⟩ := a.new; t.len
theorem AccL.toNew {H0 H : Hp} {o : Addr} {vs : List V} {ds : List Dat} (a : AccL H0 H o vs ds) : New H0 H (.ref o) (.lst ds) := let ⟨fp, t, x, y⟩ := a.new; ⟨_, .lst a.at_ t, x, y⟩
theorem AccL.free {H0 H : Hp} {o : Addr} {vs : List V} {ds : List Dat} (a : AccL H0 H o vs ds) : H0 o = none := let ⟨_, _, _, y⟩ := a.new; y o List.mem_cons_self
theorem AccL.push {H0 H H' : Hp} {o : Addr} {vs : List V} {ds : List Dat} {v : V} {d : Dat} (a : AccL H0 H o vs ds) (e : Same H H') (e0 : Same H0 H) (n : New H H' v d) : AccL H0 (upd H' o (.lst (vs ++ [v]))) o (vs ++ [v]) (ds ++ [d]) := by
  obtain ⟨ea, fp, t, nd, fr⟩ := a
  obtain ⟨gp, u, nd2, fr2⟩ := n
  have hdis : ∀ b ∈ o :: fp, b ∉ gp := fun b hb hg => by
    obtain ⟨x, hx⟩ : ∃ x, H b = some x := by
      rcases List.mem_cons.mp hb with rfl | hb
      · exact ⟨_, ea⟩
      · exact t.dom b hb
    rw [fr2 b hg] at hx; cases hx
  have hn := List.nodup_cons.mp nd
  refine ⟨upd_same, fp ++ gp, ?_, ?_, ?_⟩
  · refine Trs.snoc (t.mono fun b hb x hx => ?_) (u.mono fun b hb x hx => ?_)
    · rw [upd_ne (fun z => hn.1 (by rw [← z]; exact hb))]
      exact e b x hx
    · rw [upd_ne (fun z => hdis o List.mem_cons_self (by rw [← z]; exact hb))]
      exact hx
  · refine List.nodup_cons.mpr ⟨fun z => ?_, ?_⟩
    · rcases List.mem_append.mp z with z | z
      · exact hn.1 z
      · exact hdis o List.mem_cons_self z
    · exact List.nodup_append.mpr ⟨hn.2, nd2, fun b hb c hc z => hdis b (List.mem_cons_of_mem _ hb) (z ▸ hc)⟩
  · intro b hb
    rcases List.mem_cons.mp hb with rfl | hb
    · exact fr _ List.mem_cons_self
    · rcases List.mem_append.mp hb with hb | hb
      · exact fr b (List.mem_cons_of_mem _ hb)
      · exact e0.free (fr2 b hb)
/-! ### comprehensions of new things -/
section
variable {J : It} {n : Nat} {G : Hp → Prop} {σ : L2.St} {H : Hp}
theorem lcN {Y : Nat → Hp → V → Hp → Prop} {te : TE} {vs : List Nat} {Q : Addr → Hp → Prop} {g : TG} (w : Walk J n G Y) (d : Nat → Dat) (hn : n < sizeLine) (hG : ∀ H', Same H H' → G H')
    (hs : ∀ i x H1 H' (F : VK), i < n → Same H H1 → Y i H1 x H' → (∀ v H4, Same H1 H4 → New H1 H4 v (d i) → F v H4) →
      g x (wipe σ vs) H' fun σ2 H2 => wipe σ2 vs = wipe σ vs ∧ te σ2 H2 F)
    (hq : ∀ p H', Same H H' → New H H' (.ref p) (.lst (givn (fun _ => true) d n)) → Q p H') : LcGoal J g tYes te vs σ H Q := by
  intro D hD
  refine lc_it w (fun i H' => Same H H' ∧ ∃ ys, AccL H H' D ys (givn (fun _ => true) d i)) ⟨same_new hD, [], AccL.start hD⟩ (fun i H' _ h => hG H' h.1) ?_ (fun H' h => ?_)
  · rintro i x H1 H' hi ⟨e1, ys, ac⟩ y
    have hl : ys.length < sizeLine := by
      rw [ac.len]
      exact Nat.lt_of_le_of_lt (givn_len i) (by omega)
    exact hs i x H1 H' _ hi e1 y fun v H4 e4 nv => ⟨ys, e4 _ _ ac.at_, hl, fun b o ha => upd_some_ne (ne_of_none ha hD) ((e1.trans e4) b o ha), ys ++ [v], by
      show AccL H _ D _ (if true = true then _ else _)
      rw [if_pos rfl]
      exact ac.push e4 e1 nv⟩
  · obtain ⟨e1, ys, ac⟩ := h
    exact hq D H' e1 ac.toNew
end
/-! ### data that is compared -/
mutual
def Dat.py : Dat → PyData
  | .non => .none
  | .bl b => .bool b
  | .int i => .int i
  | .str s => .str s
  | .lst l => .list (Dat.pys l)
  | .tup l => .tuple (Dat.pys l)
  | .dct _ => .none
def Dat.pys : List Dat → List PyData
  | [] => []
  | d :: ds => d.py :: Dat.pys ds
end
/-- no truths, no dicts, of depth n at most -/
def okd : Nat → Dat → Bool
  | _, .non => true
  | _, .int _ => true
  | _, .str s => PyData.strOk s
  | _, .bl _ => false
  | _, .dct _ => false
  | 0, .lst _ => false
  | 0, .tup _ => false
  | n + 1, .lst l => l.all (okd n)
  | n + 1, .tup l => l.all (okd n)
theorem pys_len : ∀ l : List Dat, (Dat.pys l).length = l.length
  | [] => rfl
  | _ :: l => congrArg (· + 1) (pys_len l)
theorem okd_lay : ∀ n d, okd n d = true → PyData.canLay0 d.py = true ∧ PyData.depth d.py ≤ n := by
  intro n
  induction n with
  | zero => intro d h; cases d <;> simp [okd] at h <;> simp [Dat.py, PyData.canLay0, PyData.depth, h]
  | succ n ih =>
    have key : ∀ l : List Dat, l.all (okd n) = true → PyData.canLayAll0 (Dat.pys l) = true ∧ PyData.depthAll (Dat.pys l) ≤ n := by
      intro l
      induction l with
      | nil => intro _; exact ⟨rfl, Nat.zero_le _⟩
      | cons d l il =>
        intro h
        rw [List.all_cons, Bool.and_eq_true] at h
        obtain ⟨a, b⟩ := ih d h.1
        obtain ⟨a2, b2⟩ := il h.2
        refine ⟨?_, ?_⟩
        · show (PyData.canLay0 d.py && PyData.canLayAll0 (Dat.pys l)) = true
          rw [a, a2]; rfl
        · show max (PyData.depth d.py) (PyData.depthAll (Dat.pys l)) ≤ n
          omega
    intro d h
    cases d with
    | lst l =>
      obtain ⟨a, b⟩ := key l h
      exact ⟨a, Nat.succ_le_succ b⟩
    | tup l =>
      obtain ⟨a, b⟩ := key l h
      exact ⟨a, Nat.succ_le_succ b⟩
    | non => exact ⟨rfl, Nat.zero_le _⟩
    | int i => exact ⟨rfl, Nat.zero_le _⟩
    | str s => exact ⟨h, Nat.zero_le _⟩
    | bl b => cases h
    | dct l => cases h
theorem okd_shaped {n : Nat} {d : Dat} (h : okd n d = true) (hn : n ≤ 64) : SeqAt.shaped d.py = true := by
  obtain ⟨a, b⟩ := okd_lay n d h
  exact Bool.and_eq_true_iff.mpr ⟨a, decide_eq_true (by omega)⟩
theorem okd_eqv : ∀ n d e, okd n d = true → okd n e = true → (PyData.eqv d.py e.py = true ↔ d = e) := by
  intro n
  induction n with
  | zero => intro d e h g; cases d <;> cases e <;> simp [okd] at h g <;> simp [Dat.py, PyData.eqv]
  | succ n ih =>
    have key : ∀ l m : List Dat, l.all (okd n) = true → m.all (okd n) = true → (PyData.eqvAll (Dat.pys l) (Dat.pys m) = true ↔ l = m) := by
      intro l
      induction l with
      | nil => intro m _ _; cases m <;> simp [Dat.pys, PyData.eqvAll]
      | cons d l il =>
        intro m h g
        cases m with
        | nil => simp [Dat.pys, PyData.eqvAll]
        | cons e m =>
          rw [List.all_cons, Bool.and_eq_true] at h g
          have i1 := ih d e h.1 g.1
          have i2 := il m h.2 g.2
          show (PyData.eqv d.py e.py && PyData.eqvAll (Dat.pys l) (Dat.pys m)) = true ↔ _
          rw [Bool.and_eq_true, i1, i2]
          constructor
          · rintro ⟨rfl, rfl⟩; rfl
          · intro z; cases z; exact ⟨rfl, rfl⟩
    intro d e h g
    cases d with
    | lst l => cases e with
      | lst m =>
        have := key l m h g
        show PyData.eqvAll (Dat.pys l) (Dat.pys m) = true ↔ _
        rw [this]
        constructor
        · rintro rfl; rfl
        · intro z; cases z; rfl
      | bl b => cases g
      | dct b => cases g
      | _ => simp [Dat.py, PyData.eqv]
    | tup l => cases e with
      | tup m =>
        have := key l m h g
        show PyData.eqvAll (Dat.pys l) (Dat.pys m) = true ↔ _
        rw [this]
        constructor
        · rintro rfl; rfl
        · intro z; cases z; rfl
      | bl b => cases g
      | dct b => cases g
      | _ => simp [Dat.py, PyData.eqv]
    | bl b => cases h
    | dct b => cases h
    | non => cases e with
      | bl b => cases g
      | dct b => cases g
      | _ => simp [Dat.py, PyData.eqv]
    | int i => cases e with
      | bl b => cases g
      | dct b => cases g
      | _ => simp [Dat.py, PyData.eqv]
    | str i => cases e with
      | bl b => cases g
      | dct b => cases g
      | _ => simp [Dat.py, PyData.eqv]
theorem okd_dp {K : PySem.W.Frag} {H : Hp} : ∀ n v d fp, Tr H v d fp → okd n d = true → Dp K H v d.py := by
  intro n
  induction n with
  | zero =>
    intro v d fp t h
    cases t with
    | non => exact .non
    | bl b => exact .bl b
    | int i => exact .int i
    | str s => exact .str s
    | lst e t => cases h
    | tup e t => cases h
    | dct e q t => cases h
  | succ n ih =>
    have key : ∀ (l : List Dat) (vs : List V) (fp : List Addr), Trs H vs l fp → l.all (okd n) = true → DpAll K H vs (Dat.pys l) := by
      intro l
      induction l with
      | nil => intro vs fp t _; cases t; exact .nil
      | cons d l il =>
        intro vs fp t h
        rw [List.all_cons, Bool.and_eq_true] at h
        cases t with
        | cons a t => exact .cons (ih _ _ _ a h.1) (il _ _ t h.2)
    intro v d fp t h
    cases t with
    | non => exact .non
    | bl b => exact .bl b
    | int i => exact .int i
    | str s => exact .str s
    | lst e t => exact .lst (SqL.of e) (key _ _ _ t h)
    | tup e t => exact .tup (.inl (.inl e)) (key _ _ _ t h)
    | dct e q t => cases h
/-- a == b, what both stand for known -/
theorem eqD_rep {K : PySem.W.Frag} {H : Hp} {x y : V} {d e : Dat} {Q : VK} (n : Nat) (hx : Rep H x d) (hy : Rep H y e) (hd : okd n d = true) (he : okd n e = true) (hn : n ≤ 64) (q : ∀ b : Bool, (b = true ↔ d = e) → Q (.bl b) H) : rEqD K x y H Q := by
  obtain ⟨fp, t⟩ := hx
  obtain ⟨gp, u⟩ := hy
  exact ⟨_, _, okd_dp n _ _ _ t hd, okd_dp n _ _ _ u he, okd_shaped hd hn, okd_shaped he hn, q _ (okd_eqv n d e hd he)⟩
theorem neD_rep {K : PySem.W.Frag} {H : Hp} {x y : V} {d e : Dat} {Q : VK} (n : Nat) (hx : Rep H x d) (hy : Rep H y e) (hd : okd n d = true) (he : okd n e = true) (hn : n ≤ 64) (q : ∀ b : Bool, (b = true ↔ d ≠ e) → Q (.bl b) H) : rNeD K x y H Q := by
  obtain ⟨fp, t⟩ := hx
  obtain ⟨gp, u⟩ := hy
  refine ⟨_, _, okd_dp n _ _ _ t hd, okd_dp n _ _ _ u he, okd_shaped hd hn, okd_shaped he hn, q _ ?_⟩
  have k := okd_eqv n d e hd he
  cases c : PyData.eqv d.py e.py with
  | true => rw [c] at k; simp [k.mp rfl]
  | false => rw [c] at k; simp; exact fun z => absurd (k.mpr z) (by simp)
theorem okd_I (n : Nat) (xs : List Int) : okd (n + 1) (dI xs) = true := by
  show (xs.map Dat.int).all (okd n) = true
  rw [List.all_map]
  refine List.all_eq_true.mpr fun x _ => ?_
  cases n <;> rfl
theorem okd_T (n : Nat) (T : List (List Int)) : okd (n + 2) (dT T) = true := by
  show (T.map dI).all (okd (n + 1)) = true
  rw [List.all_map]
  exact List.all_eq_true.mpr fun x _ => okd_I n x
theorem okd_l {n : Nat} {α : Type} (f : α → Dat) (l : List α) (h : ∀ x ∈ l, okd n (f x) = true) : okd (n + 1) (.lst (l.map f)) = true := by
  show (l.map f).all (okd n) = true
  rw [List.all_map]
  exact List.all_eq_true.mpr h
theorem dI_inj {xs ys : List Int} (h : dI xs = dI ys) : xs = ys := by
  injection h with h
  exact (List.map_inj_right fun _ _ z => Dat.int.inj z).mp h
theorem dT_inj {xs ys : List (List Int)} (h : dT xs = dT ys) : xs = ys := by
  injection h with h
  exact (List.map_inj_right fun _ _ z => dI_inj z).mp h
theorem Rep.nil {H : Hp} {a : Addr} (h : H a = some (.lst [])) : Rep H (.ref a) (.lst []) := ⟨_, .lst h .nil⟩
end Mx

set_option Elab.async false
set_option linter.all false
set_option maxRecDepth 100000
set_option maxHeartbeats 4000000
namespace Mx
open PySem PySem.Spec PyProof.Rows L2
/-! ### a promise that is never asked for: the end of a recursion -/
def spF : Sp := fun _ _ _ _ => False
theorem FnOk.never {P : Program} {w : World} {K : PySem.W.Frag} {mg : Str → Option Value} {base : Heap} {k : Nat} {f : Addr} {fd : FuncData} {ps : List Str} : FnOk P w K mg base (L2.CX P w) k f fd ps spF :=
  ⟨fun _ _ _ _ h => h.elim, fun _ _ _ _ _ _ _ _ _ _ _ _ _ h => h.elim⟩
/-! ### a heap without some of its objects -/
def off (S : List Addr) (H : Hp) : Hp := fun b => if b ∈ S then none else H b
theorem off_at {S : List Addr} {H : Hp} {b : Addr} {x : HO} (n : b ∉ S) (h : H b = some x) : off S H b = some x := by unfold off; rw [if_neg n]; exact h
theorem off_some {S : List Addr} {H : Hp} {b : Addr} {x : HO} (h : off S H b = some x) : b ∉ S ∧ H b = some x := by
  unfold off at h
  by_cases z : b ∈ S
  · rw [if_pos z] at h; cases h
  · rw [if_neg z] at h; exact ⟨z, h⟩
theorem off_none {S : List Addr} {H : Hp} {b : Addr} (h : H b = none) : off S H b = none := by
  unfold off; split
  · rfl
  · exact h
theorem off_free {S : List Addr} {H : Hp} {b : Addr} (h : off S H b = none) (n : b ∉ S) : H b = none := by
  unfold off at h; rw [if_neg n] at h; exact h
theorem off_in {S : List Addr} {H : Hp} : Same (off S H) H := fun _ _ e => (off_some e).2
theorem off_same {S : List Addr} {H H' : Hp} (s : Same H H') : Same (off S H) (off S H') := fun b x e => off_at (off_some e).1 (s b x (off_some e).2)
theorem off_upd {S : List Addr} {H : Hp} {a : Addr} {x : HO} (h : a ∈ S) : off S (upd H a x) = off S H := by
  funext b
  unfold off
  by_cases z : b ∈ S
  · rw [if_pos z, if_pos z]
  · rw [if_neg z, if_neg z, upd_ne (fun e => z (by rw [e]; exact h))]
theorem off_updN {S : List Addr} {H : Hp} {a : Addr} {x : HO} (h : a ∉ S) : off S (upd H a x) = upd (off S H) a x := by
  funext b
  by_cases e : b = a
  · subst e
    rw [upd_same]
    exact off_at h upd_same
  · rw [upd_ne e]
    unfold off
    rw [upd_ne e]
theorem same_off {S : List Addr} {H0 H : Hp} (s : Same H0 H) (f : ∀ b ∈ S, H0 b = none) : Same H0 (off S H) := fun b x e => off_at (fun z => by rw [f b z] at e; cases e) (s b x e)
theorem New.off {S : List Addr} {H0 H : Hp} {v : V} {d : Dat} (n : New H0 H v d) (f : ∀ b ∈ S, ∃ o, H0 b = some o) : New H0 (off S H) v d := by
  obtain ⟨fp, t, nd, fr⟩ := n
  refine ⟨fp, t.mono fun b hb o e => off_at (fun z => ?_) e, nd, fr⟩
  obtain ⟨o, ho⟩ := f b z
  rw [fr b hb] at ho; cases ho
theorem New.fewer {H0 H1 H : Hp} {v : V} {d : Dat} (n : New H1 H v d) (e : ∀ b, H1 b = none → (∃ o, H b = some o) → H0 b = none) : New H0 H v d := by
  obtain ⟨fp, t, nd, fr⟩ := n
  exact ⟨fp, t, nd, fun b hb => e b (fr b hb) (t.dom b hb)⟩
/-- what is new off some things, is new -/
theorem New.on {S : List Addr} {H0 H : Hp} {v : V} {d : Dat} (n : New (Mx.off S H0) (Mx.off S H) v d) : New H0 H v d := by
  obtain ⟨fp, t, nd, fr⟩ := n
  exact ⟨fp, t.mono fun b hb o e => off_in b o e, nd, fun b hb => off_free (fr b hb) (fun z => by
    obtain ⟨o, ho⟩ := t.dom b hb
    exact (off_some ho).1 z)⟩
/-- the lists of what is told, by their footprints: nothing else is asked of them -/
theorem ds_of {α : Type} (f : α → Dat) (R : α → Prop) : ∀ (ds : List Dat), (∀ d ∈ ds, ∃ x, d = f x ∧ R x) → ∃ xs : List α, ds = xs.map f ∧ ∀ x ∈ xs, R x
  | [], _ => ⟨[], rfl, fun x h => by cases h⟩
  | d :: ds, h => by
    obtain ⟨x, rfl, hx⟩ := h d List.mem_cons_self
    obtain ⟨xs, rfl, hxs⟩ := ds_of f R ds fun d hd => h d (List.mem_cons_of_mem _ hd)
    exact ⟨x :: xs, rfl, fun y hy => by
      rcases List.mem_cons.mp hy with rfl | hy
      · exact hx
      · exact hxs y hy⟩
/-! ### a comprehension whose turns change one thing -/
section
variable {J : It} {n : Nat} {G : Hp → Prop} {σ : L2.St} {H : Hp}
theorem lcS {Y : Nat → Hp → V → Hp → Prop} {te : TE} {vs : List Nat} {Q : Addr → Hp → Prop} {g : TG} (w : Walk J n G Y) (a : Addr) (S : Nat → Hp → Prop) (P : Nat → Dat → Prop)
    (hS : ∀ i H1 H2, (∀ x, H1 a = some x → H2 a = some x) → S i H1 → S i H2) (h0 : S 0 H) (ha : ∃ x, H a = some x) (hn : n < sizeLine)
    (hG : ∀ H', Same (off [a] H) (off [a] H') → G H')
    (hs : ∀ i x H1 H' (F : VK), i < n → Same (off [a] H) (off [a] H1) → S i H1 → Y i H1 x H' →
      (∀ v H4 d, P i d → Same (off [a] H1) (off [a] H4) → S (i + 1) H4 → New (off [a] H1) (off [a] H4) v d → F v H4) →
      g x (wipe σ vs) H' fun σ2 H2 => wipe σ2 vs = wipe σ vs ∧ te σ2 H2 F)
    (hq : ∀ p H' ds, Same (off [a] H) (off [a] H') → S n H' → ds.length = n → (∀ i d, ds[i]? = some d → P i d) → New (off [a] H) (off [a] H') (.ref p) (.lst ds) → Q p H') : LcGoal J g tYes te vs σ H Q := by
  intro D hD
  have hDa : D ≠ a := fun z => by
    obtain ⟨x, hx⟩ := ha
    rw [← z, hD] at hx; cases hx
  have hDS : D ∉ [a] := fun z => hDa (List.mem_singleton.mp z)
  have hoD : off [a] H D = none := off_none hD
  have keep : ∀ (H4 : Hp) (o : HO) (x : HO), H4 a = some x → upd H4 D o a = some x := fun H4 o x e => upd_atN hDa.symm e
  refine lc_it w (fun i H' => Same (off [a] H) (off [a] H') ∧ S i H' ∧ ∃ ys ds, AccL (off [a] H) (off [a] H') D ys ds ∧ ds.length = i ∧ ∀ j d, ds[j]? = some d → P j d)
    ⟨off_same (same_new hD), hS _ _ _ (keep H _) h0, [], [], by rw [off_updN hDS]; exact AccL.start hoD, rfl, fun j d e => by simp at e⟩ (fun i H' _ h => hG H' h.1) ?_ (fun H' h => ?_)
  · rintro i x H1 H' hi ⟨e1, s1, ys, ds, ac, hl, hp⟩ y
    have hl2 : ys.length < sizeLine := by rw [ac.len, hl]; exact Nat.lt_trans hi hn
    refine hs i x H1 H' _ hi e1 s1 y fun v H4 d pd e4 s4 nv => ⟨ys, off_in _ _ (e4 _ _ ac.at_), hl2, ?_, hS _ _ _ (keep H4 _) s4, ys ++ [v], ds ++ [d], ?_, by rw [List.length_append, hl]; rfl, fun j u e => ?_⟩
    · rw [off_updN hDS]
      exact same_mut (e1.trans e4) hoD
    · rw [off_updN hDS]
      exact ac.push e4 e1 nv
    · by_cases hj : j < ds.length
      · rw [List.getElem?_append_left hj] at e
        exact hp j u e
      · have hj2 : j = i := by
          have := (List.getElem?_eq_some_iff.mp e).1
          rw [List.length_append] at this
          have : [d].length = 1 := rfl
          omega
        subst hj2
        rw [← hl, List.getElem?_concat_length] at e
        cases e
        exact pd
  · obtain ⟨e1, s1, ys, ds, ac, hl, hp⟩ := h
    exact hq D H' ds e1 s1 hl hp ac.toNew
end
/-- list + list, the first one perhaps the law's own -/
def rCatL (K : PySem.W.Frag) : R2 := fun x y H Q => ∃ l b xs zs, x = .ref l ∧ y = .ref b ∧ SqL K H l xs ∧ H b = some (.lst zs) ∧ xs.length + zs.length ≤ sizeLine ∧ ∀ p, H p = none → Q (.ref p) (upd H p (.lst (xs ++ zs)))
theorem op_catL {X : Cx} : OpR X (binaryOp .Add) (rCatL X.K) := by
  intro pins s σ H x y v u Q I rx ry h
  obtain ⟨l, b, xs, zs, rfl, rfl, hS, hB, hz, q⟩ := h
  cases rx
  cases ry
  obtain ⟨its, r, ⟨⟨cls, dd, data, sl⟩, n, ho, hc, hd, hdt⟩, _⟩ := I.list hS
  simp only at hc hd hdt
  subst hc hd hdt
  obtain ⟨z2, its2, n2, r2, hl2, e2⟩ := I.lstM hB
  have hl := r.length
  have ea : its.toArray ++ its2.toArray = (its ++ its2).toArray := by simp
  refine concat_meets ⟨_, ho, rfl⟩ ⟨_, e2, rfl⟩ noFill_list_add seq_list_add PySem.F.slot_list_add PySem.F.entry_list_add (PySem.F.args_list_add_2 _ _) (list_addW l b its.toArray its2.toArray n n2 none none sl #[] (by rw [List.size_toArray, List.size_toArray]; omega)) ⟨ho, e2, ?_⟩
  rw [ea]
  exact ⟨.ref _, _, I.lnew (t' := s.toks) (r.append r2) (by rw [List.length_append]; omega), rfl, q _ I.fresh⟩
end Mx

set_option Elab.async false
set_option maxRecDepth 100000
set_option maxHeartbeats 4000000
namespace Tb
/-! tables: plain mathematics -/
/-- alike by a prime -/
def Me (p a b : Int) : Prop := p ∣ a - b
theorem Me.refl {p a : Int} : Me p a a := ⟨0, by omega⟩
theorem Me.of {p a b : Int} (h : a = b) : Me p a b := by rw [h]; exact Me.refl
theorem Me.symm {p a b : Int} (h : Me p a b) : Me p b a := by obtain ⟨k, hk⟩ := h; exact ⟨-k, by rw [Int.mul_neg]; omega⟩
theorem Me.trans {p a b c : Int} (h : Me p a b) (g : Me p b c) : Me p a c := by
  have := Int.dvd_add h g
  have e : a - b + (b - c) = a - c := by omega
  unfold Me; rw [← e]; exact this
theorem Me.add {p a b c d : Int} (h : Me p a b) (g : Me p c d) : Me p (a + c) (b + d) := by
  have := Int.dvd_add h g
  have e : a - b + (c - d) = (a + c) - (b + d) := by omega
  unfold Me; rw [← e]; exact this
theorem Me.sub {p a b c d : Int} (h : Me p a b) (g : Me p c d) : Me p (a - c) (b - d) := by
  have := Int.dvd_sub h g
  have e : a - b - (c - d) = (a - c) - (b - d) := by omega
  unfold Me; rw [← e]; exact this
theorem Me.mul {p a b c d : Int} (h : Me p a b) (g : Me p c d) : Me p (a * c) (b * d) := by
  have h1 := Int.dvd_mul_of_dvd_left (c := c) h
  have h2 := Int.dvd_mul_of_dvd_right (b := b) g
  have := Int.dvd_add h1 h2
  have e : (a - b) * c + b * (c - d) = a * c - b * d := by rw [Int.sub_mul, Int.mul_sub]; omega
  unfold Me; rw [← e]; exact this
theorem Me.mod {p a : Int} : Me p (a % p) a := ⟨-(a / p), by have := Int.mul_ediv_add_emod a p; rw [Int.mul_neg]; omega⟩
theorem Me.emod {p a b : Int} (h : Me p a b) : a % p = b % p := Int.emod_eq_emod_iff_emod_sub_eq_zero.mpr (Int.emod_eq_zero_of_dvd h)
theorem Me.of_emod {p a b : Int} (h : a % p = b % p) : Me p a b := Int.dvd_of_emod_eq_zero (Int.emod_eq_emod_iff_emod_sub_eq_zero.mp h)
theorem Me.zero {p a : Int} : Me p a 0 ↔ a % p = 0 := by
  unfold Me; rw [Int.sub_zero]; exact ⟨Int.emod_eq_zero_of_dvd, Int.dvd_of_emod_eq_zero⟩
theorem Me.eq {p a b : Int} (h : Me p a b) (a0 : 0 ≤ a) (a1 : a < p) (b0 : 0 ≤ b) (b1 : b < p) : a = b := by
  have := h.emod
  rwa [Int.emod_eq_of_lt a0 a1, Int.emod_eq_of_lt b0 b1] at this
theorem mod_range {p : Int} (hp : 0 < p) (a : Int) : 0 ≤ a % p ∧ a % p < p := ⟨Int.emod_nonneg a (by omega), Int.emod_lt_of_pos a hp⟩

/-! ### sums over two rows -/
def dot : List Int → List Int → Int
  | x :: xs, y :: ys => x * y + dot xs ys
  | _, _ => 0
theorem dot_nil (xs : List Int) : dot xs [] = 0 := by cases xs <;> rfl
theorem dot_take : ∀ {xs ys : List Int} {i : Nat} {x y : Int}, xs[i]? = some x → ys[i]? = some y → dot (xs.take (i + 1)) (ys.take (i + 1)) = dot (xs.take i) (ys.take i) + x * y
  | [], _, _, _, _, h, _ => by simp at h
  | _ :: _, [], _, _, _, _, h => by simp at h
  | a :: xs, b :: ys, 0, x, y, h1, h2 => by
    have e1 : a = x := Option.some.inj h1
    have e2 : b = y := Option.some.inj h2
    subst e1 e2
    show a * b + dot (xs.take 0) (ys.take 0) = dot [] [] + a * b
    simp [dot]
  | a :: xs, b :: ys, i + 1, x, y, h1, h2 => by
    have ih := dot_take (xs := xs) (ys := ys) (i := i) (x := x) (y := y) h1 h2
    show a * b + dot (xs.take (i + 1)) (ys.take (i + 1)) = a * b + dot (xs.take i) (ys.take i) + x * y
    rw [ih]; omega
theorem dot_min : ∀ (xs ys : List Int), dot (xs.take (min xs.length ys.length)) (ys.take (min xs.length ys.length)) = dot xs ys
  | [], ys => by simp [dot]
  | x :: xs, [] => by simp [dot]
  | x :: xs, y :: ys => by
    have ih := dot_min xs ys
    have e : min (x :: xs).length (y :: ys).length = min xs.length ys.length + 1 := by simp only [List.length_cons]; omega
    rw [e]
    show x * y + dot (xs.take _) (ys.take _) = x * y + dot xs ys
    rw [ih]
theorem dot_comm : ∀ xs ys : List Int, dot xs ys = dot ys xs
  | [], ys => by rw [dot_nil]; rfl
  | x :: xs, [] => rfl
  | x :: xs, y :: ys => by show x * y + _ = y * x + _; rw [dot_comm xs ys, Int.mul_comm]
theorem dot_me {p : Int} : ∀ {xs ys zs : List Int}, xs.length = ys.length → (∀ i, Me p (xs.getD i 0) (ys.getD i 0)) → Me p (dot xs zs) (dot ys zs)
  | [], [], _, _, _ => Me.refl
  | x :: xs, y :: ys, [], _, _ => Me.refl
  | x :: xs, y :: ys, z :: zs, h, k => by
    have k0 := k 0
    exact Me.add (Me.mul (by simpa using k0) Me.refl) (dot_me (by simpa using h) fun i => by simpa using k (i + 1))
  | [], _ :: _, _, h, _ => by simp at h
  | _ :: _, [], _, h, _ => by simp at h
/-- a row less so many times another -/
def lessR (p m : Int) : List Int → List Int → List Int
  | x :: xs, y :: ys => (x - m * y % p) % p :: lessR p m xs ys
  | _, _ => []
theorem lessR_len {p m : Int} : ∀ {xs ys : List Int}, xs.length = ys.length → (lessR p m xs ys).length = xs.length
  | [], [], _ => rfl
  | x :: xs, y :: ys, h => by show (lessR p m xs ys).length + 1 = _; rw [lessR_len (by simpa using h)]; rfl
  | [], _ :: _, h => by simp at h
  | _ :: _, [], h => by simp at h
theorem lessR_get {p m : Int} : ∀ {xs ys : List Int} (i : Nat), xs.length = ys.length → Me p ((lessR p m xs ys).getD i 0) (xs.getD i 0 - m * ys.getD i 0)
  | [], [], i, _ => by simp [lessR]; exact Me.refl
  | x :: xs, y :: ys, 0, _ => by
    show Me p ((x - m * y % p) % p) (x - m * y)
    exact Me.mod.trans (Me.sub Me.refl Me.mod)
  | x :: xs, y :: ys, i + 1, h => by simpa [lessR] using lessR_get (p := p) (m := m) (xs := xs) (ys := ys) i (by simpa using h)
  | [], _ :: _, _, h => by simp at h
  | _ :: _, [], _, h => by simp at h
theorem lessR_range {p m : Int} (hp : 0 < p) : ∀ {xs ys : List Int}, ∀ x ∈ lessR p m xs ys, 0 ≤ x ∧ x < p
  | [], _, x, h => by simp [lessR] at h
  | _ :: _, [], x, h => by simp [lessR] at h
  | a :: xs, b :: ys, x, h => by
    rcases List.mem_cons.mp h with rfl | h
    · exact mod_range hp _
    · exact lessR_range hp (xs := xs) (ys := ys) x h
theorem dot_less {p m : Int} : ∀ {xs ys zs : List Int}, xs.length = ys.length → Me p (dot (lessR p m xs ys) zs) (dot xs zs - m * dot ys zs)
  | [], [], zs, _ => by show Me p 0 (0 - m * 0); simp; exact Me.refl
  | x :: xs, y :: ys, [], _ => by show Me p 0 (0 - m * 0); simp; exact Me.refl
  | x :: xs, y :: ys, z :: zs, h => by
    have ih := dot_less (p := p) (m := m) (xs := xs) (ys := ys) (zs := zs) (by simpa using h)
    show Me p ((x - m * y % p) % p * z + dot (lessR p m xs ys) zs) ((x * z + dot xs zs) - m * (y * z + dot ys zs))
    have e : (x * z + dot xs zs) - m * (y * z + dot ys zs) = (x - m * y) * z + (dot xs zs - m * dot ys zs) := by
      rw [Int.mul_add, Int.sub_mul, Int.mul_assoc]; omega
    rw [e]
    exact Me.add (Me.mul (Me.mod.trans (Me.sub Me.refl Me.mod)) Me.refl) ih
  | [], _ :: _, _, h => by simp at h
  | _ :: _, [], _, h => by simp at h
/-- a row so many times -/
def scaleR (p b : Int) (xs : List Int) : List Int := xs.map fun x => b * x % p
theorem scaleR_get {p b : Int} {xs : List Int} (i : Nat) : Me p ((scaleR p b xs).getD i 0) (b * xs.getD i 0) := by
  unfold scaleR
  rw [List.getD_eq_getElem?_getD, List.getD_eq_getElem?_getD, List.getElem?_map]
  cases xs[i]? with
  | none => simp; exact Me.refl
  | some x => simp; exact Me.mod
theorem dot_scale {p b : Int} : ∀ {xs zs : List Int}, Me p (dot (scaleR p b xs) zs) (b * dot xs zs)
  | [], zs => by show Me p 0 (b * 0); simp; exact Me.refl
  | x :: xs, [] => by show Me p 0 (b * 0); simp; exact Me.refl
  | x :: xs, z :: zs => by
    have ih := dot_scale (p := p) (b := b) (xs := xs) (zs := zs)
    show Me p (b * x % p * z + dot (scaleR p b xs) zs) (b * (x * z + dot xs zs))
    rw [Int.mul_add, ← Int.mul_assoc]
    exact Me.add (Me.mul Me.mod Me.refl) ih

/-! ### tables -/
abbrev g2 (L : List (List Int)) (k j : Nat) : Int := (L.getD k []).getD j 0
def col (T : List (List Int)) (j : Nat) : List Int := T.map fun r => r.getD j 0
def unitR (n k : Nat) : List Int := (List.range n).map fun j => if j = k then 1 else 0
def onesT (n : Nat) : List (List Int) := (List.range n).map fun k => (List.range n).map fun j => if k = j then 1 else 0
def mulT (p : Int) (A B : List (List Int)) : List (List Int) := A.map fun line => (List.range (B.headD []).length).map fun k => dot line (col B k) % p
structure Sh (p : Int) (n w : Nat) (L : List (List Int)) : Prop where
  len : L.length = n
  row : ∀ r ∈ L, r.length = w ∧ ∀ x ∈ r, 0 ≤ x ∧ x < p
theorem Sh.get {p : Int} {n w : Nat} {L : List (List Int)} (s : Sh p n w L) {k : Nat} (h : k < n) : (L.getD k []) ∈ L := by
  rw [List.getD_eq_getElem?_getD, List.getElem?_eq_getElem (by rw [s.len]; exact h)]
  exact List.getElem_mem _
theorem Sh.rlen {p : Int} {n w : Nat} {L : List (List Int)} (s : Sh p n w L) {k : Nat} (h : k < n) : (L.getD k []).length = w := (s.row _ (s.get h)).1
theorem getD_mem {xs : List Int} {j : Nat} (h : j < xs.length) : xs.getD j 0 ∈ xs := by
  rw [List.getD_eq_getElem?_getD, List.getElem?_eq_getElem h]
  exact List.getElem_mem _
theorem Sh.rng {p : Int} {n w : Nat} {L : List (List Int)} (s : Sh p n w L) {k j : Nat} (h : k < n) (hj : j < w) : 0 ≤ g2 L k j ∧ g2 L k j < p :=
  (s.row _ (s.get h)).2 _ (getD_mem (by rw [s.rlen h]; exact hj))
/-- the cleared table so far -/
structure Cl where
  lines : List (List Int)
  made : List (List Int)
  places : List Nat
def firstW (lines : List (List Int)) (done place : Nat) : Option Nat := ((List.range lines.length).drop done).find? fun k => decide (g2 lines k place ≠ 0)
def swapL (L : List (List Int)) (i j : Nat) : List (List Int) := (L.set i (L.getD j [])).set j (L.getD i [])
/-- all rows but the one at done less what they have at the place -/
def others (p : Int) (done place : Nat) (ref L : List (List Int)) : List (List Int) :=
  (List.range L.length).map fun k => if k ≠ done ∧ g2 ref k place ≠ 0 then lessR p (g2 ref k place) (L.getD k []) (L.getD done []) else L.getD k []
def clearAt (p : Int) (bk : Int → Int) (s : Cl) (place : Nat) : Cl :=
  match firstW s.lines s.places.length place with
  | none => s
  | some k =>
    let d := s.places.length
    let l1 := swapL s.lines d k
    let m1 := swapL s.made d k
    let b := bk (g2 l1 d place)
    let l2 := l1.set d (scaleR p b (l1.getD d []))
    let m2 := m1.set d (scaleR p b (m1.getD d []))
    ⟨others p d place l2 l2, others p d place l2 m2, s.places ++ [place]⟩
def cleared (p : Int) (bk : Int → Int) (T : List (List Int)) (w : Nat) : Cl := (List.range w).foldl (clearAt p bk) ⟨T, onesT T.length, []⟩
theorem getD_set {L : List (List Int)} {i k : Nat} {r : List Int} (h : i < L.length) : (L.set i r).getD k [] = if k = i then r else L.getD k [] := by
  rw [List.getD_eq_getElem?_getD, List.getElem?_set]
  by_cases e : i = k
  · subst e; simp [h]
  · rw [if_neg e, if_neg (fun z => e z.symm), List.getD_eq_getElem?_getD]
theorem swap_get {L : List (List Int)} {i j k : Nat} (hi : i < L.length) (hj : j < L.length) : (swapL L i j).getD k [] = if k = j then L.getD i [] else if k = i then L.getD j [] else L.getD k [] := by
  unfold swapL
  rw [getD_set (by rw [List.length_set]; exact hj), getD_set hi]
theorem swap_len {L : List (List Int)} {i j : Nat} : (swapL L i j).length = L.length := by unfold swapL; rw [List.length_set, List.length_set]
theorem others_get {p : Int} {d pl k : Nat} {R L : List (List Int)} (hk : k < L.length) : (others p d pl R L).getD k [] = if k ≠ d ∧ g2 R k pl ≠ 0 then lessR p (g2 R k pl) (L.getD k []) (L.getD d []) else L.getD k [] := by
  unfold others
  rw [List.getD_eq_getElem?_getD, List.getElem?_map, List.getElem?_range hk]
  rfl
theorem others_len {p : Int} {d pl : Nat} {R L : List (List Int)} : (others p d pl R L).length = L.length := by unfold others; rw [List.length_map, List.length_range]
/-- what holds behind the places below j -/
structure Ok (p : Int) (n w : Nat) (T : List (List Int)) (s : Cl) (j : Nat) : Prop where
  shL : Sh p n w s.lines
  shM : Sh p n n s.made
  comb : ∀ k, k < n → ∀ c, c < w → Me p (g2 s.lines k c) (dot (s.made.getD k []) (col T c))
  ker : ∀ x : List Int, x.length = w → (∀ k, k < n → Me p (dot (s.lines.getD k []) x) 0) → ∀ k, k < n → Me p (dot (T.getD k []) x) 0
  pl : ∀ q ∈ s.places, q < j
  mono : s.places.Pairwise (· < ·)
  unit : ∀ t q, s.places[t]? = some q → ∀ k, k < n → g2 s.lines k q = if k = t then 1 else 0
  zero : ∀ k, s.places.length ≤ k → k < n → ∀ c, c < j → g2 s.lines k c = 0
  le : s.places.length ≤ n
theorem g2_nil {L : List (List Int)} {k j : Nat} (h : L.length ≤ k) : g2 L k j = 0 := by
  have e : L.getD k [] = [] := by rw [List.getD_eq_getElem?_getD, List.getElem?_eq_none h]; rfl
  show (L.getD k []).getD j 0 = 0
  rw [e]; rfl
theorem firstW_some {L : List (List Int)} {d pl k : Nat} (h : firstW L d pl = some k) : d ≤ k ∧ k < L.length ∧ g2 L k pl ≠ 0 := by
  have h1 := List.mem_of_find?_eq_some h
  have h2 := of_decide_eq_true (List.find?_some (p := fun k : Nat => decide (g2 L k pl ≠ 0)) h)
  obtain ⟨i, hi⟩ := List.getElem?_of_mem h1
  rw [List.getElem?_drop] at hi
  have hr := List.getElem?_eq_some_iff.mp hi
  obtain ⟨h3, h4⟩ := hr
  rw [List.getElem_range] at h4
  rw [List.length_range] at h3
  exact ⟨by omega, by omega, h2⟩
theorem firstW_none {L : List (List Int)} {d pl : Nat} (h : firstW L d pl = none) : ∀ k, d ≤ k → k < L.length → g2 L k pl = 0 := by
  intro k h1 h2
  have hm : k ∈ (List.range L.length).drop d := by
    apply List.mem_of_getElem? (i := k - d)
    rw [List.getElem?_drop, List.getElem?_range (by omega)]
    congr 1; omega
  have := List.find?_eq_none.mp h k hm
  simpa using this
theorem find_range {f : Nat → Bool} : ∀ (n d k : Nat), d ≤ k → k < n → f k = true → (∀ j, d ≤ j → j < k → f j = false) → ((List.range n).drop d).find? f = some k := by
  intro n d k h1 h2 hk hj
  have e : (List.range n).drop d = ((List.range n).drop d).take (k - d) ++ (k :: (List.range n).drop (k + 1)) := by
    have e1 : (List.range n).drop k = k :: (List.range n).drop (k + 1) := by
      rw [List.drop_eq_getElem_cons (by rw [List.length_range]; exact h2), List.getElem_range]
    have e2 : ((List.range n).drop d).drop (k - d) = (List.range n).drop k := by rw [List.drop_drop]; congr 1; omega
    rw [← e1, ← e2, List.take_append_drop]
  rw [e, List.find?_append]
  have e3 : (((List.range n).drop d).take (k - d)).find? f = none := by
    refine List.find?_eq_none.mpr fun x hx => ?_
    obtain ⟨i, hi⟩ := List.getElem?_of_mem hx
    have hlt : i < k - d := by
      by_cases z : i < k - d
      · exact z
      · rw [List.getElem?_take_eq_none (by omega)] at hi; cases hi
    rw [List.getElem?_take_of_lt hlt, List.getElem?_drop, List.getElem?_range (by omega)] at hi
    have := Option.some.inj hi
    rw [← this, hj _ (by omega) (by omega)]
    simp
  rw [e3]
  show (k :: _).find? f = some k
  rw [List.find?_cons_of_pos hk]
theorem firstW_is {L : List (List Int)} {d pl k : Nat} (h1 : d ≤ k) (h2 : k < L.length) (h3 : g2 L k pl ≠ 0) (h4 : ∀ j, d ≤ j → j < k → g2 L j pl = 0) : firstW L d pl = some k :=
  find_range L.length d k h1 h2 (decide_eq_true h3) fun j a b => decide_eq_false (fun z => z (h4 j a b))
theorem firstW_no {L : List (List Int)} {d pl : Nat} (h : ∀ j, d ≤ j → j < L.length → g2 L j pl = 0) : firstW L d pl = none := by
  refine List.find?_eq_none.mpr fun x hx => ?_
  obtain ⟨i, hi⟩ := List.getElem?_of_mem hx
  rw [List.getElem?_drop] at hi
  have hr := (List.getElem?_eq_some_iff.mp hi).1
  rw [List.length_range] at hr
  rw [List.getElem?_range hr] at hi
  have := Option.some.inj hi
  rw [← this]
  simpa using h (d + i) (by omega) hr
theorem lessR_eq {p m : Int} : ∀ (xs ys : List Int), (List.range (min xs.length ys.length)).map (fun i => (xs.getD i 0 - m * ys.getD i 0 % p) % p) = lessR p m xs ys
  | [], ys => by simp [lessR]
  | x :: xs, [] => by simp [lessR]
  | x :: xs, y :: ys => by
    have ih := lessR_eq (p := p) (m := m) xs ys
    have e : min (x :: xs).length (y :: ys).length = min xs.length ys.length + 1 := by simp only [List.length_cons]; omega
    rw [e, List.range_succ_eq_map, List.map_cons, List.map_map]
    show _ :: _ = (x - m * y % p) % p :: lessR p m xs ys
    rw [← ih]
    rfl
/-- the rows below i done -/
def othersTo (p : Int) (d pl : Nat) (ref L : List (List Int)) (i : Nat) : List (List Int) :=
  (List.range L.length).map fun k => if k < i ∧ k ≠ d ∧ g2 ref k pl ≠ 0 then lessR p (g2 ref k pl) (L.getD k []) (L.getD d []) else L.getD k []
theorem othersTo_len {p : Int} {d pl i : Nat} {R L : List (List Int)} : (othersTo p d pl R L i).length = L.length := by unfold othersTo; rw [List.length_map, List.length_range]
theorem othersTo_get {p : Int} {d pl k i : Nat} {R L : List (List Int)} (hk : k < L.length) : (othersTo p d pl R L i)[k]? = some (if k < i ∧ k ≠ d ∧ g2 R k pl ≠ 0 then lessR p (g2 R k pl) (L.getD k []) (L.getD d []) else L.getD k []) := by
  unfold othersTo
  rw [List.getElem?_map, List.getElem?_range hk]
  rfl
theorem at_getD {L : List (List Int)} {k : Nat} (h : k < L.length) : L[k]? = some (L.getD k []) := by
  rw [List.getD_eq_getElem?_getD, List.getElem?_eq_getElem h]; rfl
theorem othersTo_zero {p : Int} {d pl : Nat} {R L : List (List Int)} : othersTo p d pl R L 0 = L := by
  apply List.ext_getElem?
  intro k
  by_cases h : k < L.length
  · rw [othersTo_get h, if_neg (fun z => absurd z.1 (by omega)), at_getD h]
  · rw [List.getElem?_eq_none (by rw [othersTo_len]; omega), List.getElem?_eq_none (by omega)]
theorem othersTo_all {p : Int} {d pl n : Nat} {R L : List (List Int)} (h : n = L.length) : othersTo p d pl R L n = others p d pl R L := by
  subst h
  unfold othersTo others
  apply List.map_congr_left
  intro k hk
  have := List.mem_range.mp hk
  by_cases c : k ≠ d ∧ g2 R k pl ≠ 0
  · rw [if_pos c, if_pos ⟨this, c⟩]
  · rw [if_neg c, if_neg (fun z => c z.2)]
theorem othersTo_keep {p : Int} {d pl i : Nat} {R L : List (List Int)} (h : ¬ (i ≠ d ∧ g2 R i pl ≠ 0)) : othersTo p d pl R L (i + 1) = othersTo p d pl R L i := by
  unfold othersTo
  apply List.map_congr_left
  intro k _
  by_cases c : k < i ∧ k ≠ d ∧ g2 R k pl ≠ 0
  · rw [if_pos c, if_pos ⟨by omega, c.2⟩]
  · rw [if_neg c, if_neg]
    intro z
    by_cases e : k = i
    · exact h (e ▸ z.2)
    · exact c ⟨by omega, z.2⟩
theorem othersTo_set {p : Int} {d pl i : Nat} {R L : List (List Int)} (hi : i < L.length) (h : i ≠ d ∧ g2 R i pl ≠ 0) : othersTo p d pl R L (i + 1) = (othersTo p d pl R L i).set i (lessR p (g2 R i pl) (L.getD i []) (L.getD d [])) := by
  apply List.ext_getElem?
  intro k
  rw [List.getElem?_set, othersTo_len]
  by_cases hk : k < L.length
  · rw [othersTo_get hk, othersTo_get hk]
    by_cases e : i = k
    · subst e
      rw [if_pos rfl, if_pos hi, if_pos ⟨by omega, h⟩]
    · rw [if_neg e]
      by_cases c : k < i ∧ k ≠ d ∧ g2 R k pl ≠ 0
      · rw [if_pos c, if_pos ⟨by omega, c.2⟩]
      · rw [if_neg c, if_neg (fun z => c ⟨by omega, z.2⟩)]
  · rw [if_neg (by omega), List.getElem?_eq_none (by rw [othersTo_len]; omega), List.getElem?_eq_none (by rw [othersTo_len]; omega)]
theorem othersTo_self {p : Int} {d pl i : Nat} {R L : List (List Int)} (hi : i < L.length) : (othersTo p d pl R L i)[i]? = some (L.getD i []) := by
  rw [othersTo_get hi, if_neg (fun z => absurd z.1 (by omega))]
theorem othersTo_done {p : Int} {d pl i : Nat} {R L : List (List Int)} (hd : d < L.length) : (othersTo p d pl R L i)[d]? = some (L.getD d []) := by
  rw [othersTo_get hd, if_neg (fun z => z.2.1 rfl)]
theorem step_swap {p : Int} {n w j : Nat} {T : List (List Int)} {s : Cl} (o : Ok p n w T s j) {k0 : Nat} (h1 : s.places.length ≤ k0) (h2 : k0 < n) :
    Ok p n w T ⟨swapL s.lines s.places.length k0, swapL s.made s.places.length k0, s.places⟩ j := by
  have hd : s.places.length < n := by omega
  have lL := o.shL.len
  have lM := o.shM.len
  have gL : ∀ k, (swapL s.lines s.places.length k0).getD k [] = if k = k0 then s.lines.getD s.places.length [] else if k = s.places.length then s.lines.getD k0 [] else s.lines.getD k [] := fun k => swap_get (by omega) (by omega)
  have gM : ∀ k, (swapL s.made s.places.length k0).getD k [] = if k = k0 then s.made.getD s.places.length [] else if k = s.places.length then s.made.getD k0 [] else s.made.getD k [] := fun k => swap_get (by omega) (by omega)
  have sh : ∀ {w : Nat} {L : List (List Int)}, Sh p n w L → Sh p n w (swapL L s.places.length k0) := fun {w L} sL => by
    refine ⟨by rw [swap_len]; exact sL.len, fun r hr => ?_⟩
    unfold swapL at hr
    rcases List.mem_or_eq_of_mem_set hr with hr | rfl
    · rcases List.mem_or_eq_of_mem_set hr with hr | rfl
      · exact sL.row r hr
      · exact sL.row _ (sL.get h2)
    · exact sL.row _ (sL.get hd)
  refine ⟨sh o.shL, sh o.shM, ?_, ?_, o.pl, o.mono, ?_, ?_, o.le⟩
  · intro k hk c hc
    show Me p (((swapL s.lines s.places.length k0).getD k []).getD c 0) (dot ((swapL s.made s.places.length k0).getD k []) (col T c))
    rw [gL, gM]
    by_cases e : k = k0
    · rw [if_pos e, if_pos e]; exact o.comb _ hd c hc
    · rw [if_neg e, if_neg e]
      by_cases e2 : k = s.places.length
      · rw [if_pos e2, if_pos e2]; exact o.comb _ h2 c hc
      · rw [if_neg e2, if_neg e2]; exact o.comb _ hk c hc
  · intro x hx hz
    refine o.ker x hx fun k hk => ?_
    have hz : ∀ k, k < n → Me p (dot ((swapL s.lines s.places.length k0).getD k []) x) 0 := hz
    by_cases e : k = k0
    · have := hz s.places.length hd
      rw [gL] at this
      by_cases e2 : s.places.length = k0
      · rw [if_pos e2] at this; rw [e, ← e2]; exact this
      · rw [if_neg e2, if_pos rfl] at this; rw [e]; exact this
    · by_cases e2 : k = s.places.length
      · have := hz k0 h2
        rw [gL, if_pos rfl] at this
        rw [e2]; exact this
      · have := hz k hk
        rw [gL, if_neg e, if_neg e2] at this
        exact this
  · intro t q ht k hk
    have htl : t < s.places.length := (List.getElem?_eq_some_iff.mp ht).1
    show ((swapL s.lines s.places.length k0).getD k []).getD q 0 = _
    rw [gL]
    by_cases e : k = k0
    · rw [if_pos e, if_neg (by omega)]
      have := o.unit t q ht _ hd
      rw [if_neg (by omega)] at this
      exact this
    · rw [if_neg e]
      by_cases e2 : k = s.places.length
      · rw [if_pos e2, if_neg (by omega)]
        have := o.unit t q ht _ h2
        rw [if_neg (by omega)] at this
        exact this
      · rw [if_neg e2]; exact o.unit t q ht k hk
  · intro k hk1 hk c hc
    have hk1 : s.places.length ≤ k := hk1
    show ((swapL s.lines s.places.length k0).getD k []).getD c 0 = 0
    rw [gL]
    by_cases e : k = k0
    · rw [if_pos e]; exact o.zero _ (Nat.le_refl _) hd c hc
    · rw [if_neg e]
      by_cases e2 : k = s.places.length
      · rw [if_pos e2]; exact o.zero _ h1 h2 c hc
      · rw [if_neg e2]; exact o.zero _ hk1 hk c hc
theorem step_scale {p b v : Int} {n w j : Nat} {T : List (List Int)} {s : Cl} (hp : 0 < p) (o : Ok p n w T s j) (hd : s.places.length < n) (hv : Me p (b * v) 1) :
    Ok p n w T ⟨s.lines.set s.places.length (scaleR p b (s.lines.getD s.places.length [])), s.made.set s.places.length (scaleR p b (s.made.getD s.places.length [])), s.places⟩ j := by
  have lL := o.shL.len
  have lM := o.shM.len
  have gL : ∀ k, (s.lines.set s.places.length (scaleR p b (s.lines.getD s.places.length []))).getD k [] = if k = s.places.length then scaleR p b (s.lines.getD s.places.length []) else s.lines.getD k [] := fun k => getD_set (by omega)
  have gM : ∀ k, (s.made.set s.places.length (scaleR p b (s.made.getD s.places.length []))).getD k [] = if k = s.places.length then scaleR p b (s.made.getD s.places.length []) else s.made.getD k [] := fun k => getD_set (by omega)
  have sh : ∀ {w : Nat} {L : List (List Int)}, Sh p n w L → Sh p n w (L.set s.places.length (scaleR p b (L.getD s.places.length []))) := fun {w L} sL => by
    refine ⟨by rw [List.length_set]; exact sL.len, fun r hr => ?_⟩
    rcases List.mem_or_eq_of_mem_set hr with hr | rfl
    · exact sL.row r hr
    · refine ⟨by unfold scaleR; rw [List.length_map]; exact sL.rlen hd, fun x hx => ?_⟩
      unfold scaleR at hx
      obtain ⟨y, _, rfl⟩ := List.mem_map.mp hx
      exact mod_range hp _
  have shL' := sh o.shL
  refine ⟨shL', sh o.shM, ?_, ?_, o.pl, o.mono, ?_, ?_, o.le⟩
  · intro k hk c hc
    show Me p (((s.lines.set s.places.length (scaleR p b (s.lines.getD s.places.length []))).getD k []).getD c 0) (dot ((s.made.set s.places.length (scaleR p b (s.made.getD s.places.length []))).getD k []) (col T c))
    rw [gL, gM]
    by_cases e : k = s.places.length
    · rw [if_pos e, if_pos e]
      exact (scaleR_get c).trans ((Me.mul Me.refl (o.comb _ hd c hc)).trans dot_scale.symm)
    · rw [if_neg e, if_neg e]; exact o.comb k hk c hc
  · intro x hx hz
    refine o.ker x hx fun k hk => ?_
    have := hz k hk
    have this : Me p (dot ((s.lines.set s.places.length (scaleR p b (s.lines.getD s.places.length []))).getD k []) x) 0 := this
    rw [gL] at this
    by_cases e : k = s.places.length
    · rw [if_pos e] at this
      have t1 := dot_scale.symm.trans this
      have t2 : Me p (v * (b * dot (s.lines.getD s.places.length []) x)) (v * 0) := Me.mul Me.refl t1
      rw [Int.mul_zero, ← Int.mul_assoc, Int.mul_comm v b] at t2
      have t3 : Me p (b * v * dot (s.lines.getD s.places.length []) x) (1 * dot (s.lines.getD s.places.length []) x) := Me.mul hv Me.refl
      rw [Int.one_mul] at t3
      rw [e]
      exact t3.symm.trans t2
    · rw [if_neg e] at this; exact this
  · intro t q ht k hk
    have htl : t < s.places.length := (List.getElem?_eq_some_iff.mp ht).1
    show ((s.lines.set s.places.length (scaleR p b (s.lines.getD s.places.length []))).getD k []).getD q 0 = _
    by_cases e : k = s.places.length
    · have qw : q < w := by
        by_cases z : q < w
        · exact z
        · have := o.unit t q ht t (by omega)
          rw [if_pos rfl] at this
          unfold g2 at this
          rw [List.getD_eq_getElem?_getD (l := s.lines.getD t []), List.getElem?_eq_none (by rw [o.shL.rlen (by omega)]; omega)] at this
          simp at this
      have rg := shL'.rng hk qw
      have h1 : Me p (g2 (s.lines.set s.places.length (scaleR p b (s.lines.getD s.places.length []))) k q) (b * 0) := by
        have e0 := o.unit t q ht _ hd
        rw [if_neg (by omega)] at e0
        show Me p (((s.lines.set s.places.length (scaleR p b (s.lines.getD s.places.length []))).getD k []).getD q 0) (b * 0)
        rw [gL, if_pos e]
        have h := scaleR_get (p := p) (b := b) (xs := s.lines.getD s.places.length []) q
        rw [show (s.lines.getD s.places.length []).getD q 0 = 0 from e0] at h
        exact h
      rw [Int.mul_zero] at h1
      rw [if_neg (by omega)]
      exact h1.eq rg.1 rg.2 (Int.le_refl 0) hp
    · rw [gL, if_neg e]; exact o.unit t q ht k hk
  · intro k hk1 hk c hc
    show ((s.lines.set s.places.length (scaleR p b (s.lines.getD s.places.length []))).getD k []).getD c 0 = 0
    rw [gL]
    by_cases e : k = s.places.length
    · rw [if_pos e]
      have e0 := o.zero _ (Nat.le_refl _) hd c hc
      have h1 : Me p ((scaleR p b (s.lines.getD s.places.length [])).getD c 0) (b * 0) := by
        have h := scaleR_get (p := p) (b := b) (xs := s.lines.getD s.places.length []) c
        rw [show (s.lines.getD s.places.length []).getD c 0 = 0 from e0] at h
        exact h
      rw [Int.mul_zero] at h1
      by_cases hcw : c < (scaleR p b (s.lines.getD s.places.length [])).length
      · have hm := getD_mem hcw
        unfold scaleR at hm
        obtain ⟨y, _, hy⟩ := List.mem_map.mp hm
        have rg := mod_range hp (b * y)
        rw [hy] at rg
        exact h1.eq rg.1 rg.2 (Int.le_refl 0) hp
      · rw [List.getD_eq_getElem?_getD, List.getElem?_eq_none (by omega)]; rfl
    · rw [if_neg e]; exact o.zero k hk1 hk c hc
theorem step_less {p : Int} {n w j : Nat} {T : List (List Int)} {s : Cl} (hp : 1 < p) (o : Ok p n w T s j) (hd : s.places.length < n) (hj : j < w) (h1 : g2 s.lines s.places.length j = 1) :
    Ok p n w T ⟨others p s.places.length j s.lines s.lines, others p s.places.length j s.lines s.made, s.places ++ [j]⟩ (j + 1) := by
  have lL := o.shL.len
  have lM := o.shM.len
  have gL : ∀ k, k < n → (others p s.places.length j s.lines s.lines).getD k [] = if k ≠ s.places.length ∧ g2 s.lines k j ≠ 0 then lessR p (g2 s.lines k j) (s.lines.getD k []) (s.lines.getD s.places.length []) else s.lines.getD k [] := fun k hk => others_get (by omega)
  have gM : ∀ k, k < n → (others p s.places.length j s.lines s.made).getD k [] = if k ≠ s.places.length ∧ g2 s.lines k j ≠ 0 then lessR p (g2 s.lines k j) (s.made.getD k []) (s.made.getD s.places.length []) else s.made.getD k [] := fun k hk => others_get (by omega)
  have sh : ∀ {w : Nat} {L : List (List Int)}, Sh p n w L → Sh p n w (others p s.places.length j s.lines L) := fun {w L} sL => by
    refine ⟨by rw [others_len]; exact sL.len, fun r hr => ?_⟩
    unfold others at hr
    obtain ⟨k, hk, rfl⟩ := List.mem_map.mp hr
    have hk : k < n := by have := List.mem_range.mp hk; rw [sL.len] at this; exact this
    by_cases c : k ≠ s.places.length ∧ g2 s.lines k j ≠ 0
    · rw [if_pos c]
      have el : (L.getD k []).length = (L.getD s.places.length []).length := by rw [sL.rlen hk, sL.rlen hd]
      exact ⟨by rw [lessR_len el]; exact sL.rlen hk, lessR_range (by omega)⟩
    · rw [if_neg c]; exact sL.row _ (sL.get hk)
  have shL' := sh o.shL
  -- every place of a row that is made less
  have lessAt : ∀ k, k < n → ∀ c, Me p (((others p s.places.length j s.lines s.lines).getD k []).getD c 0) (if k = s.places.length then g2 s.lines k c else g2 s.lines k c - g2 s.lines k j * g2 s.lines s.places.length c) := fun k hk c => by
    rw [gL k hk]
    by_cases e : k = s.places.length
    · rw [if_neg (fun z => z.1 e), if_pos e]; exact Me.refl
    · rw [if_neg e]
      by_cases e2 : g2 s.lines k j = 0
      · rw [if_neg (fun z => z.2 e2), e2, Int.zero_mul, Int.sub_zero]; exact Me.refl
      · rw [if_pos ⟨e, e2⟩]
        exact lessR_get c (by rw [o.shL.rlen hk, o.shL.rlen hd])
  refine ⟨shL', sh o.shM, ?_, ?_, ?_, ?_, ?_, ?_, ?_⟩
  · intro k hk c hc
    show Me p (((others p s.places.length j s.lines s.lines).getD k []).getD c 0) (dot ((others p s.places.length j s.lines s.made).getD k []) (col T c))
    rw [gL k hk, gM k hk]
    by_cases z : k ≠ s.places.length ∧ g2 s.lines k j ≠ 0
    · rw [if_pos z, if_pos z]
      refine (lessR_get c (by rw [o.shL.rlen hk, o.shL.rlen hd])).trans ?_
      refine Me.trans ?_ (dot_less (by rw [o.shM.rlen hk, o.shM.rlen hd])).symm
      exact Me.sub (o.comb k hk c hc) (Me.mul Me.refl (o.comb _ hd c hc))
    · rw [if_neg z, if_neg z]; exact o.comb k hk c hc
  · intro x hx hz
    refine o.ker x hx fun k hk => ?_
    have hzd : Me p (dot (s.lines.getD s.places.length []) x) 0 := by
      have := hz _ hd
      have this : Me p (dot ((others p s.places.length j s.lines s.lines).getD s.places.length []) x) 0 := this
      rw [gL _ hd, if_neg (fun z => z.1 rfl)] at this
      exact this
    have := hz k hk
    have this : Me p (dot ((others p s.places.length j s.lines s.lines).getD k []) x) 0 := this
    rw [gL k hk] at this
    by_cases z : k ≠ s.places.length ∧ g2 s.lines k j ≠ 0
    · rw [if_pos z] at this
      have t1 := (dot_less (p := p) (m := g2 s.lines k j) (zs := x) (show (s.lines.getD k []).length = (s.lines.getD s.places.length []).length by rw [o.shL.rlen hk, o.shL.rlen hd])).symm.trans this
      have t2 : Me p (g2 s.lines k j * dot (s.lines.getD s.places.length []) x) (g2 s.lines k j * 0) := Me.mul Me.refl hzd
      have t3 := Me.add t1 t2
      rw [Int.mul_zero, Int.sub_add_cancel] at t3
      exact t3
    · rw [if_neg z] at this; exact this
  · intro q hq
    rcases List.mem_append.mp hq with hq | hq
    · have := o.pl q hq; omega
    · have := List.mem_singleton.mp hq; omega
  · refine List.pairwise_append.mpr ⟨o.mono, List.pairwise_singleton _ _, fun a ha b hb => ?_⟩
    have := o.pl a ha
    have := List.mem_singleton.mp hb
    omega
  · intro t q ht k hk
    have ht : (s.places ++ [j])[t]? = some q := ht
    have hqw : q < w := by
      have hm := List.mem_of_getElem? ht
      rcases List.mem_append.mp hm with hm | hm
      · have := o.pl q hm; omega
      · have := List.mem_singleton.mp hm; omega
    have rg := shL'.rng hk hqw
    show g2 (others p s.places.length j s.lines s.lines) k q = _
    have key := lessAt k hk q
    by_cases htl : t < s.places.length
    · rw [List.getElem?_append_left htl] at ht
      have u1 := o.unit t q ht k hk
      have u2 := o.unit t q ht _ hd
      rw [if_neg (show ¬ s.places.length = t by omega)] at u2
      have key2 : Me p (g2 (others p s.places.length j s.lines s.lines) k q) (if k = t then 1 else 0) := by
        by_cases e : k = s.places.length
        · rw [if_pos e] at key; rw [← u1]; exact key
        · rw [if_neg e, u2, Int.mul_zero, Int.sub_zero] at key; rw [← u1]; exact key
      refine key2.eq rg.1 rg.2 ?_ ?_
      · by_cases e : k = t <;> simp [e]
      · by_cases e : k = t <;> simp [e] <;> omega
    · have e0 : t = s.places.length := by
        have := (List.getElem?_eq_some_iff.mp ht).1
        rw [List.length_append] at this
        have : [j].length = 1 := rfl
        omega
      subst e0
      rw [List.getElem?_concat_length] at ht
      have : j = q := Option.some.inj ht
      subst this
      by_cases e : k = s.places.length
      · rw [if_pos e] at key
        rw [if_pos e]
        rw [e] at key rg ⊢
        have : Me p (g2 (others p s.places.length j s.lines s.lines) s.places.length j) 1 := by rw [← h1]; exact key
        exact this.eq rg.1 rg.2 (by omega) hp
      · rw [if_neg e, h1, Int.mul_one, Int.sub_self] at key
        rw [if_neg e]
        exact key.eq rg.1 rg.2 (Int.le_refl 0) (by omega)
  · intro k hk1 hk c hc
    have hk1 : (s.places ++ [j]).length ≤ k := hk1
    rw [List.length_append] at hk1
    have : [j].length = 1 := rfl
    have hcw : c < w := by omega
    have rg := shL'.rng hk hcw
    have key := lessAt k hk c
    rw [if_neg (by omega)] at key
    show g2 (others p s.places.length j s.lines s.lines) k c = 0
    have : Me p (g2 (others p s.places.length j s.lines s.lines) k c) 0 := by
      by_cases e : c = j
      · subst e
        rw [h1, Int.mul_one, Int.sub_self] at key
        exact key
      · have z1 := o.zero k (by omega) hk c (by omega)
        have z2 := o.zero _ (Nat.le_refl _) hd c (by omega)
        rw [z1, z2, Int.mul_zero, Int.sub_zero] at key
        exact key
    exact this.eq rg.1 rg.2 (Int.le_refl 0) (by omega)
  · show (s.places ++ [j]).length ≤ n
    rw [List.length_append]
    have : [j].length = 1 := rfl
    omega
theorem clearAt_ok {p : Int} {bk : Int → Int} {n w j : Nat} {T : List (List Int)} {s : Cl} (hp : 1 < p) (hbk : ∀ k, firstW s.lines s.places.length j = some k → Me p (bk (g2 s.lines k j) * g2 s.lines k j) 1) (o : Ok p n w T s j) (hj : j < w) : Ok p n w T (clearAt p bk s j) (j + 1) := by
  unfold clearAt
  cases hf : firstW s.lines s.places.length j with
  | none =>
    have hz := firstW_none hf
    exact ⟨o.shL, o.shM, o.comb, o.ker, fun q hq => by have := o.pl q hq; omega, o.mono, o.unit, fun k h1 h2 c hc => by
      by_cases e : c = j
      · rw [e]; exact hz k h1 (by rw [o.shL.len]; exact h2)
      · exact o.zero k h1 h2 c (by omega), o.le⟩
  | some k =>
    obtain ⟨h1, h2, h3⟩ := firstW_some hf
    rw [o.shL.len] at h2
    have hd : s.places.length < n := by omega
    have o1 := step_swap o h1 h2
    have ev : g2 (swapL s.lines s.places.length k) s.places.length j = g2 s.lines k j := by
      show ((swapL s.lines s.places.length k).getD s.places.length []).getD j 0 = _
      rw [swap_get (by rw [o.shL.len]; omega) (by rw [o.shL.len]; omega)]
      by_cases e : s.places.length = k
      · rw [if_pos e, e]
      · rw [if_neg e, if_pos rfl]
    have rg := o.shL.rng h2 hj
    have hb := hbk k hf
    rw [← ev] at hb
    have o2 := step_scale (by omega) o1 hd hb
    have e1 : g2 ((swapL s.lines s.places.length k).set s.places.length (scaleR p (bk (g2 (swapL s.lines s.places.length k) s.places.length j)) ((swapL s.lines s.places.length k).getD s.places.length []))) s.places.length j = 1 := by
      have rg2 := o2.shL.rng hd hj
      refine Me.eq (p := p) ?_ rg2.1 rg2.2 (by omega) hp
      show Me p ((((swapL s.lines s.places.length k).set s.places.length _).getD s.places.length []).getD j 0) 1
      rw [getD_set (by rw [swap_len, o.shL.len]; exact hd), if_pos rfl]
      exact (scaleR_get j).trans hb
    exact step_less hp o2 hd hj e1
theorem ones_sh {p : Int} (hp : 1 < p) (n : Nat) : Sh p n n (onesT n) := by
  unfold onesT
  refine ⟨by rw [List.length_map, List.length_range], fun r hr => ?_⟩
  obtain ⟨k, _, rfl⟩ := List.mem_map.mp hr
  refine ⟨by rw [List.length_map, List.length_range], fun x hx => ?_⟩
  obtain ⟨i, _, rfl⟩ := List.mem_map.mp hx
  by_cases e : k = i <;> simp [e] <;> omega
theorem dot_unit : ∀ (n k : Nat) (ys : List Int), ys.length = n → dot ((List.range n).map fun j => if k = j then 1 else 0) ys = ys.getD k 0 := by
  intro n
  induction n with
  | zero => intro k ys h; cases ys with
    | nil => simp [dot]
    | cons y ys => simp at h
  | succ n ih =>
    intro k ys h
    cases ys with
    | nil => simp at h
    | cons y ys =>
      rw [List.range_succ_eq_map, List.map_cons, List.map_map]
      show (if k = 0 then (1 : Int) else 0) * y + dot (List.map ((fun j => if k = j then 1 else 0) ∘ Nat.succ) (List.range n)) ys = _
      cases k with
      | zero =>
        rw [if_pos rfl, Int.one_mul]
        have : dot (List.map ((fun j => if 0 = j then (1 : Int) else 0) ∘ Nat.succ) (List.range n)) ys = 0 := by
          have z : ∀ (l : List Nat) (ys : List Int), dot (List.map ((fun j => if 0 = j then (1 : Int) else 0) ∘ Nat.succ) l) ys = 0 := by
            intro l
            induction l with
            | nil => intro ys; rfl
            | cons a l il => intro ys; cases ys with
              | nil => rfl
              | cons y ys => show (if 0 = a + 1 then (1 : Int) else 0) * y + _ = 0; rw [if_neg (by omega), Int.zero_mul, il]; rfl
          exact z _ _
        rw [this]; simp
      | succ k =>
        rw [if_neg (by omega), Int.zero_mul, Int.zero_add]
        have := ih k ys (by simpa using h)
        have e : List.map ((fun j => if k + 1 = j then (1 : Int) else 0) ∘ Nat.succ) (List.range n) = (List.range n).map fun j => if k = j then 1 else 0 := by
          apply List.map_congr_left
          intro a _
          show (if k + 1 = a + 1 then (1 : Int) else 0) = _
          by_cases z : k = a <;> simp [z]
        rw [e, this]; simp
theorem start_ok {p : Int} (hp : 1 < p) {n w : Nat} {T : List (List Int)} (sT : Sh p n w T) : Ok p n w T ⟨T, onesT T.length, []⟩ 0 := by
  refine ⟨sT, by rw [sT.len]; exact ones_sh hp n, ?_, fun x _ h => h, (fun q hq => by cases hq), List.Pairwise.nil, (fun t q h => by simp at h), (fun k _ _ c hc => by omega), Nat.zero_le _⟩
  intro k hk c hc
  have e : (onesT T.length).getD k [] = (List.range T.length).map fun j => if k = j then 1 else 0 := by
    unfold onesT
    rw [List.getD_eq_getElem?_getD, List.getElem?_map, List.getElem?_range (by rw [sT.len]; exact hk)]
    rfl
  show Me p (g2 T k c) (dot ((onesT T.length).getD k []) (col T c))
  rw [e, dot_unit T.length k (col T c) (by unfold col; rw [List.length_map])]
  have e2 : (col T c).getD k 0 = g2 T k c := by
    unfold col
    rw [List.getD_eq_getElem?_getD, List.getElem?_map, List.getElem?_eq_getElem (by rw [sT.len]; exact hk)]
    show (T[k]'_).getD c 0 = ((T.getD k []).getD c 0)
    rw [List.getD_eq_getElem?_getD (l := T), List.getElem?_eq_getElem (by rw [sT.len]; exact hk)]
    rfl
  rw [e2]; exact Me.refl
theorem cleared_succ {p : Int} {bk : Int → Int} {T : List (List Int)} {j : Nat} : cleared p bk T (j + 1) = clearAt p bk (cleared p bk T j) j := by
  unfold cleared
  rw [List.range_succ, List.foldl_append]
  rfl
/-! ### readers and noughts -/
theorem tight : ∀ (l : List Nat) (b w : Nat), b ≤ w → l.Pairwise (· < ·) → (∀ q ∈ l, b ≤ q ∧ q < w) → l.length ≤ w - b ∧ (l.length = w - b → l = List.range' b (w - b))
  | [], b, w, h, _, _ => ⟨Nat.zero_le _, fun e => by
    have e : 0 = w - b := e
    rw [← e]; rfl⟩
  | x :: l, b, w, h, hp, hq => by
    have hx := hq x (List.mem_cons_self ..)
    obtain ⟨h1, h2⟩ := List.pairwise_cons.mp hp
    obtain ⟨i1, i2⟩ := tight l (x + 1) w (by omega) h2 fun q z => ⟨h1 q z, (hq q (List.mem_cons_of_mem _ z)).2⟩
    refine ⟨by rw [List.length_cons]; omega, fun e => ?_⟩
    rw [List.length_cons] at e
    have eb : x = b := by omega
    subst eb
    have := i2 (by omega)
    rw [this, show w - x = (w - (x + 1)) + 1 by omega, List.range'_succ]
theorem Ok.full {p : Int} {n w : Nat} {T : List (List Int)} {s : Cl} (o : Ok p n w T s w) (h : ¬ s.places.length < w) : s.places.length = w ∧ ∀ t, t < w → s.places[t]? = some t := by
  obtain ⟨h1, h2⟩ := tight s.places 0 w (Nat.zero_le _) o.mono fun q z => ⟨Nat.zero_le _, o.pl q z⟩
  have e : s.places.length = w := by omega
  refine ⟨e, fun t ht => ?_⟩
  rw [h2 (by omega), List.getElem?_range' (by omega)]
  simp
theorem Ok.short {p : Int} {n w : Nat} {T : List (List Int)} {s : Cl} (o : Ok p n w T s w) : s.places.length ≤ w := (tight s.places 0 w (Nat.zero_le _) o.mono fun q z => ⟨Nat.zero_le _, o.pl q z⟩).1
def rankM (p : Int) (bk : Int → Int) (T : List (List Int)) : Nat := if T = [] then 0 else (cleared p bk T (T.headD []).length).places.length
def readM (p : Int) (bk : Int → Int) (T : List (List Int)) (w : Nat) : Option (List (List Int)) :=
  if (cleared p bk T w).places.length < w then none else some ((cleared p bk T w).made.take w)
def freeP (s : Cl) (w : Nat) : List Nat := (List.range w).filter fun q => !s.places.contains q
def rowAt (p : Int) (s : Cl) (c w i : Nat) : List Int := (List.range i).foldl (fun row k => row.set (s.places.getD k 0) ((0 - g2 s.lines k c) % p)) (((List.range w).map fun _ => (0 : Int)).set c 1)
def noughtM (p : Int) (bk : Int → Int) (T : List (List Int)) (w : Nat) : Option (List Int) :=
  match freeP (cleared p bk T w) w with
  | [] => none
  | c :: _ => some (rowAt p (cleared p bk T w) c w (cleared p bk T w).places.length)
theorem wide_of : ∀ (l : List Nat) (b w : Nat), l.Pairwise (· < ·) → (∀ q ∈ l, b ≤ q) → (∀ q, b ≤ q → q < w → q ∈ l) → w - b ≤ l.length
  | [], b, w, _, _, h => by
    by_cases z : b < w
    · have := h b (Nat.le_refl _) z; cases this
    · rw [List.length_nil]; omega
  | x :: l, b, w, hp, hb, h => by
    obtain ⟨h1, h2⟩ := List.pairwise_cons.mp hp
    have hx := hb x (List.mem_cons_self ..)
    by_cases z : b < w
    · have e : b = x := by
        rcases List.mem_cons.mp (h b (Nat.le_refl _) z) with e | e
        · exact e
        · have := h1 b e; omega
      subst e
      have := wide_of l (b + 1) w h2 (fun q hq => h1 q hq) fun q g1 g2 => by
        rcases List.mem_cons.mp (h q (by omega) g2) with e | e
        · omega
        · exact e
      rw [List.length_cons]; omega
    · omega
theorem free_nil {p : Int} {n w : Nat} {T : List (List Int)} {s : Cl} (o : Ok p n w T s w) : freeP s w = [] ↔ ¬ s.places.length < w := by
  constructor
  · intro h hl
    -- all below w are among the places, so there are w of them
    have hall : ∀ q, q < w → q ∈ s.places := fun q hq => by
      have := List.filter_eq_nil_iff.mp h q (List.mem_range.mpr hq)
      simpa using this
    have := wide_of s.places 0 w o.mono (fun q _ => Nat.zero_le _) fun q _ hq => hall q hq
    omega
  · intro h
    obtain ⟨e, g⟩ := o.full h
    refine List.filter_eq_nil_iff.mpr fun q hq => ?_
    have : q ∈ s.places := List.mem_of_getElem? (g q (List.mem_range.mp hq))
    simpa using this
theorem one_right {p : Int} {bk : Int → Int} {n w : Nat} {T : List (List Int)} (o : Ok p n w T (cleared p bk T w) w) : (readM p bk T w = none) ↔ ¬ (noughtM p bk T w = none) := by
  have e := free_nil o
  unfold readM noughtM
  by_cases h : (cleared p bk T w).places.length < w
  · rw [if_pos h]
    cases hf : freeP (cleared p bk T w) w with
    | nil => exact absurd h (e.mp hf)
    | cons a l => simp
  · rw [if_neg h, e.mpr h]; simp
theorem read_some {p : Int} {bk : Int → Int} {n w : Nat} {T R : List (List Int)} (o : Ok p n w T (cleared p bk T w) w) (h : readM p bk T w = some R) : w ≤ n ∧ Sh p w n R ∧ ∀ k j, k < w → j < w → Me p (dot (R.getD k []) (col T j)) (if k = j then 1 else 0) := by
  unfold readM at h
  by_cases z : (cleared p bk T w).places.length < w
  · rw [if_pos z] at h; cases h
  · rw [if_neg z] at h
    cases h
    obtain ⟨e, g⟩ := o.full z
    have hn : w ≤ n := by rw [← e]; exact o.le
    refine ⟨hn, ⟨by rw [List.length_take, o.shM.len]; omega, fun r hr => o.shM.row r (List.mem_of_mem_take hr)⟩, fun k j hk hj => ?_⟩
    have e1 : (List.take w (cleared p bk T w).made).getD k [] = (cleared p bk T w).made.getD k [] := by
      rw [List.getD_eq_getElem?_getD, List.getElem?_take_of_lt hk, List.getD_eq_getElem?_getD]
    rw [e1]
    have := o.comb k (by omega) j hj
    rw [o.unit j j (g j hj) k (by omega)] at this
    exact this.symm
theorem dot_set {q : Nat} {v : Int} : ∀ {xs ys : List Int}, q < ys.length → dot xs (ys.set q v) = dot xs ys + xs.getD q 0 * (v - ys.getD q 0) := by
  induction q with
  | zero =>
    intro xs ys h
    cases ys with
    | nil => simp at h
    | cons y ys => cases xs with
      | nil => simp [dot]
      | cons x xs =>
        show x * v + dot xs ys = (x * y + dot xs ys) + x * (v - y)
        rw [Int.mul_sub]; omega
  | succ q ih =>
    intro xs ys h
    cases ys with
    | nil => simp at h
    | cons y ys => cases xs with
      | nil => simp [dot]
      | cons x xs =>
        have := ih (xs := xs) (ys := ys) (by simpa using h)
        show x * y + dot xs (ys.set q v) = (x * y + dot xs ys) + xs.getD q 0 * (v - ys.getD q 0)
        rw [this]; omega
theorem dot_zero (xs : List Int) (w : Nat) : dot xs ((List.range w).map fun _ => (0 : Int)) = 0 := by
  have z : ∀ (l : List Nat) (xs : List Int), dot xs (l.map fun _ => (0 : Int)) = 0 := by
    intro l
    induction l with
    | nil => intro xs; exact dot_nil xs
    | cons a l ih => intro xs; cases xs with
      | nil => rfl
      | cons x xs => show x * 0 + dot xs (l.map fun _ => (0 : Int)) = 0; rw [ih]; simp
  exact z _ _
theorem set_getD {ys : List Int} {q j : Nat} {v : Int} (h : q < ys.length) : (ys.set q v).getD j 0 = if j = q then v else ys.getD j 0 := by
  rw [List.getD_eq_getElem?_getD, List.getElem?_set]
  by_cases e : q = j
  · subst e; simp [h]
  · rw [if_neg e, if_neg (fun z => e z.symm), List.getD_eq_getElem?_getD]
theorem rowAt_len {p : Int} {s : Cl} {c w : Nat} : ∀ i, (rowAt p s c w i).length = w
  | 0 => by unfold rowAt; simp
  | i + 1 => by
    have := rowAt_len (p := p) (s := s) (c := c) (w := w) i
    unfold rowAt at this ⊢
    rw [List.range_succ, List.foldl_append]
    show (List.set _ _ _).length = w
    rw [List.length_set]; exact this
theorem rowAt_succ {p : Int} {s : Cl} {c w i : Nat} : rowAt p s c w (i + 1) = (rowAt p s c w i).set (s.places.getD i 0) ((0 - g2 s.lines i c) % p) := by
  unfold rowAt; rw [List.range_succ, List.foldl_append]; rfl
theorem zeros_getD (w j : Nat) : ((List.range w).map fun _ => (0 : Int)).getD j 0 = 0 := by
  rw [List.getD_eq_getElem?_getD, List.getElem?_map]
  cases (List.range w)[j]? <;> rfl
theorem nought_some {p : Int} {bk : Int → Int} {n w : Nat} {T : List (List Int)} {row : List Int} (hp : 1 < p) (o : Ok p n w T (cleared p bk T w) w) (h : noughtM p bk T w = some row) :
    row.length = w ∧ (∀ x ∈ row, 0 ≤ x ∧ x < p) ∧ (∃ j, j < w ∧ row.getD j 0 ≠ 0) ∧ ∀ k, k < n → Me p (dot (T.getD k []) row) 0 := by
  unfold noughtM at h
  generalize cleared p bk T w = s at o h
  cases hf : freeP s w with
  | nil => rw [hf] at h; cases h
  | cons c l =>
    rw [hf] at h
    have hc : c ∈ freeP s w := by rw [hf]; exact List.mem_cons_self ..
    obtain ⟨hc1, hc2⟩ := List.mem_filter.mp hc
    have hc1 := List.mem_range.mp hc1
    have hc2 : c ∉ s.places := by simpa using hc2
    have e : rowAt p s c w s.places.length = row := Option.some.inj h
    have gp : ∀ i, i < s.places.length → s.places[i]? = some (s.places.getD i 0) := fun i hi => by
      rw [List.getD_eq_getElem?_getD, List.getElem?_eq_getElem hi]; rfl
    have gw : ∀ i, i < s.places.length → s.places.getD i 0 < w := fun i hi => o.pl _ (List.mem_of_getElem? (gp i hi))
    have gc : ∀ i, i < s.places.length → s.places.getD i 0 ≠ c := fun i hi z => hc2 (z ▸ List.mem_of_getElem? (gp i hi))
    have key : ∀ i, i ≤ s.places.length → (∀ x ∈ rowAt p s c w i, 0 ≤ x ∧ x < p) ∧ (rowAt p s c w i).getD c 0 = 1 ∧ (∀ t, i ≤ t → t < s.places.length → (rowAt p s c w i).getD (s.places.getD t 0) 0 = 0) ∧
        ∀ k, k < n → Me p (dot (s.lines.getD k []) (rowAt p s c w i)) (if k < i then 0 else g2 s.lines k c) := by
      intro i
      induction i with
      | zero =>
        intro _
        have e0 : rowAt p s c w 0 = ((List.range w).map fun _ => (0 : Int)).set c 1 := rfl
        have lc : c < ((List.range w).map fun _ => (0 : Int)).length := by simpa using hc1
        rw [e0]
        refine ⟨fun x hx => ?_, by rw [set_getD lc, if_pos rfl], fun t _ ht => by rw [set_getD lc, if_neg (gc t ht), zeros_getD], fun k hk => ?_⟩
        · rcases List.mem_or_eq_of_mem_set hx with hx | rfl
          · obtain ⟨_, _, rfl⟩ := List.mem_map.mp hx; omega
          · omega
        · rw [if_neg (by omega), dot_set lc, dot_zero, zeros_getD]
          refine Me.of ?_
          show 0 + g2 s.lines k c * (1 - 0) = _
          rw [Int.sub_zero, Int.mul_one, Int.zero_add]
      | succ i ih =>
        intro hi
        obtain ⟨i1, i2, i3, i4⟩ := ih (by omega)
        have lq : s.places.getD i 0 < (rowAt p s c w i).length := by rw [rowAt_len]; exact gw i (by omega)
        rw [rowAt_succ]
        refine ⟨fun x hx => ?_, by rw [set_getD lq, if_neg (fun z => gc i (by omega) z.symm)]; exact i2, fun t h1 ht => ?_, fun k hk => ?_⟩
        · rcases List.mem_or_eq_of_mem_set hx with hx | rfl
          · exact i1 x hx
          · exact mod_range (by omega) _
        · rw [set_getD lq, if_neg ?_]
          · exact i3 t (by omega) ht
          · have g := (List.pairwise_iff_getElem.mp o.mono) i t (by omega) ht (by omega)
            intro z
            have e1 := gp i (by omega)
            have e2 := gp t ht
            rw [List.getElem?_eq_getElem (by omega)] at e1
            rw [List.getElem?_eq_getElem ht] at e2
            rw [Option.some.inj e1, Option.some.inj e2] at g
            omega
        · rw [dot_set lq, i3 i (Nat.le_refl _) (by omega), Int.sub_zero]
          have u := o.unit i _ (gp i (by omega)) k hk
          have u' : (s.lines.getD k []).getD (s.places.getD i 0) 0 = if k = i then 1 else 0 := u
          rw [u']
          by_cases e1 : k = i
          · subst e1
            rw [if_pos rfl, if_pos (by omega), Int.one_mul]
            have := i4 k hk
            rw [if_neg (by omega)] at this
            have t2 := Me.add this (Me.mod (p := p) (a := 0 - g2 s.lines k c))
            rw [show g2 s.lines k c + (0 - g2 s.lines k c) = 0 by omega] at t2
            exact t2
          · rw [if_neg e1, Int.zero_mul, Int.add_zero]
            have := i4 k hk
            by_cases e2 : k < i
            · rw [if_pos e2] at this; rw [if_pos (by omega)]; exact this
            · rw [if_neg e2] at this; rw [if_neg (by omega)]; exact this
    obtain ⟨k1, k2, _, k4⟩ := key _ (Nat.le_refl _)
    rw [e] at k1 k2 k4
    refine ⟨by rw [← e]; exact rowAt_len _, k1, ⟨c, hc1, by rw [k2]; omega⟩, fun k hk => ?_⟩
    refine o.ker row (by rw [← e]; exact rowAt_len _) (fun k hk => ?_) k hk
    have := k4 k hk
    by_cases e2 : k < s.places.length
    · rw [if_pos e2] at this; exact this
    · rw [if_neg e2, o.zero k (by omega) hk c hc1] at this; exact this
end Tb

set_option Elab.async false
set_option linter.all false
set_option maxRecDepth 100000
set_option maxHeartbeats 4000000
namespace Mx
open PySem PySem.Spec PyProof.Rows L2 Nt
local macro_rules | `(tactic| walk_at "side") => `(tactic| first
  | assumption
  | rfl
  | exact upd_same
  | exact sqL_new
  | exact ⟨_, sqL_new⟩
  | exact ⟨_, by assumption⟩
  | exact sqT_new
  | exact ⟨_, sqT_new⟩
  | exact ⟨_, sqL_upd (by assumption) (by assumption)⟩
  | exact sqL_upd (by assumption) (by assumption)
  | (refine upd_at ?_ ?_ <;> assumption)
  | exact ty_lst (by assumption)
  | exact ty_lst upd_same
  | exact SqL.of (by assumption)
  | exact .inl (SqL.of (by assumption))
  | exact ⟨_, SqL.of (by assumption)⟩
  | omega
  | exact Nat.le_of_ble_eq_true rfl
  | decide)
local macro_rules | `(tactic| walk_at "go1") => `(tactic| first
  | (fail_if_success (show ∃ W : Nat → Nat → L2.St → Hp → Prop, _)
     fail_if_success (show ∃ W : Nat → L2.St → Hp → Prop, _)
     fail_if_success (show ∃ W : L2.St → Hp → Prop, _)
     apply Exists.intro)
  | (refine And.intro ?_ ?_; (walk_at "side")))
local macro_rules | `(tactic| walk_at "nrm") => `(tactic| dsimp only [tSeq, tAsg, tC, gName, tNext, tIfS, tRet, tDrop, tTest, tB, L2.start, List.map, List.length, List.replicate, List.cons_append, List.nil_append, List.set_cons_zero, List.set_cons_succ])
local macro_rules | `(tactic| walk_at "go") => `(tactic| repeat (walk_at "go1"))
/-! ### is_prime -/
def sp_is_prime (K : PySem.W.Frag) : Sp := fun vs H Q _ => vs.length = 1 ∧ ∃ n, vs = [.int n] ∧ n < 2 ^ 60 ∧ Q (.bl (isPr n)) H
def t_is_prime_1 (K : PySem.W.Frag) : TS := (tSeq (tIfS (tTest (tOp rEq (tOp oMod (tVar 0) (tVar 1)) (tC (.int 0)))) (tRet (tC (.bl false))) tNext) (tAug 1 (tC (.int 1)) (ipI fun i j => i + j)))
def t_is_prime_2 (K : PySem.W.Frag) : TS := (tRet (tC (.bl true)))
def t_is_prime (K : PySem.W.Frag) : TS := (tSeq (tIfS (tTest (tOp oLt (tVar 0) (tC (.int 2)))) (tRet (tC (.bl false))) tNext) (tSeq (tAsg (tC (.int 2)) (gName 1)) (tSeq (tWhile (tTest (tOp oLe (tOp oMul (tVar 1) (tVar 1)) (tVar 0))) (t_is_prime_1 K)) (t_is_prime_2 K))))
theorem pu_is_prime {K : PySem.W.Frag} (vs : List V) (H : Hp) (Q : VK) (E : XK) (h : ∃ n, vs = [.int n] ∧ n < 2 ^ 60 ∧ Q (.bl (isPr n)) H) : t_is_prime K { nx := fun _ H' => Q .non H', rt := Q } (start ["number", "by"] vs) H := by
  obtain ⟨n, rfl, hn, q⟩ := h
  walk_at "go"
  refine iteD (fun c => ?_) (fun c => ?_)
  · rw [isPr_small c] at q
    exact q
  · walk_at "nrm"
    refine loopW (fun m σ H' => H' = H ∧ ∃ b : Int, σ = [some (.int n), some (.int b)] ∧ 2 ≤ b ∧ b ≤ n + 1 ∧ m = (n + 1 - b).toNat ∧ ∀ d : Int, 2 ≤ d → d < b → n % d ≠ 0) (n + 1 - 2).toNat ⟨rfl, 2, rfl, by omega, by omega, rfl, fun d h1 h2 => by omega⟩ ?_
    rintro m σ _ ⟨rfl, b, rfl, h2, hb, rfl, hd⟩
    have hm : CMul b b := .inl ⟨by omega, by omega⟩
    walk_at "go"
    refine iteD (fun c1 => turnW ?_) (fun c1 => ?_)
    · walk_at "go"
      refine iteEq (fun c2 => ?_) (fun c2 => ?_)
      · rw [isPr_false h2 c1 c2] at q
        exact q
      · have hbn : b ≤ n := by
          have : 1 * b ≤ b * b := Int.mul_le_mul_of_nonneg_right (by omega) (by omega)
          omega
        walk_at "go"
        refine ⟨⟨_, ?_, rfl, b + 1, rfl, by omega, by omega, rfl, fun d h1 h3 => ?_⟩⟩
        · omega
        · by_cases e : d = b
          · rw [e]; exact c2
          · exact hd d h1 (by omega)
    · have e : isPr n = true := isPr_iff.mpr ⟨by omega, fun d h1 h3 => hd d h1 (by
        by_cases z : d < b
        · exact z
        · have : b * b ≤ d * d := Int.mul_le_mul (by omega) (by omega) (by omega) (by omega)
          omega)⟩
      rw [e] at q
      exact q
/-! ### the field -/
def IsF (K : PySem.W.Frag) (H : Hp) (f : Addr) (p : Int) : Prop := ∃ dx, H f = some (.ins (He.ga K "Field") dx [("prime", .int p)]) ∧ isPr p = true ∧ p ≤ 1000000
theorem IsF.mono {K : PySem.W.Frag} {H H' : Hp} {f : Addr} {p : Int} (h : IsF K H f p) (e : Same H H') : IsF K H' f p := let ⟨dx, a, b⟩ := h; ⟨dx, e _ _ a, b⟩
theorem IsF.pos {K : PySem.W.Frag} {H : Hp} {f : Addr} {p : Int} (h : IsF K H f p) : 2 ≤ p ∧ p ≤ 1000000 := let ⟨_, _, b, c⟩ := h; ⟨isPr_pos b, c⟩
def sp_Field___init__ (K : PySem.W.Frag) : Sp := fun vs H Q E => vs.length = 2 ∧ ∃ x dx n, vs = [.ref x, .int n] ∧ H x = some (.ins (He.ga K "Field") dx []) ∧ n < 2 ^ 60 ∧
  ((n ≤ 1000000 ∧ isPr n = true → Q .non (upd H x (.ins (He.ga K "Field") dx [("prime", .int n)]))) ∧ (¬ (n ≤ 1000000 ∧ isPr n = true) → E (.ref (He.ga K "NoPrime")) none H))
def t_Field___init__ (K : PySem.W.Frag) (E : XK) : TS := (tSeq (tIfS (tOr (tTest (tOp oGt (tVar 1) (tC (.int 1000000)))) (tNot (tB (tCallSD (sp_is_prime K) [] (fun _ => E) (tCons (tVar 1) tNil))))) (xRaise (He.ga K "NoPrime") E) tNext) (xsFld (He.ga K "Field") (tVar 0) (tVar 1) "prime"))
theorem pu_Field___init__ {K : PySem.W.Frag} (vs : List V) (H : Hp) (Q : VK) (E : XK) (h : ∃ x dx n, vs = [.ref x, .int n] ∧ H x = some (.ins (He.ga K "Field") dx []) ∧ n < 2 ^ 60 ∧
  ((n ≤ 1000000 ∧ isPr n = true → Q .non (upd H x (.ins (He.ga K "Field") dx [("prime", .int n)]))) ∧ (¬ (n ≤ 1000000 ∧ isPr n = true) → E (.ref (He.ga K "NoPrime")) none H))) :
    t_Field___init__ K E { nx := fun _ H' => Q .non H', rt := Q } (start ["self", "prime"] vs) H := by
  obtain ⟨x, dx, n, rfl, hx, hn, q1, q2⟩ := h
  walk_at "go"
  refine iteD (fun c => ?_) (fun c => ?_)
  · refine iteT ?_
    exact q2 fun z => by omega
  · walk_at "go"
    cases e : isPr n with
    | false =>
      refine iteT ?_
      exact q2 fun z => by rw [e] at z; exact Bool.false_ne_true z.2
    | true =>
      refine iteF ?_
      walk_at "go"
      exact q1 ⟨by omega, e⟩
/-- Field(n), n a prime -/
theorem use_Field {K : PySem.W.Frag} {H : Hp} {Q : VK} {E : XK} {n : Int} (hn : isPr n = true) (h6 : n ≤ 1000000) (q : ∀ f H', H f = none → Same H H' → IsF K H' f n → Q (.ref f) H') :
    ∀ x dx, H x = none → H dx = none → dx ≠ x → sp_Field___init__ K (.ref x :: ([.int n] ++ [])) (upd (upd H dx (.own x)) x (.ins (He.ga K "Field") dx [])) (fun v H2 => v = .non ∧ Q (.ref x) H2) E := by
  intro x dx nx nd ne
  refine ⟨rfl, x, dx, n, rfl, upd_same, by omega, fun _ => ⟨rfl, ?_⟩, fun z => absurd ⟨h6, hn⟩ z⟩
  refine q x _ nx ?_ ⟨dx, upd_same, hn, h6⟩
  exact same_mut (same_mut (same_new nd) nx) nx
/-- Field(n), n any -/
theorem use_FieldX {K : PySem.W.Frag} {H : Hp} {Q : VK} {E : XK} {n : Int} (hn : n < 2 ^ 60) (q : isPr n = true → n ≤ 1000000 → ∀ f H', H f = none → Same H H' → IsF K H' f n → Q (.ref f) H') (qe : ¬ (n ≤ 1000000 ∧ isPr n = true) → ∀ H', Same H H' → E (.ref (He.ga K "NoPrime")) none H') :
    ∀ x dx, H x = none → H dx = none → dx ≠ x → sp_Field___init__ K (.ref x :: ([.int n] ++ [])) (upd (upd H dx (.own x)) x (.ins (He.ga K "Field") dx [])) (fun v H2 => v = .non ∧ Q (.ref x) H2) E := by
  intro x dx nx nd ne
  refine ⟨rfl, x, dx, n, rfl, upd_same, hn, fun z => ⟨rfl, ?_⟩, fun z => qe z _ (same_mut (same_new nd) nx)⟩
  refine q z.2 z.1 x _ nx ?_ ⟨dx, upd_same, z.2, z.1⟩
  exact same_mut (same_mut (same_new nd) nx) nx
def sp_Field_fit (K : PySem.W.Frag) : Sp := fun vs H Q _ => vs.length = 2 ∧ ∃ f n p, vs = [.ref f, .int n] ∧ IsF K H f p ∧ Q (.int (n % p)) H
def t_Field_fit (K : PySem.W.Frag) : TS := (tRet (tOp oMod (tVar 1) (xFld (He.ga K "Field") (tVar 0) "prime")))
theorem pu_Field_fit {K : PySem.W.Frag} (vs : List V) (H : Hp) (Q : VK) (E : XK) (h : ∃ f n p, vs = [.ref f, .int n] ∧ IsF K H f p ∧ Q (.int (n % p)) H) :
    t_Field_fit K { nx := fun _ H' => Q .non H', rt := Q } (start ["self", "number"] vs) H := by
  obtain ⟨f, n, p, rfl, hf, q⟩ := h
  have hp := hf.pos
  obtain ⟨dx, h1, _⟩ := hf
  walk_at "go"
  exact q
def sp_Field_plus (K : PySem.W.Frag) : Sp := fun vs H Q _ => vs.length = 3 ∧ ∃ f a b p, vs = [.ref f, .int a, .int b] ∧ IsF K H f p ∧ Q (.int ((a + b) % p)) H
def t_Field_plus (K : PySem.W.Frag) : TS := (tRet (xMeth (He.ga K "Field") "fit" (sp_Field_fit K) [] (fun _ => E0) (tVar 0) (tCons (tOp oAdd (tVar 1) (tVar 2)) tNil)))
theorem pu_Field_plus {K : PySem.W.Frag} (vs : List V) (H : Hp) (Q : VK) (E : XK) (h : ∃ f a b p, vs = [.ref f, .int a, .int b] ∧ IsF K H f p ∧ Q (.int ((a + b) % p)) H) :
    t_Field_plus K { nx := fun _ H' => Q .non H', rt := Q } (start ["self", "one", "other"] vs) H := by
  obtain ⟨f, a, b, p, rfl, hf, q⟩ := h
  have hf' := hf
  obtain ⟨dx, h1, _⟩ := hf'
  walk_at "go"
  exact q
def sp_Field_minus (K : PySem.W.Frag) : Sp := fun vs H Q _ => vs.length = 3 ∧ ∃ f a b p, vs = [.ref f, .int a, .int b] ∧ IsF K H f p ∧ Q (.int ((a - b) % p)) H
def t_Field_minus (K : PySem.W.Frag) : TS := (tRet (xMeth (He.ga K "Field") "fit" (sp_Field_fit K) [] (fun _ => E0) (tVar 0) (tCons (tOp oSub (tVar 1) (tVar 2)) tNil)))
theorem pu_Field_minus {K : PySem.W.Frag} (vs : List V) (H : Hp) (Q : VK) (E : XK) (h : ∃ f a b p, vs = [.ref f, .int a, .int b] ∧ IsF K H f p ∧ Q (.int ((a - b) % p)) H) :
    t_Field_minus K { nx := fun _ H' => Q .non H', rt := Q } (start ["self", "one", "other"] vs) H := by
  obtain ⟨f, a, b, p, rfl, hf, q⟩ := h
  have hf' := hf
  obtain ⟨dx, h1, _⟩ := hf'
  walk_at "go"
  exact q
def sp_Field_times (K : PySem.W.Frag) : Sp := fun vs H Q _ => vs.length = 3 ∧ ∃ f a b p, vs = [.ref f, .int a, .int b] ∧ IsF K H f p ∧ CMul a b ∧ Q (.int (a * b % p)) H
def t_Field_times (K : PySem.W.Frag) : TS := (tRet (xMeth (He.ga K "Field") "fit" (sp_Field_fit K) [] (fun _ => E0) (tVar 0) (tCons (tOp oMul (tVar 1) (tVar 2)) tNil)))
theorem pu_Field_times {K : PySem.W.Frag} (vs : List V) (H : Hp) (Q : VK) (E : XK) (h : ∃ f a b p, vs = [.ref f, .int a, .int b] ∧ IsF K H f p ∧ CMul a b ∧ Q (.int (a * b % p)) H) :
    t_Field_times K { nx := fun _ H' => Q .non H', rt := Q } (start ["self", "one", "other"] vs) H := by
  obtain ⟨f, a, b, p, rfl, hf, hc, q⟩ := h
  have hf' := hf
  obtain ⟨dx, h1, _⟩ := hf'
  walk_at "go"
  exact q
/-- numbers of the field -/
abbrev Fd (p n : Int) : Prop := 0 ≤ n ∧ n < p
def sp_Field_back (K : PySem.W.Frag) : Sp := fun vs H Q E => vs.length = 2 ∧ ∃ f n p, vs = [.ref f, .int n] ∧ IsF K H f p ∧ Fd p n ∧
  (n = 0 → E (.ref (He.ga K "NoBack")) none H) ∧ (n ≠ 0 → inv p n * n % p = 1 → ∀ H', Same H H' → Q (.int (inv p n)) H')
def t_Field_back_1 (K : PySem.W.Frag) (E : XK) : TS := (tSeq (tAsg (tCB oDivmod (tCons (tVar 2) (tCons (tVar 3) tNil))) (gTup K 2 (gCons (gName 6) (gCons (gName 7) gNil)))) (tSeq (tPar 2 3 (tCons (tVar 3) (tCons (tVar 7) tNil))) (tPar 4 5 (tCons (tVar 5) (tCons (tOp oSub (tVar 4) (tOp oMul (tVar 6) (tVar 5))) tNil)))))
def t_Field_back_2 (K : PySem.W.Frag) (E : XK) : TS := (tRet (xMeth (He.ga K "Field") "fit" (sp_Field_fit K) [] (fun _ => E) (tVar 0) (tCons (tVar 4) tNil)))
def t_Field_back (K : PySem.W.Frag) (E : XK) : TS := (tSeq (tIfS (tTest (tOp rEq (tVar 1) (tC (.int 0)))) (xRaise (He.ga K "NoBack") E) tNext) (tSeq (tAsg (xFld (He.ga K "Field") (tVar 0) "prime") (gName 2)) (tSeq (tAsg (tVar 1) (gName 3)) (tSeq (tAsg (tC (.int 0)) (gName 4)) (tSeq (tAsg (tC (.int 1)) (gName 5)) (tSeq (tWhile (tTest (tOp oGt (tVar 3) (tC (.int 0)))) (t_Field_back_1 K E)) (t_Field_back_2 K E)))))))
theorem pu_Field_back {K : PySem.W.Frag} (vs : List V) (H : Hp) (Q : VK) (E : XK) (h : ∃ f n p, vs = [.ref f, .int n] ∧ IsF K H f p ∧ Fd p n ∧
  (n = 0 → E (.ref (He.ga K "NoBack")) none H) ∧ (n ≠ 0 → inv p n * n % p = 1 → ∀ H', Same H H' → Q (.int (inv p n)) H')) :
    t_Field_back K E { nx := fun _ H' => Q .non H', rt := Q } (start ["self", "number", "left", "right", "one", "other", "many", "rest"] vs) H := by
  obtain ⟨f, n, p, rfl, hf, hn, q0, q1⟩ := h
  have hp := hf.pos
  have hf' := hf
  obtain ⟨dx, h1, hpr, _⟩ := hf'
  walk_at "go"
  refine iteEq (fun c => q0 c) (fun c => ?_)
  walk_at "go"
  walk_at "nrm"
  refine loopW (fun m σ H' => Same H H' ∧ ∃ (l r o t : Int) (x y : Option V), σ = [some (.ref f), some (.int n), some (.int l), some (.int r), some (.int o), some (.int t), x, y] ∧ 0 ≤ r ∧ r < l ∧ l ≤ p ∧ m = r.toNat ∧
    (o * n - l) % p = 0 ∧ (t * n - r) % p = 0 ∧ ∀ d : Int, 1 ≤ d → l % d = 0 → r % d = 0 → p % d = 0 ∧ n % d = 0) n.toNat ⟨Same.refl H, p, n, 0, 1, none, none, rfl, hn.1, hn.2, Int.le_refl p, rfl, by rw [Int.zero_mul, Int.zero_sub]; exact Int.emod_eq_zero_of_dvd (Int.dvd_neg.mpr (Int.dvd_refl p)), by rw [Int.one_mul, Int.sub_self, Int.zero_emod], fun d _ a b => ⟨a, b⟩⟩ ?_
  rintro m σ H' ⟨hs, l, r, o, t, x, y, rfl, r0, rl, lp, rfl, e1, e2, hd⟩
  walk_at "go"
  refine iteD (fun c1 => turnW ?_) (fun c1 => ?_)
  · have hdm : CDivP l r := divp_ok c1 (by
      have h1 : Builtin.Int.intBits l ≤ 64 := Nat.le_trans (intBits_le_64 (by omega) (by omega)) (by decide : 64 ≤ 64)
      omega)
    have hlr : l / r < 2 ^ 64 ∧ 0 ≤ l / r := ⟨Int.lt_of_le_of_lt (Int.ediv_le_self r (by omega)) (by omega), Int.ediv_nonneg (by omega) r0⟩
    have hcm : CMul (l / r) t := .inl ⟨by omega, hlr.1⟩
    walk_at "go"
    intro T nT
    walk_at "go"
    have m0 := Int.emod_nonneg l (show r ≠ 0 by omega)
    have m1 := Int.emod_lt_of_pos l c1
    refine ⟨⟨_, ?_, hs.trans (same_new nT), r, l % r, t, o - l / r * t, _, _, rfl, m0, m1, by omega, rfl, e2, euc_step e1 e2, fun d d1 a b => ?_⟩⟩
    · omega
    · refine hd d d1 ?_ a
      have q := Int.mul_ediv_add_emod l r
      rw [← q]
      exact Int.emod_eq_zero_of_dvd (Int.dvd_add (Int.dvd_mul_of_dvd_left (Int.dvd_of_emod_eq_zero a)) (Int.dvd_of_emod_eq_zero b))
  · have r00 : r = 0 := by omega
    subst r00
    have hl : l = 1 := by
      obtain ⟨a, b⟩ := hd l (by omega) (by rw [Int.emod_self]) (by rw [Int.zero_emod])
      rcases pr_dvd hpr (by omega) a with z | z
      · exact z
      · rw [z] at b
        rw [Int.emod_eq_of_lt hn.1 hn.2] at b
        exact absurd b c
    subst hl
    have key : o % p * n % p = 1 := by
      have d1 := Int.dvd_of_emod_eq_zero e1
      have : (o * n) % p = 1 % p := Int.emod_eq_emod_iff_emod_sub_eq_zero.mpr e1
      rw [Int.mul_emod, Int.emod_emod, ← Int.mul_emod, this]
      exact Int.emod_eq_of_lt (by omega) (by omega)
    obtain ⟨k1, k2⟩ := inv_of (Int.emod_nonneg o (by omega)) (Int.emod_lt_of_pos o (by omega)) key
    have hf2 := hf.mono hs
    have h12 := hs _ _ h1
    walk_at "nrm"
    unfold t_Field_back_2
    walk_at "go"
    rw [k2]
    exact q1 c k1 H' hs
def sp_Field_over (K : PySem.W.Frag) : Sp := fun vs H Q E => vs.length = 3 ∧ ∃ f a n p, vs = [.ref f, .int a, .int n] ∧ IsF K H f p ∧ Fd p a ∧ Fd p n ∧
  (n = 0 → E (.ref (He.ga K "NoBack")) none H) ∧ (n ≠ 0 → inv p n * n % p = 1 → ∀ H', Same H H' → Q (.int (a * inv p n % p)) H')
def t_Field_over (K : PySem.W.Frag) (E : XK) : TS := (tRet (xMeth (He.ga K "Field") "times" (sp_Field_times K) [] (fun _ => E) (tVar 0) (tCons (tVar 1) (tCons (xMeth (He.ga K "Field") "back" (sp_Field_back K) [] (fun _ => E) (tVar 0) (tCons (tVar 2) tNil)) tNil))))
theorem pu_Field_over {K : PySem.W.Frag} (vs : List V) (H : Hp) (Q : VK) (E : XK) (h : ∃ f a n p, vs = [.ref f, .int a, .int n] ∧ IsF K H f p ∧ Fd p a ∧ Fd p n ∧
  (n = 0 → E (.ref (He.ga K "NoBack")) none H) ∧ (n ≠ 0 → inv p n * n % p = 1 → ∀ H', Same H H' → Q (.int (a * inv p n % p)) H')) :
    t_Field_over K E { nx := fun _ H' => Q .non H', rt := Q } (start ["self", "one", "other"] vs) H := by
  obtain ⟨f, a, n, p, rfl, hf, ha, hn, q0, q1⟩ := h
  have hp := hf.pos
  have hf' := hf
  obtain ⟨dx, h1, hpr, _⟩ := hf'
  walk_at "go"
  intro c k H' hs
  have hf2 := hf.mono hs
  have hc : CMul a (inv p n) := .inl ⟨by omega, by omega⟩
  walk_at "go"
  exact q1 c k H' hs
end Mx

set_option Elab.async false
set_option linter.all false
set_option maxRecDepth 100000
set_option maxHeartbeats 4000000
namespace Mx
open PySem PySem.Spec PyProof.Rows L2 Nt Tb
local macro_rules | `(tactic| walk_at "side") => `(tactic| first
  | assumption
  | rfl
  | exact upd_same
  | exact sqL_new
  | exact ⟨_, sqL_new⟩
  | exact ⟨_, by assumption⟩
  | exact sqT_new
  | exact ⟨_, sqT_new⟩
  | exact ⟨_, sqL_upd (by assumption) (by assumption)⟩
  | exact sqL_upd (by assumption) (by assumption)
  | (refine upd_at ?_ ?_ <;> assumption)
  | exact ty_lst (by assumption)
  | exact ty_lst upd_same
  | exact SqL.of (by assumption)
  | exact .inl (SqL.of (by assumption))
  | exact ⟨_, SqL.of (by assumption)⟩
  | omega
  | exact Nat.le_of_ble_eq_true rfl
  | decide)
local macro_rules | `(tactic| walk_at "go1") => `(tactic| first
  | (fail_if_success (show ∃ W : Nat → Nat → L2.St → Hp → Prop, _)
     fail_if_success (show ∃ W : Nat → L2.St → Hp → Prop, _)
     fail_if_success (show ∃ W : L2.St → Hp → Prop, _)
     apply Exists.intro)
  | (refine And.intro ?_ ?_; (walk_at "side")))
local macro_rules | `(tactic| walk_at "nrm") => `(tactic| dsimp only [tSeq, tAsg, tC, gName, tNext, tIfS, tRet, tDrop, tTest, tB, L2.start, List.map, List.length, List.replicate, List.cons_append, List.nil_append, List.set_cons_zero, List.set_cons_succ])
local macro_rules | `(tactic| walk_at "go") => `(tactic| repeat (walk_at "go1"))
/-! ### rows and tables in a heap -/
abbrev Row (H : Hp) (a : Addr) (xs : List Int) : Prop := H a = some (.lst (xs.map V.int))
structure Rows (H : Hp) (ls : List Addr) (T : List (List Int)) : Prop where
  len : ls.length = T.length
  at_ : ∀ (i : Nat) (l : Addr) (row : List Int), ls[i]? = some l → T[i]? = some row → Row H l row
def TabAt (H : Hp) (a : Addr) (T : List (List Int)) : Prop := ∃ ls : List Addr, H a = some (.lst (ls.map V.ref)) ∧ Rows H ls T
theorem Rows.mono {H H' : Hp} {ls : List Addr} {T : List (List Int)} (r : Rows H ls T) (e : Same H H') : Rows H' ls T := ⟨r.len, fun i l row a b => e _ _ (r.at_ i l row a b)⟩
theorem TabAt.mono {H H' : Hp} {a : Addr} {T : List (List Int)} (r : TabAt H a T) (e : Same H H') : TabAt H' a T := let ⟨ls, h, g⟩ := r; ⟨ls, e _ _ h, g.mono e⟩
theorem TabAt.of_rep {H : Hp} {v : V} {T : List (List Int)} (r : Rep H v (dT T)) : ∃ a, v = .ref a ∧ TabAt H a T := let ⟨a, ls, e, h, l, g⟩ := r.table; ⟨a, e, ls, h, l, g⟩
theorem Rows.row {H : Hp} {ls : List Addr} {T : List (List Int)} (r : Rows H ls T) {i : Nat} (h : i < T.length) : ∃ l, ls[i]? = some l ∧ T[i]? = some (T.getD i []) ∧ Row H l (T.getD i []) := by
  have h2 : i < ls.length := by rw [r.len]; exact h
  exact ⟨ls[i], List.getElem?_eq_getElem h2, at_getD h, r.at_ i _ _ (List.getElem?_eq_getElem h2) (at_getD h)⟩
theorem Rows.refs {H : Hp} {ls : List Addr} {T : List (List Int)} (r : Rows H ls T) {i : Nat} {x : V} (h : (ls.map V.ref)[i]? = some x) : ∃ l, x = .ref l ∧ ls[i]? = some l ∧ i < T.length ∧ Row H l (T.getD i []) := by
  rw [List.getElem?_map] at h
  cases e : ls[i]? with
  | none => rw [e] at h; cases h
  | some l =>
    rw [e] at h; cases h
    have hi : i < T.length := by
      have := (List.getElem?_eq_some_iff.mp e).1
      rw [← r.len]; exact this
    exact ⟨l, rfl, rfl, hi, r.at_ i l _ e (at_getD hi)⟩
theorem ints_at {xs : List Int} {i : Nat} {x : V} (h : (xs.map V.int)[i]? = some x) : i < xs.length ∧ x = .int (xs.getD i 0) ∧ xs[i]? = some (xs.getD i 0) := by
  rw [List.getElem?_map] at h
  cases e : xs[i]? with
  | none => rw [e] at h; cases h
  | some l =>
    rw [e] at h; cases h
    have hi := (List.getElem?_eq_some_iff.mp e).1
    have e2 : xs.getD i 0 = l := by rw [List.getD_eq_getElem?_getD, e]; rfl
    rw [e2]
    exact ⟨hi, rfl, rfl⟩
theorem at_ints {xs : List Int} {i : Int} (h0 : 0 ≤ i) (h : i < xs.length) : atI (xs.map V.int) i = some (.int (xs.getD i.toNat 0)) := by
  have e : xs[i.toNat]? = some (xs.getD i.toNat 0) := by
    rw [List.getD_eq_getElem?_getD, List.getElem?_eq_getElem (by omega)]; rfl
  exact at_of (Int.toNat_of_nonneg h0).symm (by rw [List.getElem?_map, e]; rfl)
theorem at_refs {ls : List Addr} {i : Int} {l : Addr} (h0 : 0 ≤ i) (h : ls[i.toNat]? = some l) : atI (ls.map V.ref) i = some (.ref l) :=
  at_of (Int.toNat_of_nonneg h0).symm (by rw [List.getElem?_map, h]; rfl)
theorem SqLo {K : PySem.W.Frag} {H : Hp} {a : Addr} {xs : List V} (h : SqL K H a xs) : SqL K H a xs ∨ SqT K H a xs := .inl h
theorem getD_of {T : List (List Int)} {i : Nat} {x : List Int} (e : T[i]? = some x) : T.getD i [] = x := by rw [List.getD_eq_getElem?_getD, e]; rfl
theorem getDi_of {T : List Int} {i : Nat} {x : Int} (e : T[i]? = some x) : T.getD i 0 = x := by rw [List.getD_eq_getElem?_getD, e]; rfl
theorem take_map_succ {α β : Type} {A : List α} {i : Nat} {x : α} (f : α → β) (h : A[i]? = some x) : (A.take (i + 1)).map f = (A.take i).map f ++ [f x] := by
  obtain ⟨h1, h2⟩ := List.getElem?_eq_some_iff.mp h
  rw [List.take_succ_eq_append_getElem h1, List.map_append, h2]
  rfl
/-! ### sums -/
abbrev In (p : Int) (xs : List Int) : Prop := ∀ x ∈ xs, 0 ≤ x ∧ x < p
def sp_sum_over (K : PySem.W.Frag) : Sp := fun vs H Q _ => vs.length = 3 ∧ ∃ (f a b : Addr) (p : Int) (xs ys : List Int), vs = [.ref f, .ref a, .ref b] ∧ IsF K H f p ∧ Row H a xs ∧ Row H b ys ∧ In p xs ∧ ∀ H', Same H H' → Q (.int (dot xs ys % p)) H'
def t_sum_over_1 (K : PySem.W.Frag) : TS := (tAsg (xMeth (He.ga K "Field") "plus" (sp_Field_plus K) [] (fun _ => E0) (tVar 0) (tCons (tVar 3) (tCons (xMeth (He.ga K "Field") "times" (sp_Field_times K) [] (fun _ => E0) (tVar 0) (tCons (tVar 4) (tCons (tVar 5) tNil))) tNil))) (gName 3))
def t_sum_over_2 (K : PySem.W.Frag) : TS := (tRet (tVar 3))
def t_sum_over (K : PySem.W.Frag) : TS := (tSeq (tAsg (tC (.int 0)) (gName 3)) (tSeq (tFor (iZip K (tCons (tVar 1) (tCons (tVar 2) tNil))) (gTup K 2 (gCons (gName 4) (gCons (gName 5) gNil))) (t_sum_over_1 K)) (t_sum_over_2 K)))
theorem pu_sum_over {K : PySem.W.Frag} (vs : List V) (H : Hp) (Q : VK) (E : XK) (h : ∃ (f a b : Addr) (p : Int) (xs ys : List Int), vs = [.ref f, .ref a, .ref b] ∧ IsF K H f p ∧ Row H a xs ∧ Row H b ys ∧ In p xs ∧ ∀ H', Same H H' → Q (.int (dot xs ys % p)) H') :
    t_sum_over K { nx := fun _ H' => Q .non H', rt := Q } (start ["field", "one", "other", "whole", "left", "right"] vs) H := by
  obtain ⟨f, a, b, p, xs, ys, rfl, hf, ha, hb, hx, q⟩ := h
  have hp := hf.pos
  have sa : SqL K H a (xs.map V.int) := SqL.of ha
  have sb : SqL K H b (ys.map V.int) := SqL.of hb
  have hf' := hf
  obtain ⟨dx, h1, _⟩ := hf'
  walk_at "go"
  refine loop2 (walk_zip (xs := xs.map V.int) (ys := ys.map V.int) rfl) 4 5 (fun i σ H' => Same H H' ∧ ∃ x4 x5, σ = [some (.ref f), some (.ref a), some (.ref b), some (.int (dot (xs.take i) (ys.take i) % p)), x4, x5]) ⟨Same.refl H, none, none, by rw [show dot (xs.take 0) (ys.take 0) % p = 0 from Int.zero_emod p]; rfl⟩ (fun i σ H' _ h => ⟨h.1.seq sa, h.1.seq sb⟩) ?_ ?_
  · rintro i x y σ H1 H2 hi ⟨s1, x4, x5, rfl⟩ hxi hyi s2
    obtain ⟨i1, rfl, ex⟩ := ints_at hxi
    obtain ⟨i2, rfl, ey⟩ := ints_at hyi
    have s12 := s1.trans s2
    have hf2 := hf.mono s12
    have h12 := s12 _ _ h1
    have rx := hx _ (Tb.getD_mem i1)
    have mm : CMul (xs.getD i 0) (ys.getD i 0) := .inl ⟨by omega, by omega⟩
    unfold t_sum_over_1
    walk_at "go"
    refine ⟨s12, some (.int (xs.getD i 0)), some (.int (ys.getD i 0)), ?_⟩
    rw [dot_take ex ey, Int.add_emod (dot (xs.take i) (ys.take i)) _ p]
    rfl
  · rintro σ H' ⟨s1, x4, x5, rfl⟩
    unfold t_sum_over_2
    walk_at "go"
    rw [List.length_map, List.length_map, dot_min]
    exact q H' s1
def timesR (p : Int) (T : List (List Int)) (ys : List Int) : List Int := T.map fun r => dot r ys % p
def sp_times_row (K : PySem.W.Frag) : Sp := fun vs H Q _ => vs.length = 3 ∧ ∃ (f t b : Addr) (p : Int) (T : List (List Int)) (ys : List Int), vs = [.ref f, .ref t, .ref b] ∧ IsF K H f p ∧ TabAt H t T ∧ Row H b ys ∧ (∀ r ∈ T, In p r) ∧ T.length < sizeLine ∧
  ∀ H' r, Same H H' → H r = none → Row H' r (timesR p T ys) → Q (.ref r) H'
def t_times_row (K : PySem.W.Frag) : TS := (tRet (tLc (iList K (tVar 1)) (gName 4) tYes (tCallSD (sp_sum_over K) [] (fun _ => E0) (tCons (tVar 0) (tCons (tVar 4) (tCons (tVar 2) tNil)))) [3, 4]))
theorem pu_times_row {K : PySem.W.Frag} (vs : List V) (H : Hp) (Q : VK) (E : XK) (h : ∃ (f t b : Addr) (p : Int) (T : List (List Int)) (ys : List Int), vs = [.ref f, .ref t, .ref b] ∧ IsF K H f p ∧ TabAt H t T ∧ Row H b ys ∧ (∀ r ∈ T, In p r) ∧ T.length < sizeLine ∧
    ∀ H' r, Same H H' → H r = none → Row H' r (timesR p T ys) → Q (.ref r) H') :
    t_times_row K { nx := fun _ H' => Q .non H', rt := Q } (start ["field", "table", "row", ".0", "line"] vs) H := by
  obtain ⟨f, t, b, p, T, ys, rfl, hf, ⟨ls, ht, hr⟩, hb, hT, hz, q⟩ := h
  have st : SqL K H t (ls.map V.ref) := SqL.of ht
  walk_at "go"
  refine lcA (walk_list (xs := ls.map V.ref)) (fun i => .int (dot (T.getD i []) ys % p)) (by rw [List.length_map, hr.len]; exact hz) (fun H' s => s.seq st) ?_ ?_
  · rintro i x H1 _ F hi s1 ⟨rfl, hx⟩ hF
    obtain ⟨l, rfl, hl, hi, hrow⟩ := hr.refs hx
    refine ⟨rfl, ?_⟩
    have hf1 := hf.mono s1
    have hrow1 := s1 _ _ hrow
    have hb1 := s1 _ _ hb
    have hin := hT _ (List.mem_of_getElem? (at_getD hi))
    walk_at "go"
    exact fun H2 s2 => hF H2 s2
  · intro r H' nr s1 e1
    refine q H' r s1 nr ?_
    show H' r = _
    rw [e1, List.length_map, hr.len, givn_listA T (fun r => V.int (dot r ys % p)) _ (fun i x e => by rw [getD_of e])]
    unfold timesR
    rw [List.map_map]
    rfl
def sp_product (K : PySem.W.Frag) : Sp := fun vs H Q _ => vs.length = 3 ∧ ∃ (f a b : Addr) (p : Int) (A B : List (List Int)) (w : Nat), vs = [.ref f, .ref a, .ref b] ∧ IsF K H f p ∧ TabAt H a A ∧ TabAt H b B ∧ (∀ r ∈ A, In p r) ∧ 0 < B.length ∧ (∀ r ∈ B, r.length = w) ∧
  A.length < sizeLine ∧ B.length < sizeLine ∧ w < 1000 ∧ ∀ H' r, Same H H' → New H H' (.ref r) (dT (mulT p A B)) → Q (.ref r) H'
def t_product_1 (K : PySem.W.Frag) : TS := (tDrop (tBM K "list" rAppend (tVar 3) (tCons (tLc (iRng1 (tCons (tCB (oLen K) (tCons (tOp (rIxL K) (tVar 2) (tC (.int 0))) tNil)) tNil)) (gName 6) tYes (tCallSD (sp_sum_over K) [] (fun _ => E0) (tCons (tVar 0) (tCons (tVar 4) (tCons (tLc (iList K (tVar 2)) (gName 7) tYes (tOp (rIxL K) (tVar 7) (tVar 6)) [5, 7]) tNil)))) [5, 6]) tNil)))
def t_product_2 (K : PySem.W.Frag) : TS := (tRet (tVar 3))
def t_product (K : PySem.W.Frag) : TS := (tSeq (tAsg (tLst tNil) (gName 3)) (tSeq (tFor (iList K (tVar 1)) (gName 4) (t_product_1 K)) (t_product_2 K)))
theorem pu_product {K : PySem.W.Frag} (vs : List V) (H : Hp) (Q : VK) (E : XK) (h : ∃ (f a b : Addr) (p : Int) (A B : List (List Int)) (w : Nat), vs = [.ref f, .ref a, .ref b] ∧ IsF K H f p ∧ TabAt H a A ∧ TabAt H b B ∧ (∀ r ∈ A, In p r) ∧ 0 < B.length ∧ (∀ r ∈ B, r.length = w) ∧
    A.length < sizeLine ∧ B.length < sizeLine ∧ w < 1000 ∧ ∀ H' r, Same H H' → New H H' (.ref r) (dT (mulT p A B)) → Q (.ref r) H') :
    t_product K { nx := fun _ H' => Q .non H', rt := Q } (start ["field", "one", "other", "found", "line", ".0", "k", "row"] vs) H := by
  obtain ⟨f, a, b, p, A, B, w, rfl, hf, ⟨ls, ha, hA⟩, ⟨ms, hb, hB⟩, hT, hB0, hBw, hzA, hzB, hw, q⟩ := h
  have sa : SqL K H a (ls.map V.ref) := SqL.of ha
  have sb : SqL K H b (ms.map V.ref) := SqL.of hb
  have h10 : (1000 : Nat) < sizeLine := by decide
  walk_at "go"
  intro o no
  walk_at "go"
  have eh : B.headD [] = B.getD 0 [] := by cases B <;> rfl
  refine loop1 (walk_list (xs := ls.map V.ref)) 4 (fun i σ H' => Same H H' ∧ ∃ x4 vs, AccL H H' o vs (((A.take i).map fun line => (List.range w).map fun k => dot line (col B k) % p).map dI) ∧ σ = [some (.ref f), some (.ref a), some (.ref b), some (.ref o), x4, none, none, none]) ⟨same_new no, none, [], AccL.start no, rfl⟩ (fun i σ H' _ h => h.1.seq sa) ?_ ?_
  · rintro i x σ _ H1 hi ⟨s1, x4, vs, ac, rfl⟩ ⟨rfl, hx⟩
    obtain ⟨l, rfl, hl, hi, hrow⟩ := hA.refs hx
    obtain ⟨m0, hm0, _, hrow0⟩ := hB.row hB0
    have hlen : (B.getD 0 []).length = w := hBw _ (List.mem_of_getElem? (at_getD hB0))
    have sb1 := s1.seq sb
    have sm1 : SqL K H1 m0 ((B.getD 0 []).map V.int) := SqL.of (s1 _ _ hrow0)
    have sm1o := SqLo sm1
    have e0 : atI (ms.map V.ref) 0 = some (.ref m0) := at_refs (by omega) hm0
    have hat := ac.at_
    have hl2 : ((B.getD 0 []).map V.int).length = w := by rw [List.length_map, hlen]
    unfold t_product_1
    walk_at "go"
    refine lcA walk_range (fun k => .int (dot (A.getD i []) (col B k) % p)) (show ((B.getD 0 []).map V.int).length < sizeLine by rw [List.length_map, hlen]; omega) (fun _ _ => trivial) ?_ ?_
    · rintro k y _ H2 F hk s2 ⟨rfl, rfl⟩ hF
      rw [List.length_map, hlen] at hk
      refine ⟨rfl, ?_⟩
      have s12 := s1.trans s2
      have sb2 := s12.seq sb
      walk_at "go"
      refine lcA (walk_list (xs := ms.map V.ref)) (fun j => .int ((B.getD j []).getD k 0)) (by rw [List.length_map, hB.len]; exact hzB) (fun H' s => s.seq sb2) ?_ ?_
      · rintro j z _ H3 F3 hj s3 ⟨rfl, hz⟩ hF3
        obtain ⟨m, rfl, hm, hj, hrowj⟩ := hB.refs hz
        have hwj : (B.getD j []).length = w := hBw _ (List.mem_of_getElem? (at_getD hj))
        have sm3 : SqL K H3 m ((B.getD j []).map V.int) := SqL.of (s3 _ _ (s12 _ _ hrowj))
        have e1 : atI ((B.getD j []).map V.int) (0 + (k : Int)) = some (.int ((B.getD j []).getD k 0)) := by
          have := at_ints (xs := B.getD j []) (i := 0 + (k : Int)) (by omega) (by omega)
          rw [show (0 + (k : Int)).toNat = k by omega] at this
          exact this
        refine ⟨rfl, ?_⟩
        walk_at "go"
        exact hF3 _ (Same.refl _)
      · intro c H3 nc s3 ec
        have s13 := s12.trans s3
        have hcol : Row H3 c (col B k) := by
          show H3 c = _
          rw [ec, List.length_map, hB.len, givn_listA B (fun r => V.int (r.getD k 0)) _ (fun j x e => by rw [getD_of e])]
          unfold col
          rw [List.map_map]
          rfl
        have hf3 := hf.mono s13
        have hrow3 := s13 _ _ hrow
        have hin := hT _ (List.mem_of_getElem? (at_getD hi))
        walk_at "go"
        exact fun H4 s4 => hF H4 (s3.trans s4)
    · intro c H2 nc s2 ec
      rw [List.length_map, hlen, givn_all] at ec
      have hat2 := s2 _ _ hat
      have hlv : vs.length < sizeLine := by
        rw [ac.len, List.length_map, List.length_map, List.length_take]
        omega
      walk_at "go"
      refine ⟨same_mut (s1.trans s2) no, some (.ref l), vs ++ [.ref c], ?_, rfl⟩
      rw [take_map_succ _ (at_getD hi), List.map_append]
      refine ac.push s2 s1 (New.ints nc ?_)
      rw [ec, List.map_map]
      rfl
  · rintro σ H' ⟨s1, x4, vs, ac, rfl⟩
    unfold t_product_2
    walk_at "go"
    refine q H' o s1 ?_
    have := ac.toNew
    rw [List.length_map, hA.len, List.take_length] at this
    unfold mulT
    rw [eh, hBw _ (List.mem_of_getElem? (at_getD hB0))]
    exact this
def sp_ones (K : PySem.W.Frag) : Sp := fun vs H Q _ => vs.length = 1 ∧ ∃ (n : Nat), vs = [.int n] ∧ n < 1000 ∧ ∀ H' r, Same H H' → New H H' (.ref r) (dT (onesT n)) → Q (.ref r) H'
def t_ones (K : PySem.W.Frag) : TS := (tRet (tLc (iRng1 (tCons (tVar 0) tNil)) (gName 2) tYes (tLc (iRng1 (tCons (tVar 0) tNil)) (gName 3) tYes (tIf (tTest (tOp rEq (tVar 2) (tVar 3))) (tC (.int 1)) (tC (.int 0))) [1, 3]) [1, 2]))
theorem pu_ones {K : PySem.W.Frag} (vs : List V) (H : Hp) (Q : VK) (E : XK) (h : ∃ (n : Nat), vs = [.int n] ∧ n < 1000 ∧ ∀ H' r, Same H H' → New H H' (.ref r) (dT (onesT n)) → Q (.ref r) H') :
    t_ones K { nx := fun _ H' => Q .non H', rt := Q } (start ["many", ".0", "k", "place"] vs) H := by
  obtain ⟨n, rfl, hn, q⟩ := h
  have h10 : (1000 : Nat) < sizeLine := by decide
  walk_at "go"
  refine lcN walk_range (fun k => dI ((List.range n).map fun j => if k = j then 1 else 0)) (show n < sizeLine by omega) (fun _ _ => trivial) ?_ ?_
  · rintro k x _ H1 F hk s1 ⟨rfl, rfl⟩ hF
    refine ⟨rfl, ?_⟩
    walk_at "go"
    refine lcA walk_range (fun j => .int (if k = j then 1 else 0)) (show n < sizeLine by omega) (fun _ _ => trivial) ?_ ?_
    · rintro j y _ H2 F2 hj s2 ⟨rfl, rfl⟩ hF2
      refine ⟨rfl, ?_⟩
      walk_at "go"
      refine iteEq (fun c => ?_) (fun c => ?_)
      · rw [if_pos (by omega)] at hF2
        exact hF2 _ (Same.refl _)
      · rw [if_neg (by omega)] at hF2
        exact hF2 _ (Same.refl _)
    · intro p H2 np s2 e2
      refine hF _ _ s2 (New.ints np ?_)
      have e2 : H2 p = some (.lst (givn (fun _ => true) (fun j => V.int (if k = j then 1 else 0)) n)) := e2
      rw [e2, givn_all, List.map_map]
      rfl
  · intro p H2 s2 nw
    refine q H2 p s2 ?_
    have nw : New H H2 (.ref p) (.lst (givn (fun _ => true) (fun k => dI ((List.range n).map fun j => if k = j then 1 else 0)) n)) := nw
    rw [givn_all] at nw
    unfold dT onesT
    rw [List.map_map]
    exact nw
def sp_less_row (K : PySem.W.Frag) : Sp := fun vs H Q _ => vs.length = 4 ∧ ∃ (f a b : Addr) (p m : Int) (xs ys : List Int), vs = [.ref f, .ref a, .int m, .ref b] ∧ IsF K H f p ∧ Row H a xs ∧ Row H b ys ∧ (0 ≤ m ∧ m < p) ∧ xs.length < sizeLine ∧
  ∀ H' r, Same H H' → H r = none → Row H' r (lessR p m xs ys) → Q (.ref r) H'
def t_less_row (K : PySem.W.Frag) : TS := (tRet (tLc (iZip K (tCons (tVar 1) (tCons (tVar 3) tNil))) (gTup K 2 (gCons (gName 5) (gCons (gName 6) gNil))) tYes (xMeth (He.ga K "Field") "minus" (sp_Field_minus K) [] (fun _ => E0) (tVar 0) (tCons (tVar 5) (tCons (xMeth (He.ga K "Field") "times" (sp_Field_times K) [] (fun _ => E0) (tVar 0) (tCons (tVar 2) (tCons (tVar 6) tNil))) tNil))) [4, 5, 6]))
theorem pu_less_row {K : PySem.W.Frag} (vs : List V) (H : Hp) (Q : VK) (E : XK) (h : ∃ (f a b : Addr) (p m : Int) (xs ys : List Int), vs = [.ref f, .ref a, .int m, .ref b] ∧ IsF K H f p ∧ Row H a xs ∧ Row H b ys ∧ (0 ≤ m ∧ m < p) ∧ xs.length < sizeLine ∧
    ∀ H' r, Same H H' → H r = none → Row H' r (lessR p m xs ys) → Q (.ref r) H') :
    t_less_row K { nx := fun _ H' => Q .non H', rt := Q } (start ["field", "row", "many", "other", ".0", "left", "right"] vs) H := by
  obtain ⟨f, a, b, p, m, xs, ys, rfl, hf, ha, hb, hm, hz, q⟩ := h
  have hp := hf.pos
  have sa : SqL K H a (xs.map V.int) := SqL.of ha
  have sb : SqL K H b (ys.map V.int) := SqL.of hb
  have hf' := hf
  obtain ⟨dx, h1, _⟩ := hf'
  have hmin : min (xs.map V.int).length (ys.map V.int).length < sizeLine := by
    rw [List.length_map, List.length_map]; omega
  walk_at "go"
  refine lcA (walk_zip (xs := xs.map V.int) (ys := ys.map V.int) rfl) (fun i => .int ((xs.getD i 0 - m * ys.getD i 0 % p) % p)) hmin (fun H' s => ⟨s.seq sa, s.seq sb⟩) ?_ ?_
  · rintro i x H1 H2 F hi s1 hy hF
    obtain ⟨T, x1, y1, rfl, nT, rfl, e1, e2⟩ := hy
    obtain ⟨i1, rfl, ex⟩ := ints_at e1
    obtain ⟨i2, rfl, ey⟩ := ints_at e2
    have s2 := same_new (o := .tup [.int (xs.getD i 0), .int (ys.getD i 0)]) nT
    have s12 := s1.trans s2
    have hf2 := hf.mono s12
    have h12 := s12 _ _ h1
    have mm : CMul m (ys.getD i 0) := .inl ⟨by omega, by omega⟩
    walk_at "go"
    exact hF _ s2
  · intro p' H2 np s2 e2
    refine q H2 p' s2 np ?_
    show H2 p' = _
    rw [e2, List.length_map, List.length_map, givn_all, ← lessR_eq, List.map_map]
    rfl
def sp_first_with (K : PySem.W.Frag) : Sp := fun vs H Q _ => vs.length = 3 ∧ ∃ (a : Addr) (L : List (List Int)) (d j : Nat), vs = [.ref a, .int d, .int j] ∧ TabAt H a L ∧ (∀ r ∈ L, j < r.length) ∧ L.length < 1000 ∧ d ≤ L.length ∧
  (firstW L d j = none → Q .non H) ∧ (∀ k : Nat, firstW L d j = some k → Q (.int k) H)
def t_first_with_1 (K : PySem.W.Frag) : TS := (tIfS (tTest (tOp rNe (tOp (rIxL K) (tOp (rIxL K) (tVar 0) (tVar 3)) (tVar 2)) (tC (.int 0)))) (tRet (tVar 3)) tNext)
def t_first_with_2 (K : PySem.W.Frag) : TS := (tRet (tC .non))
def t_first_with (K : PySem.W.Frag) : TS := (tSeq (tFor (iRng2 (tCons (tVar 1) (tCons (tCB (oLen K) (tCons (tVar 0) tNil)) tNil))) (gName 3) (t_first_with_1 K)) (t_first_with_2 K))
theorem pu_first_with {K : PySem.W.Frag} (vs : List V) (H : Hp) (Q : VK) (E : XK) (h : ∃ (a : Addr) (L : List (List Int)) (d j : Nat), vs = [.ref a, .int d, .int j] ∧ TabAt H a L ∧ (∀ r ∈ L, j < r.length) ∧ L.length < 1000 ∧ d ≤ L.length ∧
    (firstW L d j = none → Q .non H) ∧ (∀ k : Nat, firstW L d j = some k → Q (.int k) H)) :
    t_first_with K { nx := fun _ H' => Q .non H', rt := Q } (start ["rows", "done", "place", "k"] vs) H := by
  obtain ⟨a, L, d, j, rfl, ⟨ls, ha, hL⟩, hj, hn, hd, q0, q1⟩ := h
  have sa : SqL K H a (ls.map V.ref) := SqL.of ha
  have sao := SqLo sa
  have hl2 : (ls.map V.ref).length = L.length := by rw [List.length_map, hL.len]
  walk_at "go"
  refine loop1 (walk_range (lo := (d : Int)) (n := (((ls.map V.ref).length : Int) - (d : Int)).toNat)) 3 (fun i σ H' => H' = H ∧ (∀ k, d ≤ k → k < d + i → g2 L k j = 0) ∧ ∃ x3, σ = [some (.ref a), some (.int d), some (.int j), x3]) ⟨rfl, fun k h1 h2 => by omega, none, rfl⟩ (fun _ _ _ _ _ => trivial) ?_ ?_
  · rintro i x σ _ H1 hi ⟨rfl, hz, x3, rfl⟩ ⟨rfl, rfl⟩
    rw [hl2] at hi
    have hk : d + i < L.length := by omega
    obtain ⟨l, hl, _, hrow⟩ := hL.row hk
    have hw := hj _ (List.mem_of_getElem? (at_getD hk))
    have sl : SqL K H1 l ((L.getD (d + i) []).map V.int) := SqL.of hrow
    have e1 : atI (ls.map V.ref) ((d : Int) + (i : Int)) = some (.ref l) := at_refs (by omega) (by rw [show ((d : Int) + (i : Int)).toNat = d + i by omega]; exact hl)
    have e2 : atI ((L.getD (d + i) []).map V.int) (j : Int) = some (.int (g2 L (d + i) j)) := at_ints (by omega) (by omega)
    unfold t_first_with_1
    walk_at "go"
    refine iteNe (fun c => ?_) (fun c => ?_)
    · have q := q1 (d + i) (firstW_is (by omega) hk c fun k h1 h2 => hz k h1 h2)
      rw [Int.natCast_add] at q
      walk_at "go"
      exact q
    · walk_at "go"
      refine ⟨rfl, fun k h1 h2 => ?_, _, rfl⟩
      by_cases e : k = d + i
      · rw [e]; exact c
      · exact hz k h1 (by omega)
  · rintro σ _ ⟨rfl, hz, x3, rfl⟩
    rw [hl2] at hz
    unfold t_first_with_2
    walk_at "go"
    exact q0 (firstW_no fun k h1 h2 => hz k h1 (by omega))
/-! ### cleared tables -/
/-- the object c made since H0: what its lists hold -/
structure IsC (K : PySem.W.Frag) (H0 H : Hp) (c f L M Pl : Addr) (s : Cl) : Prop where
  obj : ∃ dx, H c = some (.ins (He.ga K "Cleared") dx [("field", .ref f), ("lines", .ref L), ("made_of", .ref M), ("places", .ref Pl)])
  lin : ∃ ls : List Addr, H L = some (.lst (ls.map V.ref)) ∧ Rows H ls s.lines ∧ ∀ l ∈ ls, l ≠ L ∧ l ≠ M ∧ l ≠ Pl
  mad : ∃ ms : List Addr, H M = some (.lst (ms.map V.ref)) ∧ Rows H ms s.made ∧ ms.Nodup ∧ ∀ l ∈ ms, l ≠ L ∧ l ≠ M ∧ l ≠ Pl ∧ H0 l = none
  pls : H Pl = some (.lst (s.places.map fun (q : Nat) => V.int q))
  fre : H0 L = none ∧ H0 M = none ∧ H0 Pl = none
  dif : L ≠ M ∧ L ≠ Pl ∧ M ≠ Pl
theorem IsC.mono {K : PySem.W.Frag} {H0 H H' : Hp} {c f L M Pl : Addr} {s : Cl} (i : IsC K H0 H c f L M Pl s) (e : Same H H') : IsC K H0 H' c f L M Pl s :=
  let ⟨⟨dx, a⟩, ⟨ls, b1, b2, b3⟩, ⟨ms, c1, c2, c3, c4⟩, d, f, g⟩ := i
  ⟨⟨dx, e _ _ a⟩, ⟨ls, e _ _ b1, b2.mono e, b3⟩, ⟨ms, e _ _ c1, c2.mono e, c3, c4⟩, e _ _ d, f, g⟩
theorem ne_kind {H : Hp} {a b : Addr} {o u : HO} (h : H a = some o) (g : H b = some u) (n : o ≠ u) : a ≠ b := fun z => n (by rw [z, g] at h; exact (Option.some.inj h).symm)
theorem Rows.upd {H : Hp} {ls : List Addr} {T : List (List Int)} {a : Addr} {o : HO} (r : Rows H ls T) (h : ∀ l ∈ ls, l ≠ a) : Rows (upd H a o) ls T :=
  ⟨r.len, fun i l row e1 e2 => upd_atN (h l (List.mem_of_getElem? e1)) (r.at_ i l row e1 e2)⟩
/-- one row put in place -/
theorem Rows.set {H : Hp} {ls : List Addr} {T : List (List Int)} {i : Nat} {l : Addr} {row : List Int} (r : Rows H ls T) (h : Row H l row) : Rows H (ls.set i l) (T.set i row) := by
  refine ⟨by rw [List.length_set, List.length_set]; exact r.len, fun k l' row' e1 e2 => ?_⟩
  rw [List.getElem?_set] at e1 e2
  by_cases e : i = k
  · subst e
    rw [if_pos rfl] at e1 e2
    rw [r.len] at e1
    by_cases z : i < T.length
    · rw [if_pos z] at e1 e2
      cases e1; cases e2
      exact h
    · rw [if_neg z] at e1; cases e1
  · rw [if_neg e] at e1 e2
    exact r.at_ k l' row' e1 e2
theorem same_mutN {H H' : Hp} {a : Addr} {o : HO} (e : Same H H') (h : H a = none) : Same H (upd H' a o) := same_mut e h
/-- the rows' list written anew -/
theorem IsC.setL {K : PySem.W.Frag} {H0 H : Hp} {c f L M Pl : Addr} {s : Cl} (i : IsC K H0 H c f L M Pl s) {ls : List Addr} {T : List (List Int)} (hr : Rows H ls T) (hn : ∀ l ∈ ls, l ≠ L ∧ l ≠ M ∧ l ≠ Pl) : IsC K H0 (upd H L (.lst (ls.map V.ref))) c f L M Pl ⟨T, s.made, s.places⟩ := by
  obtain ⟨⟨dx, a⟩, ⟨ls', b1, b2, b3⟩, ⟨ms, c1, c2, c3, c4⟩, d, fr, g⟩ := i
  have hc : c ≠ L := ne_kind a b1 (fun z => by cases z)
  exact ⟨⟨dx, upd_atN hc a⟩, ⟨ls, upd_same, hr.upd fun l hl => (hn l hl).1, hn⟩, ⟨ms, upd_atN (Ne.symm g.1) c1, c2.upd fun l hl => (c4 l hl).1, c3, c4⟩, upd_atN (Ne.symm g.2.1) d, fr, g⟩
theorem IsC.setM {K : PySem.W.Frag} {H0 H : Hp} {c f L M Pl : Addr} {s : Cl} (i : IsC K H0 H c f L M Pl s) {ls : List Addr} {T : List (List Int)} (hr : Rows H ls T) (nd : ls.Nodup) (hn : ∀ l ∈ ls, l ≠ L ∧ l ≠ M ∧ l ≠ Pl ∧ H0 l = none) : IsC K H0 (upd H M (.lst (ls.map V.ref))) c f L M Pl ⟨s.lines, T, s.places⟩ := by
  obtain ⟨⟨dx, a⟩, ⟨ls', b1, b2, b3⟩, ⟨ms, c1, c2, c3, c4⟩, d, fr, g⟩ := i
  have hc : c ≠ M := ne_kind a c1 (fun z => by cases z)
  exact ⟨⟨dx, upd_atN hc a⟩, ⟨ls', upd_atN g.1 b1, b2.upd fun l hl => (b3 l hl).2.1, b3⟩, ⟨ls, upd_same, hr.upd fun l hl => (hn l hl).2.1, nd, hn⟩, upd_atN (Ne.symm g.2.2) d, fr, g⟩
theorem IsC.setP {K : PySem.W.Frag} {H0 H : Hp} {c f L M Pl : Addr} {s : Cl} (i : IsC K H0 H c f L M Pl s) {ps : List Nat} : IsC K H0 (upd H Pl (.lst (ps.map fun (q : Nat) => V.int q))) c f L M Pl ⟨s.lines, s.made, ps⟩ := by
  obtain ⟨⟨dx, a⟩, ⟨ls', b1, b2, b3⟩, ⟨ms, c1, c2, c3, c4⟩, d, fr, g⟩ := i
  have hc : c ≠ Pl := ne_kind a d (fun z => by cases z)
  exact ⟨⟨dx, upd_atN hc a⟩, ⟨ls', upd_atN g.2.1 b1, b2.upd fun l hl => (b3 l hl).2.2, b3⟩, ⟨ms, upd_atN g.2.2 c1, c2.upd fun l hl => (c4 l hl).2.2.1, c3, c4⟩, upd_same, fr, g⟩
/-- a new row put in place -/
theorem IsC.putL {K : PySem.W.Frag} {H0 H : Hp} {c f L M Pl : Addr} {s : Cl} {ls : List Addr} {i : Nat} {l : Addr} {row : List Int} (I : IsC K H0 H c f L M Pl s) (e : H L = some (.lst (ls.map V.ref))) (h : Row H l row) (hl : l ≠ L ∧ l ≠ M ∧ l ≠ Pl) :
    IsC K H0 (upd H L (.lst ((ls.map V.ref).set i (.ref l)))) c f L M Pl ⟨s.lines.set i row, s.made, s.places⟩ := by
  obtain ⟨ls', b1, b2, b3⟩ := I.lin
  have : ls.map V.ref = ls'.map V.ref := by rw [e] at b1; injection b1 with z; injection z
  have : ls = ls' := (List.map_inj_right fun _ _ z => V.ref.inj z).mp this
  subst this
  have := I.setL (b2.set (i := i) h) fun x hx => by
    rcases List.mem_or_eq_of_mem_set hx with hx | rfl
    · exact b3 x hx
    · exact hl
  rw [List.map_set] at this
  exact this
theorem nodup_set {ls : List Addr} {i : Nat} {l : Addr} (h : ls.Nodup) (hl : l ∉ ls) : (ls.set i l).Nodup := by
  refine List.nodup_iff_pairwise_ne.mpr (List.pairwise_iff_getElem.mpr fun a b ha hb hab => ?_)
  rw [List.length_set] at ha hb
  rw [List.getElem_set, List.getElem_set]
  have hp := List.pairwise_iff_getElem.mp (List.nodup_iff_pairwise_ne.mp h) a b ha hb hab
  by_cases e1 : i = a
  · rw [if_pos e1, if_neg (by omega)]
    exact fun z => hl (z ▸ List.getElem_mem _)
  · rw [if_neg e1]
    by_cases e2 : i = b
    · rw [if_pos e2]
      exact fun z => hl (z ▸ List.getElem_mem _)
    · rw [if_neg e2]; exact hp
theorem IsC.putM {K : PySem.W.Frag} {H0 H : Hp} {c f L M Pl : Addr} {s : Cl} {ls : List Addr} {i : Nat} {l : Addr} {row : List Int} (I : IsC K H0 H c f L M Pl s) (e : H M = some (.lst (ls.map V.ref))) (h : Row H l row) (hn : l ∉ ls) (hl : l ≠ L ∧ l ≠ M ∧ l ≠ Pl ∧ H0 l = none) :
    IsC K H0 (upd H M (.lst ((ls.map V.ref).set i (.ref l)))) c f L M Pl ⟨s.lines, s.made.set i row, s.places⟩ := by
  obtain ⟨ls', b1, b2, b4, b3⟩ := I.mad
  have : ls.map V.ref = ls'.map V.ref := by rw [e] at b1; injection b1 with z; injection z
  have : ls = ls' := (List.map_inj_right fun _ _ z => V.ref.inj z).mp this
  subst this
  have := I.setM (b2.set (i := i) h) (nodup_set b4 hn) fun x hx => by
    rcases List.mem_or_eq_of_mem_set hx with hx | rfl
    · exact b3 x hx
    · exact hl
  rw [List.map_set] at this
  exact this
/-- what is new is none of its lists -/
theorem IsC.new {K : PySem.W.Frag} {H0 H : Hp} {c f L M Pl : Addr} {s : Cl} (I : IsC K H0 H c f L M Pl s) (e : Same H0 H) {l : Addr} (n : H l = none) : l ≠ L ∧ l ≠ M ∧ l ≠ Pl ∧ H0 l = none := by
  obtain ⟨ls, b1, _⟩ := I.lin
  obtain ⟨ms, c1, _⟩ := I.mad
  exact ⟨(ne_of_none b1 n).symm, (ne_of_none c1 n).symm, (ne_of_none I.pls n).symm, e.free n⟩
theorem Rows.get {H : Hp} {ls : List Addr} {T : List (List Int)} (r : Rows H ls T) {i : Nat} {row : List Int} (h : T[i]? = some row) : ∃ l, ls[i]? = some l ∧ Row H l row := by
  have h2 : i < ls.length := by rw [r.len]; exact (List.getElem?_eq_some_iff.mp h).1
  exact ⟨ls[i], List.getElem?_eq_getElem h2, r.at_ i _ _ (List.getElem?_eq_getElem h2) h⟩
theorem Rows.ex {H : Hp} {ls : List Addr} {T : List (List Int)} (r : Rows H ls T) {l : Addr} (h : l ∈ ls) : ∃ o, H l = some o := by
  obtain ⟨i, hi⟩ := List.getElem?_of_mem h
  have h2 : i < T.length := by rw [← r.len]; exact (List.getElem?_eq_some_iff.mp hi).1
  exact ⟨_, r.at_ i l _ hi (at_getD h2)⟩
theorem ixN_of {n k : Nat} (h : k < n) : ixN n (k : Int) = some k := by
  unfold ixN
  rw [if_pos (by omega), if_pos (by omega)]
  simp
theorem at_refsN {ls : List Addr} {i : Nat} {l : Addr} (h : ls[i]? = some l) : atI (ls.map V.ref) (i : Int) = some (.ref l) := at_refs (by omega) (by simpa using h)
theorem at_intsN {xs : List Int} {i : Nat} (h : i < xs.length) : atI (xs.map V.int) (i : Int) = some (.int (xs.getD i 0)) := by
  have := at_ints (xs := xs) (i := (i : Int)) (by omega) (by omega)
  simpa using this
def sp_Cleared_clear_others (K : PySem.W.Frag) : Sp := fun vs H Q _ => vs.length = 3 ∧ ∃ (H0 : Hp) (c f L M Pl : Addr) (p : Int) (n w d j : Nat) (s : Cl), vs = [.ref c, .int d, .int j] ∧ IsC K H0 H c f L M Pl s ∧ IsF K H0 f p ∧ Same H0 H ∧ Sh p n w s.lines ∧ Sh p n n s.made ∧ d < n ∧ j < w ∧ n < 1000 ∧ w < 1000 ∧
  ∀ H', Same H0 H' → IsC K H0 H' c f L M Pl ⟨others p d j s.lines s.lines, others p d j s.lines s.made, s.places⟩ → Q .non H'
def t_Cleared_clear_others_1 (K : PySem.W.Frag) : TS := (tSeq (tAsg (tOp (rIxL K) (tOp (rIxL K) (xFld (He.ga K "Cleared") (tVar 0) "lines") (tVar 3)) (tVar 2)) (gName 4)) (tIfS (tAnd (tTest (tOp rNe (tVar 3) (tVar 1))) (tTest (tOp rNe (tVar 4) (tC (.int 0))))) (tSeq (tAsg (tCallSD (sp_less_row K) [] (fun _ => E0) (tCons (xFld (He.ga K "Cleared") (tVar 0) "field") (tCons (tOp (rIxL K) (xFld (He.ga K "Cleared") (tVar 0) "lines") (tVar 3)) (tCons (tVar 4) (tCons (tOp (rIxL K) (xFld (He.ga K "Cleared") (tVar 0) "lines") (tVar 1)) tNil))))) (gSub (xFld (He.ga K "Cleared") (tVar 0) "lines") (tVar 3) rSetL)) (tAsg (tCallSD (sp_less_row K) [] (fun _ => E0) (tCons (xFld (He.ga K "Cleared") (tVar 0) "field") (tCons (tOp (rIxL K) (xFld (He.ga K "Cleared") (tVar 0) "made_of") (tVar 3)) (tCons (tVar 4) (tCons (tOp (rIxL K) (xFld (He.ga K "Cleared") (tVar 0) "made_of") (tVar 1)) tNil))))) (gSub (xFld (He.ga K "Cleared") (tVar 0) "made_of") (tVar 3) rSetL))) tNext))
def t_Cleared_clear_others (K : PySem.W.Frag) : TS := (tFor (iRng1 (tCons (tCB (oLen K) (tCons (xFld (He.ga K "Cleared") (tVar 0) "lines") tNil)) tNil)) (gName 3) (t_Cleared_clear_others_1 K))
theorem pu_Cleared_clear_others {K : PySem.W.Frag} (vs : List V) (H : Hp) (Q : VK) (E : XK) (h : ∃ (H0 : Hp) (c f L M Pl : Addr) (p : Int) (n w d j : Nat) (s : Cl), vs = [.ref c, .int d, .int j] ∧ IsC K H0 H c f L M Pl s ∧ IsF K H0 f p ∧ Same H0 H ∧ Sh p n w s.lines ∧ Sh p n n s.made ∧ d < n ∧ j < w ∧ n < 1000 ∧ w < 1000 ∧
    ∀ H', Same H0 H' → IsC K H0 H' c f L M Pl ⟨others p d j s.lines s.lines, others p d j s.lines s.made, s.places⟩ → Q .non H') :
    t_Cleared_clear_others K { nx := fun _ H' => Q .non H', rt := Q } (start ["self", "done", "place", "k", "many"] vs) H := by
  obtain ⟨H0, c, f, L, M, Pl, p, n, w, d, j, s, rfl, hC, hf, hs, sL, sM, hd, hj, hn, hw, q⟩ := h
  have h10 : (1000 : Nat) < sizeLine := by decide
  have hCk := hC
  obtain ⟨⟨dx, ho⟩, ⟨ls, hL, rL, _⟩, _⟩ := hCk
  have hl0 : (ls.map V.ref).length = n := by rw [List.length_map, rL.len, sL.len]
  have hL' : SqL K H L (ls.map V.ref) ∨ SqT K H L (ls.map V.ref) := .inl (SqL.of hL)
  walk_at "go"
  have hC : IsC K H0 H c f L M Pl ⟨othersTo p d j s.lines s.lines 0, othersTo p d j s.lines s.made 0, s.places⟩ := by
    rw [othersTo_zero, othersTo_zero]; assumption
  refine loop1 (walk_range (lo := 0) (n := (ls.map V.ref).length)) 3 (fun i σ H' => Same H0 H' ∧ IsC K H0 H' c f L M Pl ⟨othersTo p d j s.lines s.lines i, othersTo p d j s.lines s.made i, s.places⟩ ∧ ∃ x3 x4, σ = [some (.ref c), some (.int d), some (.int j), x3, x4]) ⟨hs, hC, none, none, rfl⟩ (fun _ _ _ _ _ => trivial) ?_ ?_
  · rintro i x σ _ H1 hi ⟨s1, hC1, x3, x4, rfl⟩ ⟨rfl, ex⟩
    replace ex : x = .int (i : Int) := ex.trans (congrArg V.int (Int.zero_add _))
    subst ex
    rw [hl0] at hi
    have hiL : i < s.lines.length := by rw [sL.len]; exact hi
    have hiM : i < s.made.length := by rw [sM.len]; exact hi
    have hdL : d < s.lines.length := by rw [sL.len]; exact hd
    have hdM : d < s.made.length := by rw [sM.len]; exact hd
    have hC1' := hC1
    obtain ⟨⟨dx1, ho1⟩, ⟨ls1, hL1, rL1, nL1⟩, ⟨ms1, hM1, rM1, _, nM1⟩, hP1, fr1, df1⟩ := hC1'
    obtain ⟨l, el, rl⟩ := rL1.get (othersTo_self (p := p) (d := d) (pl := j) (R := s.lines) hiL)
    obtain ⟨ld, eld, rld⟩ := rL1.get (othersTo_done (p := p) (pl := j) (i := i) (R := s.lines) hdL)
    obtain ⟨m, em, rm⟩ := rM1.get (othersTo_self (p := p) (d := d) (pl := j) (R := s.lines) hiM)
    obtain ⟨md, emd, rmd⟩ := rM1.get (othersTo_done (p := p) (pl := j) (i := i) (R := s.lines) hdM)
    have hjl : j < (s.lines.getD i []).length := by rw [sL.rlen hi]; exact hj
    have a1 := at_refsN el
    have a2 := at_refsN eld
    have a3 := at_refsN em
    have a4 := at_refsN emd
    have a5 := at_intsN hjl
    have rg := sL.rng hi hj
    have zl : (s.lines.getD i []).length < sizeLine := by rw [sL.rlen hi]; omega
    have zm : (s.made.getD i []).length < sizeLine := by rw [sM.rlen hi]; omega
    have hf1 := hf.mono s1
    unfold t_Cleared_clear_others_1
    walk_at "go"
    refine iteNe (fun c1 => ?_) (fun c1 => ?_)
    · walk_at "go"
      refine iteNe (fun c2 => ?_) (fun c2 => ?_)
      · have cc : i ≠ d ∧ g2 s.lines i j ≠ 0 := ⟨fun z => c1 (by rw [z]), c2⟩
        walk_at "go"
        intro H2 r s2 nr er
        have hC2 := hC1.mono s2
        have s12 := s1.trans s2
        have ho2 := s2 _ _ ho1
        have hL2 := s2 _ _ hL1
        have nr2 := hC1.new s1 nr
        have ix : ixN (ls1.map V.ref).length (i : Int) = some i := ixN_of (by rw [List.length_map, rL1.len, othersTo_len]; exact hiL)
        have hC3 := hC2.putL (i := i) hL2 er ⟨nr2.1, nr2.2.1, nr2.2.2.1⟩
        have s3 : Same H0 (upd H2 L (.lst ((ls1.map V.ref).set i (.ref r)))) := same_mut s12 fr1.1
        have hC3' := hC3
        obtain ⟨⟨dx3, ho3⟩, _, ⟨ms3, hM3, rM3, _, nM3⟩, _, _, _⟩ := hC3'
        obtain ⟨m, em, rm⟩ := rM3.get (othersTo_self (p := p) (d := d) (pl := j) (R := s.lines) hiM)
        obtain ⟨md, emd, rmd⟩ := rM3.get (othersTo_done (p := p) (pl := j) (i := i) (R := s.lines) hdM)
        have a3 := at_refsN em
        have a4 := at_refsN emd
        obtain ⟨ls3, hL3, rL3, _⟩ := hC3.lin
        have hf3 := hf.mono s3
        walk_at "go"
        intro H4 r' s4 nr' er'
        generalize upd H2 L (.lst ((ls1.map V.ref).set i (.ref r))) = H3 at *
        have hC4 := hC3.mono s4
        have s34 := s3.trans s4
        have ho4 := s4 _ _ ho3
        have hM4 := s4 _ _ hM3
        have nr4 := hC3.new s3 nr'
        have nin : r' ∉ ms3 := fun z => by
          obtain ⟨o, e⟩ := rM3.ex z
          rw [nr'] at e; cases e
        have ix3 : ixN (ms3.map V.ref).length (i : Int) = some i := ixN_of (by rw [List.length_map, rM3.len, othersTo_len]; exact hiM)
        walk_at "go"
        have hC5 := hC4.putM (i := i) hM4 er' nin nr4
        rw [← othersTo_set hiL cc, ← othersTo_set hiM cc] at hC5
        exact ⟨same_mut s34 fr1.2.1, hC5, _, _, rfl⟩
      · walk_at "go"
        rw [← othersTo_keep (fun z => z.2 c2), ← othersTo_keep (fun z => z.2 c2)] at hC1
        exact ⟨s1, hC1, _, _, rfl⟩
    · walk_at "go"
      have c1' : i = d := by omega
      rw [← othersTo_keep (fun z => z.1 c1'), ← othersTo_keep (fun z => z.1 c1')] at hC1
      exact ⟨s1, hC1, _, _, rfl⟩
  · rintro σ H' ⟨s1, hC1, x3, x4, rfl⟩
    rw [hl0, othersTo_all sL.len.symm, othersTo_all sM.len.symm] at hC1
    exact q H' s1 hC1
theorem upd_upd {H : Hp} {a : Addr} {x y : HO} : upd (upd H a x) a y = upd H a y := by
  funext b
  by_cases e : b = a
  · subst e; rw [upd_same, upd_same]
  · rw [upd_ne e, upd_ne e, upd_ne e]
theorem swap_nodup {ls : List Addr} {i j : Nat} {a b : Addr} (h : ls.Nodup) (ha : ls[i]? = some a) (hb : ls[j]? = some b) : ((ls.set i b).set j a).Nodup := by
  obtain ⟨hi, ha⟩ := List.getElem?_eq_some_iff.mp ha
  obtain ⟨hj, hb⟩ := List.getElem?_eq_some_iff.mp hb
  refine List.nodup_iff_pairwise_ne.mpr (List.pairwise_iff_getElem.mpr fun x y hx hy hxy => ?_)
  rw [List.length_set, List.length_set] at hx hy
  have inj : ∀ u v (hu : u < ls.length) (hv : v < ls.length), u ≠ v → ls[u] ≠ ls[v] := fun u v hu hv z => by
    have hp := List.pairwise_iff_getElem.mp (List.nodup_iff_pairwise_ne.mp h)
    rcases Nat.lt_or_gt_of_ne z with q | q
    · exact hp u v hu hv q
    · exact (hp v u hv hu q).symm
  rw [List.getElem_set, List.getElem_set, List.getElem_set, List.getElem_set]
  by_cases e1 : j = x
  · rw [if_pos e1, if_neg (by omega)]
    by_cases e2 : i = y
    · rw [if_pos e2]; exact fun z => inj i j hi hj (by omega) (ha.trans (z.trans hb.symm))
    · rw [if_neg e2]; exact fun z => inj i y hi hy (by omega) (ha.trans z)
  · rw [if_neg e1]
    by_cases e2 : i = x
    · rw [if_pos e2]
      by_cases e3 : j = y
      · rw [if_pos e3]; exact fun z => inj j i hj hi (by omega) (hb.trans (z.trans ha.symm))
      · rw [if_neg e3, if_neg (by omega)]; exact fun z => inj j y hj hy (by omega) (hb.trans z)
    · rw [if_neg e2]
      by_cases e3 : j = y
      · rw [if_pos e3]; exact fun z => inj x i hx hi (by omega) (z.trans ha.symm)
      · rw [if_neg e3]
        by_cases e4 : i = y
        · rw [if_pos e4]; exact fun z => inj x j hx hj (by omega) (z.trans hb.symm)
        · rw [if_neg e4]; exact inj x y hx hy (by omega)
theorem Rows.swap {H : Hp} {ls : List Addr} {T : List (List Int)} (r : Rows H ls T) {i j : Nat} {a b : Addr} (ha : ls[i]? = some a) (hb : ls[j]? = some b) : Rows H ((ls.set i b).set j a) (swapL T i j) := by
  have hi : i < T.length := by rw [← r.len]; exact (List.getElem?_eq_some_iff.mp ha).1
  have hj : j < T.length := by rw [← r.len]; exact (List.getElem?_eq_some_iff.mp hb).1
  exact (r.set (r.at_ j b _ hb (at_getD hj))).set (r.at_ i a _ ha (at_getD hi))
theorem mem_swap {ls : List Addr} {i j : Nat} {a b x : Addr} (ha : ls[i]? = some a) (hb : ls[j]? = some b) (h : x ∈ (ls.set i b).set j a) : x ∈ ls := by
  rcases List.mem_or_eq_of_mem_set h with h | rfl
  · rcases List.mem_or_eq_of_mem_set h with h | rfl
    · exact h
    · exact List.mem_of_getElem? hb
  · exact List.mem_of_getElem? ha
theorem IsC.swL {K : PySem.W.Frag} {H0 H : Hp} {c f L M Pl : Addr} {s : Cl} {ls : List Addr} {i j : Nat} {a b : Addr} (I : IsC K H0 H c f L M Pl s) (e : H L = some (.lst (ls.map V.ref))) (ha : ls[i]? = some a) (hb : ls[j]? = some b) :
    IsC K H0 (upd (upd H L (.lst ((ls.map V.ref).set i (.ref b)))) L (.lst (((ls.map V.ref).set i (.ref b)).set j (.ref a)))) c f L M Pl ⟨swapL s.lines i j, s.made, s.places⟩ := by
  obtain ⟨ls', b1, b2, b3⟩ := I.lin
  have : ls.map V.ref = ls'.map V.ref := by rw [e] at b1; injection b1 with z; injection z
  have : ls = ls' := (List.map_inj_right fun _ _ z => V.ref.inj z).mp this
  subst this
  rw [upd_upd]
  have := I.setL (b2.swap ha hb) fun x hx => b3 x (mem_swap ha hb hx)
  rw [List.map_set, List.map_set] at this
  exact this
theorem IsC.swM {K : PySem.W.Frag} {H0 H : Hp} {c f L M Pl : Addr} {s : Cl} {ls : List Addr} {i j : Nat} {a b : Addr} (I : IsC K H0 H c f L M Pl s) (e : H M = some (.lst (ls.map V.ref))) (ha : ls[i]? = some a) (hb : ls[j]? = some b) :
    IsC K H0 (upd (upd H M (.lst ((ls.map V.ref).set i (.ref b)))) M (.lst (((ls.map V.ref).set i (.ref b)).set j (.ref a)))) c f L M Pl ⟨s.lines, swapL s.made i j, s.places⟩ := by
  obtain ⟨ls', b1, b2, b4, b3⟩ := I.mad
  have : ls.map V.ref = ls'.map V.ref := by rw [e] at b1; injection b1 with z; injection z
  have : ls = ls' := (List.map_inj_right fun _ _ z => V.ref.inj z).mp this
  subst this
  rw [upd_upd]
  have := I.setM (b2.swap ha hb) (swap_nodup b4 ha hb) fun x hx => b3 x (mem_swap ha hb hx)
  rw [List.map_set, List.map_set] at this
  exact this
def sp_Cleared_clear_at (K : PySem.W.Frag) : Sp := fun vs H Q _ => vs.length = 2 ∧ ∃ (H0 : Hp) (c f L M Pl : Addr) (p : Int) (n w j : Nat) (T : List (List Int)) (s : Cl), vs = [.ref c, .int j] ∧ IsC K H0 H c f L M Pl s ∧ IsF K H0 f p ∧ Same H0 H ∧ Ok p n w T s j ∧ j < w ∧ n < 1000 ∧ w < 1000 ∧
  ∀ H', Same H0 H' → IsC K H0 H' c f L M Pl (clearAt p (inv p) s j) → Ok p n w T (clearAt p (inv p) s j) (j + 1) → Q .non H'
def t_Cleared_clear_at_1 (K : PySem.W.Frag) : TS := (tAsg (tTup (tCons (tOp (rIxL K) (tVar 4) (tVar 3)) (tCons (tOp (rIxL K) (tVar 4) (tVar 2)) tNil))) (gTup K 2 (gCons (gSub (tVar 4) (tVar 2) rSetL) (gCons (gSub (tVar 4) (tVar 3) rSetL) gNil))))
def t_Cleared_clear_at_2 (K : PySem.W.Frag) : TS := (tAsg (tLc (iList K (tOp (rIxL K) (tVar 4) (tVar 2))) (gName 7) tYes (xMeth (He.ga K "Field") "times" (sp_Field_times K) [] (fun _ => E0) (xFld (He.ga K "Cleared") (tVar 0) "field") (tCons (tVar 5) (tCons (tVar 7) tNil))) [6, 7]) (gSub (tVar 4) (tVar 2) rSetL))
def t_Cleared_clear_at_3 (K : PySem.W.Frag) : TS := (tSeq (tDrop (xMeth (He.ga K "Cleared") "clear_others" (sp_Cleared_clear_others K) [] (fun _ => E0) (tVar 0) (tCons (tVar 2) (tCons (tVar 1) tNil)))) (tDrop (tBM K "list" rAppend (xFld (He.ga K "Cleared") (tVar 0) "places") (tCons (tVar 1) tNil))))
def t_Cleared_clear_at_4 (K : PySem.W.Frag) : TS := (tSeq (tAsg (xMeth (He.ga K "Field") "back" (sp_Field_back K) [] (fun _ => E0) (xFld (He.ga K "Cleared") (tVar 0) "field") (tCons (tOp (rIxL K) (tOp (rIxL K) (xFld (He.ga K "Cleared") (tVar 0) "lines") (tVar 2)) (tVar 1)) tNil)) (gName 5)) (tSeq (tFor (iTup K (tTup (tCons (xFld (He.ga K "Cleared") (tVar 0) "lines") (tCons (xFld (He.ga K "Cleared") (tVar 0) "made_of") tNil)))) (gName 4) (t_Cleared_clear_at_2 K)) (t_Cleared_clear_at_3 K)))
def t_Cleared_clear_at (K : PySem.W.Frag) : TS := (tSeq (tAsg (tCB (oLen K) (tCons (xFld (He.ga K "Cleared") (tVar 0) "places") tNil)) (gName 2)) (tSeq (tAsg (tCallSD (sp_first_with K) [] (fun _ => E0) (tCons (xFld (He.ga K "Cleared") (tVar 0) "lines") (tCons (tVar 2) (tCons (tVar 1) tNil)))) (gName 3)) (tSeq (tIfS (tTest (tOp rIsN (tVar 3) (tC .non))) tRetN tNext) (tSeq (tFor (iTup K (tTup (tCons (xFld (He.ga K "Cleared") (tVar 0) "lines") (tCons (xFld (He.ga K "Cleared") (tVar 0) "made_of") tNil)))) (gName 4) (t_Cleared_clear_at_1 K)) (t_Cleared_clear_at_4 K)))))
theorem pu_Cleared_clear_at {K : PySem.W.Frag} (vs : List V) (H : Hp) (Q : VK) (E : XK) (h : ∃ (H0 : Hp) (c f L M Pl : Addr) (p : Int) (n w j : Nat) (T : List (List Int)) (s : Cl), vs = [.ref c, .int j] ∧ IsC K H0 H c f L M Pl s ∧ IsF K H0 f p ∧ Same H0 H ∧ Ok p n w T s j ∧ j < w ∧ n < 1000 ∧ w < 1000 ∧
    ∀ H', Same H0 H' → IsC K H0 H' c f L M Pl (clearAt p (inv p) s j) → Ok p n w T (clearAt p (inv p) s j) (j + 1) → Q .non H') :
    t_Cleared_clear_at K { nx := fun _ H' => Q .non H', rt := Q } (start ["self", "place", "done", "k", "rows", "back", ".0", "number"] vs) H := by
  obtain ⟨H0, c, f, L, M, Pl, p, n, w, j, T, s, rfl, hC, hf, hs, ok, hj, hn, hw, q⟩ := h
  have h10 : (1000 : Nat) < sizeLine := by decide
  have hp := hf.pos
  have hCk := hC
  obtain ⟨⟨dx, ho⟩, ⟨ls, hL, rL, nL⟩, ⟨ms, hM, rM, _, nM⟩, hP, fr, df⟩ := hCk
  have hPo : SqL K H Pl (s.places.map fun (q : Nat) => V.int q) ∨ SqT K H Pl (s.places.map fun (q : Nat) => V.int q) := .inl (SqL.of hP)
  have hTab : TabAt H L s.lines := ⟨ls, hL, rL⟩
  have hwid : ∀ r ∈ s.lines, j < r.length := fun r hr => by rw [(ok.shL.row r hr).1]; exact hj
  have hlen : s.lines.length < 1000 := by rw [ok.shL.len]; exact hn
  have hle : s.places.length ≤ s.lines.length := by rw [ok.shL.len]; exact ok.le
  have hpl : (s.places.map fun (q : Nat) => V.int q).length = s.places.length := by rw [List.length_map]
  have hle2 : (s.places.map fun (q : Nat) => V.int q).length ≤ s.lines.length := by rw [hpl]; exact hle
  walk_at "go"
  rw [hpl]
  refine ⟨fun hfw => ?_, fun k hfw => ?_⟩
  · have e : clearAt p (inv p) s j = s := by unfold clearAt; rw [hfw]
    have okn := clearAt_ok (p := p) (bk := inv p) (by omega) (fun k z => by rw [hfw] at z; cases z) ok hj
    rw [e] at q okn
    walk_at "go"
    exact q H hs hC okn
  · obtain ⟨k1, k2, k3⟩ := firstW_some hfw
    rw [ok.shL.len] at k2
    have hd : s.places.length < n := by omega
    have ev : g2 (swapL s.lines s.places.length k) s.places.length j = g2 s.lines k j := by
      show ((swapL s.lines s.places.length k).getD s.places.length []).getD j 0 = _
      rw [swap_get (by rw [ok.shL.len]; omega) (by rw [ok.shL.len]; omega)]
      by_cases e : s.places.length = k
      · rw [if_pos e, e]
      · rw [if_neg e, if_pos rfl]
    have o1 := step_swap ok k1 k2
    generalize hd' : s.places.length = d at *
    have rgv := o1.shL.rng (k := d) (j := j) hd hj
    have hv0 : g2 (swapL s.lines d k) d j ≠ 0 := by rw [ev]; exact k3
    walk_at "go"
    intro t nt
    have htL : t ≠ L := (ne_of_none hL nt).symm
    have htM : t ≠ M := (ne_of_none hM nt).symm
    walk_at "go"
    refine loop1 (walk_tup (xs := [.ref L, .ref M])) 4 (fun i σ H' => Same H0 H' ∧ H' t = some (.tup [.ref L, .ref M]) ∧ IsC K H0 H' c f L M Pl ⟨if 0 < i then swapL s.lines d k else s.lines, if 1 < i then swapL s.made d k else s.made, s.places⟩ ∧ ∃ x4, σ = [some (.ref c), some (.int j), some (.int d), some (.int k), x4, none, none, none])
      ⟨hs.trans (same_new nt), upd_same, hC.mono (same_new nt), none, rfl⟩ (fun i σ H' _ h => .inl (.inl h.2.1)) ?_ ?_
    · rintro i x σ _ H1 hi ⟨s1, et, I, x4, rfl⟩ ⟨rfl, hx⟩
      unfold t_Cleared_clear_at_1
      match i, hi, hx with
      | 0, _, hx =>
        cases hx
        have I : IsC K H0 H1 c f L M Pl s := I
        obtain ⟨ls1, hL1, rL1, _⟩ := I.lin
        obtain ⟨a, ea, _⟩ := rL1.row (i := d) (by rw [ok.shL.len]; exact hd)
        obtain ⟨b, eb, _⟩ := rL1.row (i := k) (by rw [ok.shL.len]; exact k2)
        have a1 := at_refsN ea
        have a2 := at_refsN eb
        have lx : (ls1.map V.ref).length = n := by rw [List.length_map, rL1.len, ok.shL.len]
        have ix1 : ixN (ls1.map V.ref).length (d : Int) = some d := ixN_of (by omega)
        have ix2 : ixN ((ls1.map V.ref).set d (.ref b)).length (k : Int) = some k := ixN_of (by rw [List.length_set]; omega)
        walk_at "go"
        intro u nu
        walk_at "go"
        have I2 := (I.mono (same_new (o := .tup [.ref b, .ref a]) nu)).swL (upd_at nu hL1) ea eb
        exact ⟨same_mut (same_mut (s1.trans (same_new nu)) fr.1) fr.1, upd_atN htL (upd_atN htL (upd_at nu et)), I2, _, rfl⟩
      | 1, _, hx =>
        cases hx
        have I : IsC K H0 H1 c f L M Pl ⟨swapL s.lines d k, s.made, s.places⟩ := I
        obtain ⟨ls1, hL1, rL1, _⟩ := I.mad
        obtain ⟨a, ea, _⟩ := rL1.row (i := d) (by rw [ok.shM.len]; exact hd)
        obtain ⟨b, eb, _⟩ := rL1.row (i := k) (by rw [ok.shM.len]; exact k2)
        have a1 := at_refsN ea
        have a2 := at_refsN eb
        have lx : (ls1.map V.ref).length = n := by rw [List.length_map, rL1.len, ok.shM.len]
        have ix1 : ixN (ls1.map V.ref).length (d : Int) = some d := ixN_of (by omega)
        have ix2 : ixN ((ls1.map V.ref).set d (.ref b)).length (k : Int) = some k := ixN_of (by rw [List.length_set]; omega)
        walk_at "go"
        intro u nu
        walk_at "go"
        have I2 := (I.mono (same_new (o := .tup [.ref b, .ref a]) nu)).swM (upd_at nu hL1) ea eb
        exact ⟨same_mut (same_mut (s1.trans (same_new nu)) fr.2.1) fr.2.1, upd_atN htM (upd_atN htM (upd_at nu et)), I2, _, rfl⟩
    · rintro σ H1 ⟨s1, et, I, x4, rfl⟩
      have I : IsC K H0 H1 c f L M Pl ⟨swapL s.lines d k, swapL s.made d k, s.places⟩ := I
      have I' := I
      obtain ⟨⟨dx1, ho1⟩, ⟨ls1, hL1, rL1, nL1⟩, ⟨ms1, hM1, rM1, _, nM1⟩, hP1, _, _⟩ := I'
      obtain ⟨a, ea, _, era⟩ := rL1.row (i := d) (by show d < (swapL s.lines d k).length; rw [swap_len, ok.shL.len]; exact hd)
      have a1 := at_refsN ea
      have hrl : ((swapL s.lines d k).getD d []).length = w := o1.shL.rlen hd
      have a2 : atI (((swapL s.lines d k).getD d []).map V.int) (j : Int) = some (.int (g2 (swapL s.lines d k) d j)) := at_intsN (by rw [hrl]; exact hj)
      have era : H1 a = some (.lst (((swapL s.lines d k).getD d []).map V.int)) := era
      have hf1 := hf.mono s1
      have hf1' := hf1
      obtain ⟨dxf, hfo, _⟩ := hf1'
      have rgv' : Fd p (g2 (swapL s.lines d k) d j) := rgv
      unfold t_Cleared_clear_at_4
      walk_at "go"
      intro _ hb1 H2 s2
      have s12 := s1.trans s2
      have I2 := I.mono s2
      have ho2 := s2 _ _ ho1
      have hL2 := s2 _ _ hL1
      have hM2 := s2 _ _ hM1
      have hr := inv_range (p := p) (n := g2 (swapL s.lines d k) d j) (by omega)
      walk_at "go"
      intro t2 nt2
      have htL : t2 ≠ L := (ne_of_none hL2 nt2).symm
      have htM : t2 ≠ M := (ne_of_none hM2 nt2).symm
      walk_at "go"
      have ebk : ∃ bk, bk = inv p (g2 (swapL s.lines d k) d j) := ⟨_, rfl⟩
      obtain ⟨bk, ebk⟩ := ebk
      rw [← ebk] at hb1 hr ⊢
      have h1p : (1 : Int) % p = 1 := Int.emod_eq_of_lt (by omega) (by omega)
      have hme : Me p (bk * g2 (swapL s.lines d k) d j) 1 := Me.of_emod (by rw [hb1, h1p])
      have okn := clearAt_ok (p := p) (bk := inv p) (by omega) (fun k' z => by
        rw [hd', hfw] at z
        cases z
        rw [← ev, ← ebk]; exact hme) ok hj
      have ecl : clearAt p (inv p) s j = ⟨others p d j ((swapL s.lines d k).set d (scaleR p bk ((swapL s.lines d k).getD d []))) ((swapL s.lines d k).set d (scaleR p bk ((swapL s.lines d k).getD d []))), others p d j ((swapL s.lines d k).set d (scaleR p bk ((swapL s.lines d k).getD d []))) ((swapL s.made d k).set d (scaleR p bk ((swapL s.made d k).getD d []))), s.places ++ [j]⟩ := by
        unfold clearAt
        rw [hd', hfw, ebk]
      rw [ecl] at okn q
      have o2 := step_scale (b := bk) (by omega) o1 (by show s.places.length < n; omega) (by show Me p (bk * g2 (swapL s.lines d k) d j) 1; exact hme)
      have o2L : Sh p n w ((swapL s.lines d k).set d (scaleR p bk ((swapL s.lines d k).getD d []))) := by have := o2.shL; rw [← hd']; exact hd' ▸ this
      have o2M : Sh p n n ((swapL s.made d k).set d (scaleR p bk ((swapL s.made d k).getD d []))) := by have := o2.shM; rw [← hd']; exact hd' ▸ this
      refine loop1 (walk_tup (xs := [.ref L, .ref M])) 4 (fun i σ H' => Same H0 H' ∧ H' t2 = some (.tup [.ref L, .ref M]) ∧ IsC K H0 H' c f L M Pl ⟨if 0 < i then (swapL s.lines d k).set d (scaleR p bk ((swapL s.lines d k).getD d [])) else swapL s.lines d k, if 1 < i then (swapL s.made d k).set d (scaleR p bk ((swapL s.made d k).getD d [])) else swapL s.made d k, s.places⟩ ∧ ∃ x4, σ = [some (.ref c), some (.int j), some (.int d), some (.int k), x4, some (.int bk), none, none])
        ⟨s12.trans (same_new nt2), upd_same, I2.mono (same_new nt2), _, rfl⟩ (fun i σ H' _ h => .inl (.inl h.2.1)) ?_ ?_
      · rintro i x σ _ H3 hi ⟨s3, et, I3, x4, rfl⟩ ⟨rfl, hx⟩
        unfold t_Cleared_clear_at_2
        match i, hi, hx with
        | 0, _, hx =>
          cases hx
          have I3 : IsC K H0 H3 c f L M Pl ⟨swapL s.lines d k, swapL s.made d k, s.places⟩ := I3
          have I3' := I3
          obtain ⟨⟨dx3, ho3⟩, ⟨ls3, hL3, rL3, _⟩, _⟩ := I3'
          obtain ⟨a3, ea3, _, era3⟩ := rL3.row (i := d) (by show d < (swapL s.lines d k).length; rw [swap_len, ok.shL.len]; exact hd)
          have a1 := at_refsN ea3
          have hrl : ((swapL s.lines d k).getD d []).length = w := o1.shL.rlen hd
          have ix1 : ixN (ls3.map V.ref).length (d : Int) = some d := ixN_of (by rw [List.length_map, rL3.len]; show d < (swapL s.lines d k).length; rw [swap_len, ok.shL.len]; exact hd)
          have sr : SqL K H3 a3 (((swapL s.lines d k).getD d []).map V.int) := SqL.of era3
          walk_at "go"
          refine lcA (walk_list (xs := ((swapL s.lines d k).getD d []).map V.int)) (fun i => .int (bk * ((swapL s.lines d k).getD d []).getD i 0 % p)) (by rw [List.length_map, hrl]; omega) (fun H' s => s.seq sr) ?_ ?_
          · rintro i x _ H4 F hi s4 ⟨rfl, hx⟩ hF
            obtain ⟨_, rfl, _⟩ := ints_at hx
            refine ⟨rfl, ?_⟩
            have ho4 := s4 _ _ ho3
            have hf4 := hf.mono (s3.trans s4)
            have hf4' := hf4
            obtain ⟨dxf4, hfo4, _⟩ := hf4'
            have mm : CMul bk (((swapL s.lines d k).getD d []).getD i 0) := .inl ⟨by omega, by omega⟩
            walk_at "go"
            exact hF _ (Same.refl _)
          · intro r H4 nr s4 er
            rw [List.length_map, givn_listA ((swapL s.lines d k).getD d []) (fun x => V.int (bk * x % p)) _ (fun i x e => by rw [getDi_of e])] at er
            have er : Row H4 r (scaleR p bk ((swapL s.lines d k).getD d [])) := by
              show H4 r = _
              rw [er]; unfold scaleR; rw [List.map_map]; rfl
            have hL4 := s4 _ _ hL3
            have nr4 := I3.new s3 nr
            walk_at "go"
            have I5 := (I3.mono s4).putL (i := d) hL4 er ⟨nr4.1, nr4.2.1, nr4.2.2.1⟩
            exact ⟨same_mut (s3.trans s4) fr.1, upd_atN htL (s4 _ _ et), I5, _, rfl⟩
        | 1, _, hx =>
          cases hx
          have I3 : IsC K H0 H3 c f L M Pl ⟨(swapL s.lines d k).set d (scaleR p bk ((swapL s.lines d k).getD d [])), swapL s.made d k, s.places⟩ := I3
          have I3' := I3
          obtain ⟨⟨dx3, ho3⟩, _, ⟨ms3, hM3, rM3, _, _⟩, _⟩ := I3'
          obtain ⟨a3, ea3, _, era3⟩ := rM3.row (i := d) (by show d < (swapL s.made d k).length; rw [swap_len, ok.shM.len]; exact hd)
          have a1 := at_refsN ea3
          have hrl : ((swapL s.made d k).getD d []).length = n := o1.shM.rlen hd
          have ix1 : ixN (ms3.map V.ref).length (d : Int) = some d := ixN_of (by rw [List.length_map, rM3.len]; show d < (swapL s.made d k).length; rw [swap_len, ok.shM.len]; exact hd)
          have sr : SqL K H3 a3 (((swapL s.made d k).getD d []).map V.int) := SqL.of era3
          walk_at "go"
          refine lcA (walk_list (xs := ((swapL s.made d k).getD d []).map V.int)) (fun i => .int (bk * ((swapL s.made d k).getD d []).getD i 0 % p)) (by rw [List.length_map, hrl]; omega) (fun H' s => s.seq sr) ?_ ?_
          · rintro i x _ H4 F hi s4 ⟨rfl, hx⟩ hF
            obtain ⟨_, rfl, _⟩ := ints_at hx
            refine ⟨rfl, ?_⟩
            have ho4 := s4 _ _ ho3
            have hf4 := hf.mono (s3.trans s4)
            have hf4' := hf4
            obtain ⟨dxf4, hfo4, _⟩ := hf4'
            have mm : CMul bk (((swapL s.made d k).getD d []).getD i 0) := .inl ⟨by omega, by omega⟩
            walk_at "go"
            exact hF _ (Same.refl _)
          · intro r H4 nr s4 er
            rw [List.length_map, givn_listA ((swapL s.made d k).getD d []) (fun x => V.int (bk * x % p)) _ (fun i x e => by rw [getDi_of e])] at er
            have er : Row H4 r (scaleR p bk ((swapL s.made d k).getD d [])) := by
              show H4 r = _
              rw [er]; unfold scaleR; rw [List.map_map]; rfl
            have hM4 := s4 _ _ hM3
            have nr4 := I3.new s3 nr
            have nin : r ∉ ms3 := fun z => by
              obtain ⟨o, e⟩ := rM3.ex z
              rw [nr] at e; cases e
            walk_at "go"
            have I5 := (I3.mono s4).putM (i := d) hM4 er nin nr4
            exact ⟨same_mut (s3.trans s4) fr.2.1, upd_atN htM (s4 _ _ et), I5, _, rfl⟩
      · rintro σ H3 ⟨s3, et, I3, x4, rfl⟩
        have I3 : IsC K H0 H3 c f L M Pl ⟨(swapL s.lines d k).set d (scaleR p bk ((swapL s.lines d k).getD d [])), (swapL s.made d k).set d (scaleR p bk ((swapL s.made d k).getD d [])), s.places⟩ := I3
        have I3' := I3
        obtain ⟨⟨dx3, ho3⟩, ⟨ls3, hL3, rL3, nL3⟩, ⟨ms3, hM3, rM3, _, nM3⟩, hP3, _, _⟩ := I3'
        unfold t_Cleared_clear_at_3
        walk_at "go"
        intro H4 s4 I4
        have I4' := I4
        obtain ⟨⟨dx4, ho4⟩, _, _, hP4, _, _⟩ := I4'
        have hP4 : H4 Pl = some (.lst (s.places.map fun (q : Nat) => V.int q)) := hP4
        have zP : (s.places.map fun (q : Nat) => V.int q).length < sizeLine := by rw [hpl]; omega
        walk_at "go"
        have I5 := I4.setP (ps := s.places ++ [j])
        rw [List.map_append] at I5
        exact q _ (same_mut s4 fr.2.2) I5 okn
theorem Trs.table {H : Hp} : ∀ {T : List (List Int)} {vs : List V} {fp : List Addr}, Trs H vs (T.map dI) fp → vs = fp.map V.ref ∧ Rows H fp T
  | [], _, _, t => by
    cases t
    exact ⟨rfl, rfl, fun i l row e => by simp at e⟩
  | x :: T, _, _, t => by
    cases t with
    | cons a t =>
      obtain ⟨e, r⟩ := Trs.table t
      cases a with
      | lst h t2 =>
        obtain ⟨rfl, rfl⟩ := Trs.ints_inv t2
        subst e
        refine ⟨rfl, by show _ + 1 = _ + 1; exact congrArg (· + 1) r.len, fun i l row e1 e2 => ?_⟩
        cases i with
        | zero => cases e1; cases e2; exact h
        | succ i => exact r.at_ i l row e1 e2
theorem New.table {H0 H : Hp} {v : V} {T : List (List Int)} (n : New H0 H v (dT T)) : ∃ (a : Addr) (ls : List Addr), v = .ref a ∧ H a = some (.lst (ls.map V.ref)) ∧ Rows H ls T ∧ (a :: ls).Nodup ∧ ∀ b ∈ a :: ls, H0 b = none := by
  obtain ⟨fp, t, nd, fr⟩ := n
  cases t with
  | lst e t =>
    obtain ⟨rfl, r⟩ := Trs.table t
    exact ⟨_, _, rfl, e, r, nd, fr⟩
def sp_Cleared___init__ (K : PySem.W.Frag) : Sp := fun vs H Q _ => vs.length = 4 ∧ ∃ (H0 : Hp) (c dx f t : Addr) (p : Int) (n w : Nat) (T : List (List Int)), vs = [.ref c, .ref f, .ref t, .int w] ∧ H c = some (.ins (He.ga K "Cleared") dx []) ∧ H0 c = none ∧ Same H0 H ∧ IsF K H0 f p ∧ TabAt H0 t T ∧ Sh p n w T ∧ n < 1000 ∧ w < 1000 ∧
  ∀ H' L M Pl, Same H0 H' → IsC K H0 H' c f L M Pl (cleared p (inv p) T w) → Ok p n w T (cleared p (inv p) T w) w → Q .non H'
def t_Cleared___init___1 (K : PySem.W.Frag) : TS := (tDrop (xMeth (He.ga K "Cleared") "clear_at" (sp_Cleared_clear_at K) [] (fun _ => E0) (tVar 0) (tCons (tVar 4) tNil)))
def t_Cleared___init__ (K : PySem.W.Frag) : TS := (tSeq (xsFld (He.ga K "Cleared") (tVar 0) (tVar 1) "field") (tSeq (xsFld (He.ga K "Cleared") (tVar 0) (tLc (iList K (tVar 2)) (gName 6) tYes (tCB (oList K) (tCons (tVar 6) tNil)) [5, 6]) "lines") (tSeq (xsFld (He.ga K "Cleared") (tVar 0) (tCallSD (sp_ones K) [] (fun _ => E0) (tCons (tCB (oLen K) (tCons (tVar 2) tNil)) tNil)) "made_of") (tSeq (xsFld (He.ga K "Cleared") (tVar 0) (tLst tNil) "places") (tFor (iRng1 (tCons (tVar 3) tNil)) (gName 4) (t_Cleared___init___1 K))))))
theorem pu_Cleared___init__ {K : PySem.W.Frag} (vs : List V) (H : Hp) (Q : VK) (E : XK) (h : ∃ (H0 : Hp) (c dx f t : Addr) (p : Int) (n w : Nat) (T : List (List Int)), vs = [.ref c, .ref f, .ref t, .int w] ∧ H c = some (.ins (He.ga K "Cleared") dx []) ∧ H0 c = none ∧ Same H0 H ∧ IsF K H0 f p ∧ TabAt H0 t T ∧ Sh p n w T ∧ n < 1000 ∧ w < 1000 ∧
    ∀ H' L M Pl, Same H0 H' → IsC K H0 H' c f L M Pl (cleared p (inv p) T w) → Ok p n w T (cleared p (inv p) T w) w → Q .non H') :
    t_Cleared___init__ K { nx := fun _ H' => Q .non H', rt := Q } (start ["self", "field", "table", "width", "place", ".0", "row"] vs) H := by
  obtain ⟨H0, c, dx, f, t, p, n, w, T, rfl, ho, hc0, hs, hf, ht, hT, hn, hw, q⟩ := h
  have h10 : (1000 : Nat) < sizeLine := by decide
  have hp := hf.pos
  have sa : Same H0 (upd H c (.ins (He.ga K "Cleared") dx [("field", .ref f)])) := same_mut hs hc0
  obtain ⟨ls0, ht0, rt0⟩ := ht
  have hoa : upd H c (.ins (He.ga K "Cleared") dx [("field", .ref f)]) c = some (.ins (He.ga K "Cleared") dx [("field", .ref f)]) := upd_same
  have sqa : SqL K (upd H c (.ins (He.ga K "Cleared") dx [("field", .ref f)])) t (ls0.map V.ref) := SqL.of (sa _ _ ht0)
  unfold t_Cleared___init__
  walk_at "go"
  refine lcN (H := upd H c (.ins (He.ga K "Cleared") dx [("field", .ref f)])) (walk_list (xs := ls0.map V.ref)) (fun i => dI (T.getD i [])) (by rw [List.length_map, rt0.len, hT.len]; omega) (fun H' s => s.seq sqa) ?_ ?_
  · rintro i x _ H1 F hi s1 ⟨rfl, hx⟩ hF
    obtain ⟨l, rfl, hl, hi, hrow⟩ := rt0.refs hx
    have hrow1 : SqL K H1 l ((T.getD i []).map V.int) := SqL.of (s1 _ _ (sa _ _ hrow))
    refine ⟨rfl, ?_⟩
    have hrow2 := SqLo hrow1
    walk_at "go"
    intro r nr
    exact hF _ _ (same_new nr) (New.ints nr upd_same)
  · intro L H1 s1 nw
    rw [List.length_map, rt0.len, givn_listA T dI _ (fun i x e => by rw [getD_of e])] at nw
    have nw : New (upd H c (.ins (He.ga K "Cleared") dx [("field", .ref f)])) H1 (.ref L) (dT T) := nw
    obtain ⟨L', ls, eL, hL, rL, ndL, frL⟩ := nw.table
    cases eL
    have ho1 := s1 _ _ hoa
    have s01 := sa.trans s1
    have hcL : L ≠ c := fun z => by
      have := frL L (List.mem_cons_self ..)
      rw [z, hoa] at this; cases this
    have hcl : ∀ l ∈ ls, l ≠ c := fun l hl z => by
      have := frL l (List.mem_cons_of_mem _ hl)
      rw [z, hoa] at this; cases this
    have s2 : Same H0 (upd H1 c (.ins (He.ga K "Cleared") dx [("field", .ref f), ("lines", .ref L)])) := same_mut s01 hc0
    have ho2 : upd H1 c (.ins (He.ga K "Cleared") dx [("field", .ref f), ("lines", .ref L)]) c = some (.ins (He.ga K "Cleared") dx [("field", .ref f), ("lines", .ref L)]) := upd_same
    have hL2 : upd H1 c (.ins (He.ga K "Cleared") dx [("field", .ref f), ("lines", .ref L)]) L = some (.lst (ls.map V.ref)) := upd_atN hcL hL
    have rL2 : Rows (upd H1 c (.ins (He.ga K "Cleared") dx [("field", .ref f), ("lines", .ref L)])) ls T := rL.upd hcl
    have sq2 : SqL K (upd H1 c (.ins (He.ga K "Cleared") dx [("field", .ref f), ("lines", .ref L)])) t (ls0.map V.ref) ∨ SqT K (upd H1 c (.ins (He.ga K "Cleared") dx [("field", .ref f), ("lines", .ref L)])) t (ls0.map V.ref) := .inl (SqL.of (s2 _ _ ht0))
    have hl0 : (ls0.map V.ref).length = n := by rw [List.length_map, rt0.len, hT.len]
    have hlt : (ls0.map V.ref).length < 1000 := by rw [hl0]; exact hn
    walk_at "go"
    intro H3 M s3 nw3
    rw [hl0] at nw3
    have s3 : Same (upd H1 c (.ins (He.ga K "Cleared") dx [("field", .ref f), ("lines", .ref L)])) H3 := s3
    have nw3 : New (upd H1 c (.ins (He.ga K "Cleared") dx [("field", .ref f), ("lines", .ref L)])) H3 (.ref M) (dT (onesT n)) := nw3
    obtain ⟨M', ms, eM, hM, rM, ndM, frM⟩ := nw3.table
    cases eM
    have ho3 := s3 _ _ ho2
    have hL3 := s3 _ _ hL2
    have rL3 := rL2.mono s3
    have s03 := s2.trans s3
    have new3 : ∀ b ∈ M :: ms, b ≠ c ∧ b ≠ L ∧ (∀ l ∈ ls, b ≠ l) ∧ H0 b = none := fun b hb => by
      have := frM b hb
      refine ⟨fun z => ?_, fun z => ?_, fun l hl z => ?_, s2.free this⟩
      · rw [z, ho2] at this; cases this
      · rw [z, hL2] at this; cases this
      · obtain ⟨o, e⟩ := rL2.ex hl
        rw [z, e] at this; cases this
    have hMc := (new3 M (List.mem_cons_self ..)).1
    have s4 : Same H0 (upd H3 c (.ins (He.ga K "Cleared") dx [("field", .ref f), ("lines", .ref L), ("made_of", .ref M)])) := same_mut s03 hc0
    have ho4 : upd H3 c (.ins (He.ga K "Cleared") dx [("field", .ref f), ("lines", .ref L), ("made_of", .ref M)]) c = some (.ins (He.ga K "Cleared") dx [("field", .ref f), ("lines", .ref L), ("made_of", .ref M)]) := upd_same
    walk_at "go"
    intro Pl nP
    have nP : upd H3 c (.ins (He.ga K "Cleared") dx [("field", .ref f), ("lines", .ref L), ("made_of", .ref M)]) Pl = none := nP
    have ho5 : upd (upd H3 c (.ins (He.ga K "Cleared") dx [("field", .ref f), ("lines", .ref L), ("made_of", .ref M)])) Pl (.lst []) c = some (.ins (He.ga K "Cleared") dx [("field", .ref f), ("lines", .ref L), ("made_of", .ref M)]) := upd_at nP ho4
    walk_at "go"
    have hPc : Pl ≠ c := fun z => by rw [z, ho4] at nP; cases nP
    have nP3 : H3 Pl = none := by rw [upd_ne hPc] at nP; exact nP
    have hML : M ≠ L := (new3 M (List.mem_cons_self ..)).2.1
    have hPL : Pl ≠ L := (ne_of_none hL3 nP3).symm
    have hPM : Pl ≠ M := (ne_of_none hM nP3).symm
    have hI : IsC K H0 (upd (upd (upd H3 c (.ins (He.ga K "Cleared") dx [("field", .ref f), ("lines", .ref L), ("made_of", .ref M)])) Pl (.lst [])) c (.ins (He.ga K "Cleared") dx [("field", .ref f), ("lines", .ref L), ("made_of", .ref M), ("places", .ref Pl)])) c f L M Pl ⟨T, onesT n, []⟩ := by
      refine ⟨⟨dx, upd_same⟩, ⟨ls, upd_atN hcL (upd_atN hPL.symm (upd_atN hcL hL3)), ?_, fun l hl => ?_⟩, ⟨ms, upd_atN hMc (upd_atN hPM.symm (upd_atN hMc hM)), ?_, (List.nodup_cons.mp ndM).2, fun l hl => ?_⟩, upd_atN hPc upd_same, ⟨sa.free (frL L (List.mem_cons_self ..)), (new3 M (List.mem_cons_self ..)).2.2.2, s03.free nP3⟩, ⟨hML.symm, hPL.symm, hPM.symm⟩⟩
      · exact ((rL3.upd hcl).upd fun l hl z => by obtain ⟨o, e⟩ := rL3.ex hl; rw [z, nP3] at e; cases e).upd hcl
      · refine ⟨fun z => (List.nodup_cons.mp ndL).1 (z ▸ hl), fun z => (new3 M (List.mem_cons_self ..)).2.2.1 l hl z.symm, fun z => ?_⟩
        obtain ⟨o, e⟩ := rL3.ex hl
        rw [z, nP3] at e; cases e
      · exact ((rM.upd fun l hl => (new3 l (List.mem_cons_of_mem _ hl)).1).upd fun l hl z => by obtain ⟨o, e⟩ := rM.ex hl; rw [z, nP3] at e; cases e).upd fun l hl => (new3 l (List.mem_cons_of_mem _ hl)).1
      · refine ⟨(new3 l (List.mem_cons_of_mem _ hl)).2.1, fun z => (List.nodup_cons.mp ndM).1 (z ▸ hl), fun z => ?_, (new3 l (List.mem_cons_of_mem _ hl)).2.2.2⟩
        obtain ⟨o, e⟩ := rM.ex hl
        rw [z, nP3] at e; cases e
    have s5 : Same H0 (upd (upd (upd H3 c (.ins (He.ga K "Cleared") dx [("field", .ref f), ("lines", .ref L), ("made_of", .ref M)])) Pl (.lst [])) c (.ins (He.ga K "Cleared") dx [("field", .ref f), ("lines", .ref L), ("made_of", .ref M), ("places", .ref Pl)])) := same_mut (same_mut s4 (s03.free nP3)) hc0
    have ok0 := start_ok (p := p) (by omega) hT
    rw [hT.len] at ok0
    have e0 : cleared p (inv p) T 0 = ⟨T, onesT n, []⟩ := by unfold cleared; rw [hT.len]; rfl
    refine loop1 (walk_range (lo := 0) (n := w)) 4 (fun i σ H' => Same H0 H' ∧ IsC K H0 H' c f L M Pl (cleared p (inv p) T i) ∧ Ok p n w T (cleared p (inv p) T i) i ∧ ∃ x4, σ = [some (.ref c), some (.ref f), some (.ref t), some (.int w), x4, none, none]) ⟨s5, by rw [e0]; exact hI, by rw [e0]; exact ok0, none, rfl⟩ (fun _ _ _ _ _ => trivial) ?_ ?_
    · rintro i x σ _ H6 hi ⟨s6, I6, ok6, x4, rfl⟩ ⟨rfl, ex⟩
      replace ex : x = .int (i : Int) := ex.trans (congrArg V.int (Int.zero_add _))
      subst ex
      have I6' := I6
      obtain ⟨⟨dx6, ho6⟩, _⟩ := I6'
      unfold t_Cleared___init___1
      walk_at "go"
      intro H7 s7 I7 ok7
      rw [← cleared_succ] at I7 ok7
      exact ⟨s7, I7, ok7, _, rfl⟩
    · rintro σ H6 ⟨s6, I6, ok6, x4, rfl⟩
      exact q H6 L M Pl s6 I6 ok6
theorem Rows.trs {H : Hp} : ∀ {ls : List Addr} {T : List (List Int)}, Rows H ls T → Trs H (ls.map V.ref) (T.map dI) ls
  | [], [], _ => .nil
  | l :: ls, x :: T, r => .cons (f1 := [l]) (f2 := ls) (.lst (r.at_ 0 l x rfl rfl) (Trs.ints x)) (Rows.trs ⟨by have := r.len; simpa using this, fun i l' row e1 e2 => r.at_ (i + 1) l' row e1 e2⟩)
  | [], _ :: _, r => absurd r.len (by simp)
  | _ :: _, [], r => absurd r.len (by simp)
theorem TabAt.rep {H : Hp} {a : Addr} {T : List (List Int)} (t : TabAt H a T) : Rep H (.ref a) (dT T) := let ⟨_, e, r⟩ := t; ⟨_, .lst e r.trs⟩
theorem use_Cleared {K : PySem.W.Frag} {H : Hp} {Q : Addr → Hp → Prop} {E : XK} {f t : Addr} {p : Int} {n w : Nat} {T : List (List Int)} (hf : IsF K H f p) (ht : TabAt H t T) (hT : Sh p n w T) (hn : n < 1000) (hw : w < 1000)
    (q : ∀ c H' L M Pl, H c = none → Same H H' → IsC K H H' c f L M Pl (cleared p (inv p) T w) → Ok p n w T (cleared p (inv p) T w) w → Q c H') :
    ∀ x dx, H x = none → H dx = none → dx ≠ x → sp_Cleared___init__ K (.ref x :: ([.ref f, .ref t, .int w] ++ [])) (upd (upd H dx (.own x)) x (.ins (He.ga K "Cleared") dx [])) (fun v H2 => v = .non ∧ Q x H2) E := by
  intro x dx nx nd ne
  exact ⟨rfl, H, x, dx, f, t, p, n, w, T, rfl, upd_same, nx, same_mut (same_new nd) nx, hf, ht, hT, hn, hw, fun H' L M Pl s I o => ⟨rfl, q x H' L M Pl nx s I o⟩⟩
def sp_rank (K : PySem.W.Frag) : Sp := fun vs H Q _ => vs.length = 2 ∧ ∃ (f t : Addr) (p : Int) (n w : Nat) (T : List (List Int)), vs = [.ref f, .ref t] ∧ IsF K H f p ∧ TabAt H t T ∧ Sh p n w T ∧ n < 1000 ∧ w < 1000 ∧
  ((0 < n → Ok p n w T (cleared p (inv p) T w) w) → ∀ H', Same H H' → Q (.int (if T = [] then 0 else (cleared p (inv p) T w).places.length : Nat)) H')
def t_rank (K : PySem.W.Frag) : TS := (tSeq (tIfS (tTest (tOp (rEqD K) (tVar 1) (tLst tNil))) (tRet (tC (.int 0))) tNext) (tRet (tCB (oLen K) (tCons (xFld (He.ga K "Cleared") (xMake (He.ga K "Cleared") (sp_Cleared___init__ K) [] (fun _ => E0) (tCons (tVar 0) (tCons (tVar 1) (tCons (tCB (oLen K) (tCons (tOp (rIxL K) (tVar 1) (tC (.int 0))) tNil)) tNil)))) "places") tNil))))
theorem pu_rank {K : PySem.W.Frag} (vs : List V) (H : Hp) (Q : VK) (E : XK) (h : ∃ (f t : Addr) (p : Int) (n w : Nat) (T : List (List Int)), vs = [.ref f, .ref t] ∧ IsF K H f p ∧ TabAt H t T ∧ Sh p n w T ∧ n < 1000 ∧ w < 1000 ∧
    ((0 < n → Ok p n w T (cleared p (inv p) T w) w) → ∀ H', Same H H' → Q (.int (if T = [] then 0 else (cleared p (inv p) T w).places.length : Nat)) H')) :
    t_rank K { nx := fun _ H' => Q .non H', rt := Q } (start ["field", "table"] vs) H := by
  obtain ⟨f, t, p, n, w, T, rfl, hf, ht, hT, hn, hw, q⟩ := h
  walk_at "go"
  intro e ne
  have se := same_new (H := H) (o := .lst []) ne
  refine eqD_rep 2 (ht.mono se).rep (Rep.nil upd_same) (okd_T 0 T) rfl (by decide) fun b hb => ?_
  have hb : b = true ↔ T = [] := hb.trans ⟨fun z => dT_inj (ys := []) z, fun z => (by rw [z]; rfl)⟩
  walk_at "go"
  refine iteB (fun c => ?_) (fun c => ?_)
  · have hT0 := hb.mp c
    walk_at "go"
    have := q (fun z => absurd hT.len (by rw [hT0]; show ¬ 0 = n; omega)) _ se
    rw [if_pos hT0] at this
    exact this
  · have hT0 : T ≠ [] := fun z => by rw [hb.mpr z] at c; cases c
    have h0 : 0 < n := by rw [← hT.len]; exact List.length_pos_iff.mpr hT0
    obtain ⟨ls, hl, hr⟩ := ht.mono se
    obtain ⟨l0, e0, _, hr0⟩ := hr.row (i := 0) (by rw [hT.len]; exact h0)
    have a0 : atI (ls.map V.ref) 0 = some (.ref l0) := at_refs (by omega) e0
    have sq := SqL.of (K := K) hl
    have sq0 := SqLo (SqL.of (K := K) hr0)
    have hlen : ((T.getD 0 []).map V.int).length = w := by rw [List.length_map]; exact hT.rlen h0
    have hf1 := hf.mono se
    walk_at "go"
    rw [hlen]
    refine use_Cleared hf1 ⟨ls, hl, hr⟩ hT hn hw fun c H' L M Pl nc s I o => ?_
    obtain ⟨⟨dxc, hoc⟩, _, _, hPc, _, _⟩ := I
    have sqP := SqLo (SqL.of (K := K) hPc)
    walk_at "go"
    have := q (fun _ => o) _ (se.trans s)
    rw [if_neg hT0] at this
    rw [List.length_map]
    exact this
theorem cutV_take {xs : List V} {w : Nat} : cutV xs none (some (w : Int)) = xs.take w := by
  unfold cutV
  rw [HT.sIx_none, HT.sIx_nat, List.drop_zero, Nat.sub_zero, List.take_eq_take_iff]
  omega
def sp_reader (K : PySem.W.Frag) : Sp := fun vs H Q _ => vs.length = 3 ∧ ∃ (f t : Addr) (p : Int) (n w : Nat) (T : List (List Int)), vs = [.ref f, .ref t, .int w] ∧ IsF K H f p ∧ TabAt H t T ∧ Sh p n w T ∧ n < 1000 ∧ w < 1000 ∧
  (Ok p n w T (cleared p (inv p) T w) w → (readM p (inv p) T w = none → ∀ H', Same H H' → Q .non H') ∧ ∀ R, readM p (inv p) T w = some R → ∀ H' r, Same H H' → New H H' (.ref r) (dT R) → Q (.ref r) H')
def t_reader (K : PySem.W.Frag) : TS := (tSeq (tAsg (xMake (He.ga K "Cleared") (sp_Cleared___init__ K) [] (fun _ => E0) (tCons (tVar 0) (tCons (tVar 1) (tCons (tVar 2) tNil)))) (gName 3)) (tSeq (tIfS (tTest (tOp oLt (tCB (oLen K) (tCons (xFld (He.ga K "Cleared") (tVar 3) "places") tNil)) (tVar 2))) (tRet (tC .non)) tNext) (tRet (tSl (rSlL K) (xFld (He.ga K "Cleared") (tVar 3) "made_of") tNoPart (tPart (tVar 2))))))
theorem pu_reader {K : PySem.W.Frag} (vs : List V) (H : Hp) (Q : VK) (E : XK) (h : ∃ (f t : Addr) (p : Int) (n w : Nat) (T : List (List Int)), vs = [.ref f, .ref t, .int w] ∧ IsF K H f p ∧ TabAt H t T ∧ Sh p n w T ∧ n < 1000 ∧ w < 1000 ∧
    (Ok p n w T (cleared p (inv p) T w) w → (readM p (inv p) T w = none → ∀ H', Same H H' → Q .non H') ∧ ∀ R, readM p (inv p) T w = some R → ∀ H' r, Same H H' → New H H' (.ref r) (dT R) → Q (.ref r) H')) :
    t_reader K { nx := fun _ H' => Q .non H', rt := Q } (start ["field", "table", "many", "cleared"] vs) H := by
  obtain ⟨f, t, p, n, w, T, rfl, hf, ht, hT, hn, hw, q⟩ := h
  walk_at "go"
  refine use_Cleared hf ht hT hn hw fun c H' L M Pl nc s I o => ?_
  obtain ⟨q0, q1⟩ := q o
  obtain ⟨⟨dxc, hoc⟩, _, ⟨ms, hM, rM, ndM, nM⟩, hPc, fr, _⟩ := I
  have sqP := SqLo (SqL.of (K := K) hPc)
  have sqM := SqL.of (K := K) hM
  walk_at "go"
  refine iteD (fun c => ?_) (fun c => ?_)
  · rw [List.length_map] at c
    walk_at "go"
    exact q0 (by unfold readM; rw [if_pos (by omega)]) _ s
  · rw [List.length_map] at c
    walk_at "go"
    intro r nr
    refine q1 _ (by unfold readM; rw [if_neg (by omega)]) _ r (s.trans (same_new nr)) ?_
    rw [cutV_take]
    have rM2 := (rM.mono (same_new (o := .lst ((ms.map V.ref).take w)) nr))
    have ut : Rows (upd H' r (.lst ((ms.map V.ref).take w))) (ms.take w) ((cleared p (inv p) T w).made.take w) := by
      refine ⟨by rw [List.length_take, List.length_take, rM.len], fun i l row e1 e2 => ?_⟩
      rw [List.getElem?_take] at e1 e2
      split at e1
      · rw [if_pos (by assumption)] at e2
        exact rM2.at_ i l row e1 e2
      · cases e1
    refine ⟨r :: ms.take w, .lst (by rw [upd_same, List.map_take]) ut.trs, List.nodup_cons.mpr ⟨fun z => ?_, ndM.sublist (List.take_sublist _ _)⟩, fun b hb => ?_⟩
    · obtain ⟨o, e⟩ := rM.ex (List.mem_of_mem_take z)
      rw [nr] at e; cases e
    · rcases List.mem_cons.mp hb with rfl | hb
      · exact s.free nr
      · exact (nM b (List.mem_of_mem_take hb)).2.2.2
theorem inV_nats {ps : List Nat} {i : Nat} : inV (.int (i : Int)) (ps.map fun (q : Nat) => V.int q) = ps.contains i := by
  unfold inV
  rw [List.any_map]
  induction ps with
  | nil => rfl
  | cons q ps ih =>
    rw [List.any_cons, ih, List.contains_cons]
    congr 1
    show ((q : Int) == (i : Int)) = (i == q)
    rw [Bool.eq_iff_iff]
    simp
    omega
theorem flat_nats (ps : List Nat) : (ps.map fun (q : Nat) => V.int q).all flatV = true := by
  rw [List.all_map]; exact List.all_eq_true.mpr fun _ _ => rfl
def sp_nought (K : PySem.W.Frag) : Sp := fun vs H Q _ => vs.length = 3 ∧ ∃ (f t : Addr) (p : Int) (n w : Nat) (T : List (List Int)), vs = [.ref f, .ref t, .int w] ∧ IsF K H f p ∧ TabAt H t T ∧ Sh p n w T ∧ n < 1000 ∧ w < 1000 ∧
  (Ok p n w T (cleared p (inv p) T w) w → (noughtM p (inv p) T w = none → ∀ H', Same H H' → Q .non H') ∧ ∀ R, noughtM p (inv p) T w = some R → ∀ H' r, Same H H' → H r = none → Row H' r R → Q (.ref r) H')
def t_nought_1 (K : PySem.W.Frag) : TS := (tAsg (xMeth (He.ga K "Field") "minus" (sp_Field_minus K) [] (fun _ => E0) (tVar 0) (tCons (tC (.int 0)) (tCons (tOp (rIxL K) (tOp (rIxL K) (xFld (He.ga K "Cleared") (tVar 3) "lines") (tVar 7)) (tOp (rIxL K) (tVar 5) (tC (.int 0)))) tNil))) (gSub (tVar 6) (tVar 4) rSetL))
def t_nought_2 (K : PySem.W.Frag) : TS := (tRet (tVar 6))
def t_nought (K : PySem.W.Frag) : TS := (tSeq (tAsg (xMake (He.ga K "Cleared") (sp_Cleared___init__ K) [] (fun _ => E0) (tCons (tVar 0) (tCons (tVar 1) (tCons (tVar 2) tNil)))) (gName 3)) (tSeq (tAsg (tLc (iRng1 (tCons (tVar 2) tNil)) (gName 4) (tTest (tOp (rIn K true) (tVar 4) (xFld (He.ga K "Cleared") (tVar 3) "places"))) (tVar 4) [8, 4]) (gName 5)) (tSeq (tIfS (tTest (tOp (rEqD K) (tVar 5) (tLst tNil))) (tRet (tC .non)) tNext) (tSeq (tAsg (tLc (iRng1 (tCons (tVar 2) tNil)) (gName 4) tYes (tC (.int 0)) [8, 4]) (gName 6)) (tSeq (tAsg (tC (.int 1)) (gSub (tVar 6) (tOp (rIxL K) (tVar 5) (tC (.int 0))) rSetL)) (tSeq (tFor (iEnum K (tCons (xFld (He.ga K "Cleared") (tVar 3) "places") tNil)) (gTup K 2 (gCons (gName 7) (gCons (gName 4) gNil))) (t_nought_1 K)) (t_nought_2 K)))))))
theorem pu_nought {K : PySem.W.Frag} (vs : List V) (H : Hp) (Q : VK) (E : XK) (h : ∃ (f t : Addr) (p : Int) (n w : Nat) (T : List (List Int)), vs = [.ref f, .ref t, .int w] ∧ IsF K H f p ∧ TabAt H t T ∧ Sh p n w T ∧ n < 1000 ∧ w < 1000 ∧
    (Ok p n w T (cleared p (inv p) T w) w → (noughtM p (inv p) T w = none → ∀ H', Same H H' → Q .non H') ∧ ∀ R, noughtM p (inv p) T w = some R → ∀ H' r, Same H H' → H r = none → Row H' r R → Q (.ref r) H')) :
    t_nought K { nx := fun _ H' => Q .non H', rt := Q } (start ["field", "table", "many", "cleared", "place", "free", "row", "k", ".0"] vs) H := by
  obtain ⟨f, t, p, n, w, T, rfl, hf, ht, hT, hn, hw, q⟩ := h
  have h10 : (1000 : Nat) < sizeLine := by decide
  have hp := hf.pos
  walk_at "go"
  refine use_Cleared hf ht hT hn hw fun co H1 L M Pl nc s1 I o => ?_
  obtain ⟨q0, q1⟩ := q o
  unfold noughtM at q0 q1
  generalize cleared p (inv p) T w = s at *
  obtain ⟨⟨dxc, hoc⟩, ⟨ls, hL, rL, _⟩, _, hPc, _, _⟩ := I
  have hf1 := hf.mono s1
  walk_at "go"
  refine lcF walk_range (fun i => !s.places.contains i) (fun i => .int (i : Int)) (show w < sizeLine by omega) (fun _ _ => trivial) ?_ ?_
  · rintro i x _ H2 F F' hi s2 ⟨rfl, ex⟩ hF hF'
    replace ex : x = .int (i : Int) := ex.trans (congrArg V.int (Int.zero_add _))
    subst ex
    refine ⟨rfl, ?_⟩
    have hoc2 := s2 _ _ hoc
    have sP := SqLo (SqL.of (K := K) (s2 _ _ hPc))
    have fl := flat_nats s.places
    walk_at "go"
    rw [if_pos rfl, inV_nats]
    cases hc : s.places.contains i with
    | true => exact iteF (hF' (by rw [hc]; rfl) _ (Same.refl _))
    | false =>
      refine iteT ?_
      walk_at "go"
      exact hF (by rw [hc]; rfl) _ (Same.refl _)
  · intro fr H2 nf s2 ef
    rw [show (w : Int).toNat = w from rfl, givn_list (List.range w) (fun q => !s.places.contains q) (fun q => V.int q) (fun i => !s.places.contains i) _ (fun i x e => by
        have := (List.getElem?_eq_some_iff.mp e).2
        rw [List.getElem_range] at this
        rw [this]) (fun i x e => by
        have := (List.getElem?_eq_some_iff.mp e).2
        rw [List.getElem_range] at this
        rw [this]) w (by rw [List.length_range]; exact Nat.le_refl _), show (List.range w).take w = List.range w from List.take_of_length_le (by rw [List.length_range]; exact Nat.le_refl _)] at ef
    have ef : H2 fr = some (.lst ((freeP s w).map fun (q : Nat) => V.int q)) := ef
    have efI : H2 fr = some (.lst (((freeP s w).map fun (q : Nat) => (q : Int)).map V.int)) := by rw [ef, List.map_map]; rfl
    have s12 := s1.trans s2
    walk_at "go"
    intro e ne
    have se := same_new (H := H2) (o := .lst []) ne
    refine eqD_rep 1 (d := dI ((freeP s w).map fun (q : Nat) => (q : Int))) (e := dI []) (Rep.of_ints (se _ _ efI)) (Rep.of_ints upd_same) (okd_I 0 _) (okd_I 0 _) (by decide) fun b hb => ?_
    have hb : b = true ↔ freeP s w = [] := hb.trans ⟨fun z => List.map_eq_nil_iff.mp (dI_inj z), fun z => (by rw [z]; rfl)⟩
    walk_at "go"
    refine iteB (fun c => ?_) (fun c => ?_)
    · rw [hb.mp c] at q0
      walk_at "go"
      exact q0 rfl _ (s12.trans se)
    · cases hfr : freeP s w with
      | nil => rw [hb.mpr hfr] at c; cases c
      | cons c0 rest =>
        rw [hfr] at q1 ef
        have hc0 : c0 < w := List.mem_range.mp (List.mem_filter.mp (show c0 ∈ freeP s w by rw [hfr]; exact List.mem_cons_self ..)).1
        walk_at "go"
        refine lcA walk_range (fun _ => .int 0) (show w < sizeLine by omega) (fun _ _ => trivial) ?_ ?_
        · rintro i x _ H3 F hi s3 ⟨rfl, ex⟩ hF
          refine ⟨rfl, ?_⟩
          walk_at "go"
          exact hF _ (Same.refl _)
        · intro r H3 nr s3 er
          rw [show (w : Int).toNat = w from rfl, givn_all] at er
          have er : H3 r = some (.lst (((List.range w).map fun _ => (0 : Int)).map V.int)) := by rw [er, List.map_map]; rfl
          have s23 := se.trans s3
          have s13 := s12.trans s23
          have ef3 := s23 _ _ ef
          have sf3 := SqL.of (K := K) ef3
          have a0 : atI ((c0 :: rest).map fun (q : Nat) => V.int q) 0 = some (.int c0) := at_of (show (0 : Int) = ((0 : Nat) : Int) from rfl) rfl
          have lz : (((List.range w).map fun _ => (0 : Int)).map V.int).length = w := by rw [List.length_map, List.length_map, List.length_range]
          have ix0 : ixN (((List.range w).map fun _ => (0 : Int)).map V.int).length (c0 : Int) = some c0 := ixN_of (by rw [lz]; exact hc0)
          have hoc3 := s23 _ _ (s2 _ _ hoc)
          have hP3 := s23 _ _ (s2 _ _ hPc)
          have hL3 := s23 _ _ (s2 _ _ hL)
          have rL3 := (rL.mono s2).mono s23
          have nr2 : H2 r = none := se.free nr
          have hoc4 : upd H3 r (.lst ((((List.range w).map fun _ => (0 : Int)).map V.int).set c0 (.int 1))) co = _ := upd_atN (ne_of_none (s2 _ _ hoc) nr2) hoc3
          have hP4 : upd H3 r (.lst ((((List.range w).map fun _ => (0 : Int)).map V.int).set c0 (.int 1))) Pl = _ := upd_atN (ne_of_none (s2 _ _ hPc) nr2) hP3
          have sP4 := SqL.of (K := K) hP4
          walk_at "go"
          have s4 : Same H2 (upd H3 r (.lst ((((List.range w).map fun _ => (0 : Int)).map V.int).set c0 (.int 1)))) := same_mut s23 nr2
          have hr4 : upd H3 r (.lst ((((List.range w).map fun _ => (0 : Int)).map V.int).set c0 (.int 1))) r = some (.lst ((rowAt p s c0 w 0).map V.int)) := by
            rw [upd_same]
            show _ = some (HO.lst ((((List.range w).map fun _ => (0 : Int)).set c0 1).map V.int))
            rw [List.map_set]
          generalize upd H3 r (.lst ((((List.range w).map fun _ => (0 : Int)).map V.int).set c0 (.int 1))) = H4 at *
          refine loop2 (walk_enum (xs := s.places.map fun (q : Nat) => V.int q)) 7 4 (fun i σ H' => Same H2 H' ∧ H' r = some (.lst ((rowAt p s c0 w i).map V.int)) ∧ ∃ x4 x7, σ = [some (.ref f), some (.ref t), some (.int w), some (.ref co), x4, some (.ref fr), some (.ref r), x7, none]) ⟨s4, hr4, _, _, rfl⟩ (fun i σ H' _ h => SqL.of (h.1 _ _ (s2 _ _ hPc))) ?_ ?_
          · rintro i x y σ H5 H6 hi ⟨s5, hr5, x4, x7, rfl⟩ hx hy s6
            cases hx
            rw [List.getElem?_map] at hy
            cases ey : s.places[i]? with
            | none => rw [ey] at hy; cases hy
            | some pq =>
              rw [ey] at hy
              cases hy
              have hpi : i < s.places.length := (List.getElem?_eq_some_iff.mp ey).1
              have hin : i < n := Nat.lt_of_lt_of_le hpi o.le
              have hpw : pq < w := o.pl _ (List.mem_of_getElem? ey)
              have s56 := s5.trans s6
              have hoc6 := s56 _ _ (s2 _ _ hoc)
              have hL6 := SqL.of (K := K) (s56 _ _ (s2 _ _ hL))
              have sf6 := SqL.of (K := K) (s56 _ _ ef)
              obtain ⟨l, el, _, hl⟩ := ((rL.mono s2).mono s56).row (i := i) (by rw [o.shL.len]; exact hin)
              have a1 := at_refsN el
              have a2 : atI ((s.lines.getD i []).map V.int) (c0 : Int) = some (.int (g2 s.lines i c0)) := at_intsN (by rw [o.shL.rlen hin]; exact hc0)
              have sl := SqL.of (K := K) hl
              have hf6 := hf.mono (s12.trans s56)
              have hf6' := hf6
              obtain ⟨dxf, hfo, _⟩ := hf6'
              have hr6 := s6 _ _ hr5
              have ixp : ixN ((rowAt p s c0 w i).map V.int).length (pq : Int) = some pq := ixN_of (by rw [List.length_map, rowAt_len]; exact hpw)
              unfold t_nought_1
              walk_at "go"
              refine ⟨same_mut s56 nr2, ?_, _, _, rfl⟩
              rw [upd_same, rowAt_succ, List.map_set, show s.places.getD i 0 = pq by rw [List.getD_eq_getElem?_getD, ey]; rfl]
          · rintro σ H5 ⟨s5, hr5, x4, x7, rfl⟩
            unfold t_nought_2
            walk_at "go"
            rw [List.length_map] at hr5
            exact q1 _ rfl _ r (s12.trans s5) (s12.free nr2) hr5
end Mx

set_option Elab.async false
set_option linter.all false
set_option maxRecDepth 100000
set_option maxHeartbeats 1000000
namespace Mx
open PySem PySem.Spec PyProof.Rows L2 Nt Tb
local macro_rules | `(tactic| walk_at "side") => `(tactic| first
  | assumption
  | rfl
  | exact upd_same
  | exact sqL_new
  | exact ⟨_, sqL_new⟩
  | exact ⟨_, by assumption⟩
  | exact sqT_new
  | exact ⟨_, sqT_new⟩
  | exact ⟨_, sqL_upd (by assumption) (by assumption)⟩
  | exact sqL_upd (by assumption) (by assumption)
  | (refine upd_at ?_ ?_ <;> assumption)
  | exact ty_lst (by assumption)
  | exact ty_lst upd_same
  | exact SqL.of (by assumption)
  | exact .inl (SqL.of (by assumption))
  | exact ⟨_, SqL.of (by assumption)⟩
  | omega
  | exact Nat.le_of_ble_eq_true rfl
  | decide)
local macro_rules | `(tactic| walk_at "go1") => `(tactic| first
  | (fail_if_success (show ∃ W : Nat → Nat → L2.St → Hp → Prop, _)
     fail_if_success (show ∃ W : Nat → L2.St → Hp → Prop, _)
     fail_if_success (show ∃ W : L2.St → Hp → Prop, _)
     apply Exists.intro)
  | (refine And.intro ?_ ?_; (walk_at "side")))
local macro_rules | `(tactic| walk_at "nrm") => `(tactic| dsimp only [tSeq, tAsg, tC, gName, tNext, tIfS, tRet, tDrop, tTest, tB, L2.start, List.map, List.length, List.replicate, List.cons_append, List.nil_append, List.set_cons_zero, List.set_cons_succ])
local macro_rules | `(tactic| walk_at "go") => `(tactic| repeat (walk_at "go1"))
theorem kind_lst {H : Hp} {a : Addr} {xs : List V} (h : H a = some (.lst xs)) : kindOf H (.ref a) "list" := .inl ⟨⟨xs, h⟩, rfl⟩
def sp_law_mixed (K : PySem.W.Frag) : Sp := fun vs H Q _ => vs.length = 2 ∧ ∃ c k, vs = [.int c, .int k] ∧ (0 ≤ k ∧ k < 1000) ∧ ∀ n, (0 ≤ n ∧ n < 2147483563) → Q (.int n) H
def t_law_mixed (K : PySem.W.Frag) : TS := (tSeq (tAsg (tOp oMod (tOp oMul (tOp oAdd (tOp oMod (tVar 0) (tC (.int 2147483646))) (tC (.int 1))) (tOp oAdd (tOp oMul (tVar 1) (tC (.int 7919))) (tC (.int 104729)))) (tC (.int 2147483647))) (gName 2)) (tSeq (tAsg (tOp oMod (tOp oMul (tOp oAdd (tVar 2) (tOp oMul (tOp oMod (tOp oFdv (tVar 0) (tC (.int 2147483646))) (tC (.int 1000003))) (tOp oAdd (tVar 1) (tC (.int 31))))) (tC (.int 48271))) (tC (.int 2147483629))) (gName 2)) (tSeq (tAsg (tOp oMod (tOp oMul (tVar 2) (tOp oAdd (tOp oAdd (tOp oFdv (tVar 2) (tC (.int 1013))) (tC (.int 69621))) (tVar 1))) (tC (.int 2147483587))) (gName 2)) (tRet (tOp oMod (tOp oMul (tVar 2) (tOp oAdd (tOp oFdv (tVar 2) (tC (.int 2003))) (tC (.int 40692)))) (tC (.int 2147483563)))))))
theorem pu_law_mixed {K : PySem.W.Frag} (vs : List V) (H : Hp) (Q : VK) (E : XK) (h : ∃ c k, vs = [.int c, .int k] ∧ (0 ≤ k ∧ k < 1000) ∧ ∀ n, (0 ≤ n ∧ n < 2147483563) → Q (.int n) H) :
    t_law_mixed K { nx := fun _ H' => Q .non H', rt := Q } (start ["cell", "k", "number"] vs) H := by
  obtain ⟨c, k, rfl, hk, q⟩ := h
  have m1 : CMul k 7919 := .inr (by decide)
  have m2 : CMul (c % 2147483646 + 1) (k * 7919 + 104729) := .inr ⟨by omega, by omega⟩
  have d1 : CDivW c 2147483646 := ⟨by decide, by decide⟩
  have m3 : CMul (c / 2147483646 % 1000003) (k + 31) := .inr ⟨by omega, by omega⟩
  have m4 : CMul ((c % 2147483646 + 1) * (k * 7919 + 104729) % 2147483647 + c / 2147483646 % 1000003 * (k + 31)) 48271 := .inr (by decide)
  generalize e1 : ((c % 2147483646 + 1) * (k * 7919 + 104729) % 2147483647 + c / 2147483646 % 1000003 * (k + 31)) * 48271 % 2147483629 = n1
  have b1 : 0 ≤ n1 ∧ n1 < 2147483629 := by
    rw [← e1]
    exact ⟨Int.emod_nonneg _ (by decide), Int.emod_lt_of_pos _ (by decide)⟩
  have d2 : CDivW n1 1013 := ⟨by decide, by decide⟩
  have m5 : CMul n1 (n1 / 1013 + 69621 + k) := .inl ⟨by omega, by omega⟩
  generalize e2 : n1 * (n1 / 1013 + 69621 + k) % 2147483587 = n2
  have b2 : 0 ≤ n2 ∧ n2 < 2147483587 := by
    rw [← e2]
    exact ⟨Int.emod_nonneg _ (by decide), Int.emod_lt_of_pos _ (by decide)⟩
  have d3 : CDivW n2 2003 := ⟨by decide, by decide⟩
  have m6 : CMul n2 (n2 / 2003 + 40692) := .inl ⟨by omega, by omega⟩
  subst e2
  subst e1
  walk_at "go"
  exact q _ ⟨Int.emod_nonneg _ (by decide), Int.emod_lt_of_pos _ (by decide)⟩
def sp_law_source (K : PySem.W.Frag) : Sp := fun vs H Q _ => vs.length = 1 ∧ ∃ c, vs = [.int c] ∧ ∀ a, H a = none → Q (.ref a) (upd H a (.lst [.int c, .int c, .int 0]))
def t_law_source (K : PySem.W.Frag) : TS := (tRet (tLst (tCons (tVar 0) (tCons (tVar 0) (tCons (tC (.int 0)) tNil)))))
theorem pu_law_source {K : PySem.W.Frag} (vs : List V) (H : Hp) (Q : VK) (E : XK) (h : ∃ c, vs = [.int c] ∧ ∀ a, H a = none → Q (.ref a) (upd H a (.lst [.int c, .int c, .int 0]))) :
    t_law_source K { nx := fun _ H' => Q .non H', rt := Q } (start ["cell"] vs) H := by
  obtain ⟨c, rfl, q⟩ := h
  walk_at "go"
  intro a na
  exact q a na
/-- a source: how often it was asked, at most -/
def Src (H : Hp) (a : Addr) (n : Nat) : Prop := ∃ x y z : Int, H a = some (.lst [.int x, .int y, .int z]) ∧ 0 ≤ z ∧ z ≤ n
theorem Src.at {H H' : Hp} {a : Addr} {n m : Nat} (h : Src H a n) (e : ∀ x, H a = some x → H' a = some x) (hn : n ≤ m) : Src H' a m := let ⟨x, y, z, b, c, d⟩ := h; ⟨x, y, z, e _ b, c, by omega⟩
theorem Src.ex {H : Hp} {a : Addr} {n : Nat} (h : Src H a n) : ∃ x, H a = some x := let ⟨_, _, _, b, _⟩ := h; ⟨_, b⟩
def sp_law_take (K : PySem.W.Frag) : Sp := fun vs H Q _ => vs.length = 2 ∧ ∃ (a : Addr) (m : Int) (n : Nat), vs = [.ref a, .int m] ∧ Src H a n ∧ n < 900 ∧ (0 < m ∧ m ≤ 1000000) ∧
  ∀ r H', (0 ≤ r ∧ r < m) → Same (off [a] H) (off [a] H') → Src H' a (n + 1) → Q (.int r) H'
def t_law_take (K : PySem.W.Frag) : TS := (tSeq (tIfS (tTest (tOp oGe (tOp (rIxL K) (tVar 0) (tC (.int 0))) (tOp oPow (tC (.int 10)) (tC (.int 18))))) (tSeq (tAsg (tOp oMod (tOp (rIxL K) (tVar 0) (tC (.int 0))) (tVar 1)) (gName 2)) (tSeq (tAsg (tOp oFdv (tOp (rIxL K) (tVar 0) (tC (.int 0))) (tVar 1)) (gSub (tVar 0) (tC (.int 0)) rSetL)) (tRet (tVar 2)))) tNext) (tSeq (tAsg (tOp oAdd (tOp (rIxL K) (tVar 0) (tC (.int 2))) (tC (.int 1))) (gSub (tVar 0) (tC (.int 2)) rSetL)) (tRet (tOp oMod (tCallSD (sp_law_mixed K) [] (fun _ => E0) (tCons (tOp (rIxL K) (tVar 0) (tC (.int 1))) (tCons (tOp (rIxL K) (tVar 0) (tC (.int 2))) tNil))) (tVar 1)))))
theorem pu_law_take {K : PySem.W.Frag} (vs : List V) (H : Hp) (Q : VK) (E : XK) (h : ∃ (a : Addr) (m : Int) (n : Nat), vs = [.ref a, .int m] ∧ Src H a n ∧ n < 900 ∧ (0 < m ∧ m ≤ 1000000) ∧
    ∀ r H', (0 ≤ r ∧ r < m) → Same (off [a] H) (off [a] H') → Src H' a (n + 1) → Q (.int r) H') :
    t_law_take K { nx := fun _ H' => Q .non H', rt := Q } (start ["source", "many", "found"] vs) H := by
  obtain ⟨a, m, n, rfl, ⟨x, y, z, ha, hz⟩, hn, hm, q⟩ := h
  have sa := SqL.of (K := K) ha
  have a0 : atI [V.int x, .int y, .int z] 0 = some (.int x) := rfl
  have a2 : atI [V.int x, .int y, .int z] 2 = some (.int z) := rfl
  have i0 : ixN [V.int x, .int y, .int z].length 0 = some 0 := rfl
  have i2 : ixN [V.int x, .int y, .int z].length 2 = some 2 := rfl
  have w3 : CPow 10 18 := ⟨by decide, by decide, by decide⟩
  have hm0 : m ≠ 0 := by omega
  have dm : CDivW x m := wide_div hm.1 (b := 20) (by omega) (by decide) (by decide)
  walk_at "go"
  refine iteD (fun c1 => ?_) (fun c1 => ?_)
  · walk_at "go"
    refine q _ _ ⟨Int.emod_nonneg _ hm0, Int.emod_lt_of_pos _ hm.1⟩ ?_ ⟨x / m, y, z, upd_same, by omega⟩
    rw [off_upd (List.mem_singleton.mpr rfl)]
    exact Same.refl _
  · have s2 : SqL K (upd H a (.lst ([V.int x, .int y, .int z].set 2 (.int (z + 1))))) a [.int x, .int y, .int (z + 1)] := sqL_new
    have b1 : atI [V.int x, .int y, .int (z + 1)] 1 = some (.int y) := rfl
    have b2 : atI [V.int x, .int y, .int (z + 1)] 2 = some (.int (z + 1)) := rfl
    walk_at "go"
    intro r hr
    walk_at "go"
    refine q _ _ ⟨Int.emod_nonneg _ hm0, Int.emod_lt_of_pos _ hm.1⟩ ?_ ⟨x, y, z + 1, upd_same, by omega⟩
    rw [off_upd (List.mem_singleton.mpr rfl)]
    exact Same.refl _
/-! ### tables -/
def sp_law_table (K : PySem.W.Frag) : Sp := fun vs H Q _ => vs.length = 4 ∧ ∃ (a : Addr) (h w : Nat) (p : Int) (n : Nat), vs = [.ref a, .int h, .int w, .int p] ∧ Src H a n ∧ n < 800 ∧ (0 < h ∧ h ≤ 5) ∧ (0 < w ∧ w ≤ 5) ∧ (2 ≤ p ∧ p ≤ 1000000) ∧
  ∀ H' t T, Same (off [a] H) (off [a] H') → Src H' a (n + 30) → New (off [a] H) (off [a] H') (.ref t) (dT T) → Sh p h w T → Q (.ref t) H'
def t_law_table_1 (K : PySem.W.Frag) : TS := (tRet (tVar 6))
def t_law_table_2 (K : PySem.W.Frag) : TS := (tSeq (tAsg (tOp (rIxL K) (tLst (tCons (tVar 3) (tCons (tC (.int 1)) (tCons (tVar 3) (tCons (tC (.int 2)) tNil))))) (tOp oMod (tVar 4) (tC (.int 4)))) (gName 5)) (tSeq (tAsg (tLc (iRng1 (tCons (tVar 1) tNil)) (gName 8) tYes (tLc (iRng1 (tCons (tVar 2) tNil)) (gName 9) tYes (tCallSD (sp_law_take K) [] (fun _ => E0) (tCons (tVar 0) (tCons (tVar 5) tNil))) [7, 9]) [7, 8]) (gName 6)) (tSeq (tIfS (tTest (tOp rEq (tVar 4) (tC (.int 5)))) (tAsg (tCB (oList K) (tCons (tOp (rIxL K) (tVar 6) (tC (.int 0))) tNil)) (gSub (tVar 6) (tUn oNeg (tC (.int 1))) rSetL)) tNext) (t_law_table_1 K))))
def t_law_table (K : PySem.W.Frag) : TS := (tSeq (tAsg (tCallSD (sp_law_take K) [] (fun _ => E0) (tCons (tVar 0) (tCons (tC (.int 6)) tNil))) (gName 4)) (tSeq (tIfS (tAnd (tTest (tOp oLt (tVar 4) (tC (.int 2)))) (tTest (tOp rEq (tVar 1) (tVar 2)))) (tRet (tLc (iRng1 (tCons (tVar 1) tNil)) (gName 8) tYes (tLc (iRng1 (tCons (tVar 2) tNil)) (gName 9) tYes (tCB oInt1 (tCons (tOp rEq (tVar 8) (tVar 9)) tNil)) [7, 9]) [7, 8])) tNext) (t_law_table_2 K)))
theorem New.of_rows {H0 H : Hp} {t : Addr} {ls : List Addr} {T : List (List Int)} (h : H t = some (.lst (ls.map V.ref))) (r : Rows H ls T) (nd : (t :: ls).Nodup) (fr : ∀ b ∈ t :: ls, H0 b = none) : New H0 H (.ref t) (dT T) := ⟨t :: ls, .lst h r.trs, nd, fr⟩
theorem set_last_nodup {t r : Addr} {ls : List Addr} {i : Nat} (h : (t :: ls).Nodup) (hr : r ∉ t :: ls) : (t :: ls.set i r).Nodup := by
  rw [List.nodup_cons] at h ⊢
  refine ⟨fun z => ?_, ?_⟩
  · rcases List.mem_or_eq_of_mem_set z with z | z
    · exact h.1 z
    · exact hr (z ▸ List.mem_cons_self)
  · refine List.pairwise_iff_getElem.mpr fun j k hj hk hjk => ?_
    rw [List.length_set] at hj hk
    have hn := List.pairwise_iff_getElem.mp h.2 j k hj hk hjk
    have rm : r ∉ ls := fun z => hr (List.mem_cons_of_mem _ z)
    rw [List.getElem_set, List.getElem_set]
    by_cases e1 : i = j
    · have e2 : ¬ i = k := by omega
      rw [if_pos e1, if_neg e2]
      exact fun z => rm (z ▸ List.getElem_mem hk)
    · rw [if_neg e1]
      by_cases e2 : i = k
      · rw [if_pos e2]
        exact fun z => rm (z ▸ List.getElem_mem hj)
      · rw [if_neg e2]; exact hn
theorem Sh.set {p : Int} {n w : Nat} {T : List (List Int)} {i : Nat} {r : List Int} (s : Sh p n w T) (h : r.length = w ∧ ∀ x ∈ r, 0 ≤ x ∧ x < p) : Sh p n w (T.set i r) :=
  ⟨by rw [List.length_set]; exact s.len, fun x hx => by
    rcases List.mem_or_eq_of_mem_set hx with z | z
    · exact s.row x z
    · rw [z]; exact h⟩
theorem New.offS {S : List Addr} {H0 H : Hp} {v : V} {d : Dat} (n : New H0 H v d) (f : ∀ b ∈ S, ∃ o, H0 b = some o) : New (Mx.off S H0) (Mx.off S H) v d := by
  obtain ⟨fp, t, nd, fr⟩ := n.off f
  exact ⟨fp, t, nd, fun b hb => off_none (fr b hb)⟩
theorem pick4 (p way : Int) (hp : 2 ≤ p) : ∃ m, atI [V.int p, .int 1, .int p, .int 2] (way % 4) = some (.int m) ∧ (0 < m ∧ m ≤ p) := by
  have b0 := Int.emod_nonneg way (show (4 : Int) ≠ 0 by decide)
  have b1 := Int.emod_lt_of_pos way (show (0 : Int) < 4 by decide)
  generalize way % 4 = k at b0 b1
  by_cases k0 : k = 0
  · subst k0; exact ⟨p, rfl, by omega⟩
  by_cases k1 : k = 1
  · subst k1; exact ⟨1, rfl, by omega⟩
  by_cases k2 : k = 2
  · subst k2; exact ⟨p, rfl, by omega⟩
  have k3 : k = 3 := by omega
  subst k3; exact ⟨2, rfl, by omega⟩
theorem tab15_2 {K : PySem.W.Frag} {Q : VK} {a : Addr} {h w n : Nat} {p way : Int} {H : Hp} (hs : Src H a n) (hn : n < 850) (hh : 0 < h ∧ h ≤ 5) (hw : 0 < w ∧ w ≤ 5) (hp : 2 ≤ p ∧ p ≤ 1000000)
    (q : ∀ H' t T, Same (off [a] H) (off [a] H') → Src H' a (n + 29) → New (off [a] H) (off [a] H') (.ref t) (dT T) → Sh p h w T → Q (.ref t) H') :
    t_law_table_2 K { nx := fun _ H' => Q .non H', rt := Q } [some (.ref a), some (.int h), some (.int w), some (.int p), some (.int way), none, none, none, none, none] H := by
  have h10 : (1000 : Nat) < sizeLine := by decide
  obtain ⟨top, atop, htop⟩ := pick4 p way hp.1
  unfold t_law_table_2
  walk_at "go"
  intro o no
  have so : SqL K (upd H o (.lst [.int p, .int 1, .int p, .int 2])) o [.int p, .int 1, .int p, .int 2] := sqL_new
  have oa : o ≠ a := fun z => by
    obtain ⟨x, hx⟩ := hs.ex
    rw [← z, no] at hx; cases hx
  have s1 := same_new (H := H) (o := .lst [.int p, .int 1, .int p, .int 2]) no
  have hs1 : Src (upd H o (.lst [.int p, .int 1, .int p, .int 2])) a n := hs.at (fun x e => s1 _ _ e) (Nat.le_refl _)
  generalize upd H o (.lst [.int p, .int 1, .int p, .int 2]) = H1 at *
  walk_at "go"
  refine lcS (walk_range (lo := 0) (n := h)) a (fun i H => Src H a (n + 5 * i)) (fun i d => ∃ xs, d = dI xs ∧ xs.length = w ∧ In p xs) (fun i H1 H2 e g => g.at e (Nat.le_refl _)) (hs1.at (fun x e => e) (by omega)) hs1.ex (show h < sizeLine by omega) (fun _ _ => trivial) ?_ ?_
  · rintro i x H2 _ F hi s2 hs2 ⟨rfl, ex⟩ hF
    clear ex
    refine ⟨rfl, ?_⟩
    have hi5 : i < 5 := by omega
    walk_at "go"
    refine lcS (walk_range (lo := 0) (n := w)) a (fun j H => Src H a (n + 5 * i + j)) (fun j d => ∃ x, d = .int x ∧ 0 ≤ x ∧ x < p) (fun i H1 H2 e g => g.at e (Nat.le_refl _)) (hs2.at (fun x e => e) (by omega)) hs2.ex (show w < sizeLine by omega) (fun _ _ => trivial) ?_ ?_
    · rintro j x H3 _ F2 hj s3 hs3 ⟨rfl, ex⟩ hF2
      clear ex
      refine ⟨rfl, ?_⟩
      have hn3 : n + 5 * i + j < 900 := by omega
      walk_at "go"
      intro r H4 hr s4 hs4
      exact hF2 _ _ _ ⟨r, rfl, hr.1, by omega⟩ s4 hs4 (New.int r)
    · intro r H3 ds s3 hs3 hl hP nw
      obtain ⟨xs, rfl, hxs⟩ := ds_of Dat.int (fun x => 0 ≤ x ∧ x < p) ds (fun d hd => by
        obtain ⟨i, hi⟩ := List.getElem?_of_mem hd
        exact hP i d hi)
      rw [List.length_map] at hl
      exact hF _ _ _ ⟨xs, rfl, hl, hxs⟩ s3 (hs3.at (fun x e => e) (by omega)) nw
  · intro t H2 ds s2 hs2 hl hP nw
    obtain ⟨T, rfl, hT⟩ := ds_of dI (fun xs => xs.length = w ∧ In p xs) ds (fun d hd => by
      obtain ⟨i, hi⟩ := List.getElem?_of_mem hd
      exact hP i d hi)
    rw [List.length_map] at hl
    have hS : Sh p h w T := ⟨hl, hT⟩
    have s02 := (off_same (S := [a]) s1).trans s2
    have nw := nw.back (off_same (S := [a]) s1)
    walk_at "go"
    refine iteEq (fun c => ?_) (fun c => ?_)
    · obtain ⟨t', ls, et, ht, rT, nd, fr⟩ := nw.table
      cases et
      have ht2 := off_in _ _ ht
      have rT2 := rT.mono off_in
      obtain ⟨l0, e0, _, r0⟩ := rT2.row (i := 0) (by omega)
      have st := SqL.of (K := K) ht2
      have al0 : atI (ls.map V.ref) 0 = some (.ref l0) := at_refs (by omega) e0
      have sl0 := SqLo (SqL.of (K := K) r0)
      walk_at "go"
      intro r nr
      have s3 := same_new (H := H2) (o := .lst ((T.getD 0 []).map V.int)) nr
      have hr3 : upd H2 r (.lst ((T.getD 0 []).map V.int)) r = some (.lst ((T.getD 0 []).map V.int)) := upd_same
      generalize upd H2 r (.lst ((T.getD 0 []).map V.int)) = H3 at *
      have ht3 := s3 _ _ ht2
      have lls : (ls.map V.ref).length = h := by rw [List.length_map, rT.len, hl]
      have ixl : ixN (ls.map V.ref).length (-1) = some (h - 1) := by
        rw [lls]
        unfold ixN
        have c1 : ¬ (0 ≤ (-1 : Int)) := by decide
        simp only [c1]
        have : (0 : Int) ≤ -1 + (h : Int) := by omega
        simp [this]
        omega
      walk_at "go"
      have ta : t ≠ a := fun z => (off_some ht).1 (by rw [z]; exact List.mem_singleton.mpr rfl)
      have ra : r ≠ a := fun z => by
        obtain ⟨x, hx⟩ := hs2.ex
        rw [← z, nr] at hx; cases hx
      have rn : r ∉ t :: ls := fun z => by
        rcases List.mem_cons.mp z with z | z
        · rw [z, ht2] at nr; cases nr
        · obtain ⟨x, hx⟩ := rT2.ex z
          rw [nr] at hx; cases hx
      have e4 : off [a] (upd H3 t (.lst ((ls.map V.ref).set (h - 1) (.ref r)))) = upd (off [a] H3) t (.lst ((ls.map V.ref).set (h - 1) (.ref r))) := off_updN (fun z => ta (List.mem_singleton.mp z))
      have s3o := off_same (S := [a]) s3
      have nt : off [a] H t = none := fr t List.mem_cons_self
      have nlt : ∀ l ∈ ls, l ≠ t := fun l hl z => (List.nodup_cons.mp nd).1 (z ▸ hl)
      refine q _ t (T.set (h - 1) (T.getD 0 [])) ?_ (hs2.at (fun x e => upd_atN ta.symm (s3 _ _ e)) (by omega)) ?_ (Sh.set hS (hS.row _ (hS.get hh.1)))
      · rw [e4]
        exact same_mut (s02.trans s3o) nt
      · rw [e4]
        refine New.of_rows (ls := ls.set (h - 1) r) (by rw [upd_same, List.map_set]) ?_ (set_last_nodup nd rn) (fun b hb => ?_)
        · refine Rows.set ((rT.mono s3o).upd nlt) (upd_atN (fun z => rn (z ▸ List.mem_cons_self)) (off_at (fun z => ra (List.mem_singleton.mp z)) hr3))
        · rcases List.mem_cons.mp hb with rfl | hb
          · exact nt
          · rcases List.mem_or_eq_of_mem_set hb with hb | rfl
            · exact fr b (List.mem_cons_of_mem _ hb)
            · exact s02.free (off_none nr)
    · walk_at "go"
      exact q _ t T s02 (hs2.at (fun x e => e) (by omega)) nw hS
theorem pu_law_table {K : PySem.W.Frag} (vs : List V) (H : Hp) (Q : VK) (E : XK) (h : ∃ (a : Addr) (h w : Nat) (p : Int) (n : Nat), vs = [.ref a, .int h, .int w, .int p] ∧ Src H a n ∧ n < 800 ∧ (0 < h ∧ h ≤ 5) ∧ (0 < w ∧ w ≤ 5) ∧ (2 ≤ p ∧ p ≤ 1000000) ∧
    ∀ H' t T, Same (off [a] H) (off [a] H') → Src H' a (n + 30) → New (off [a] H) (off [a] H') (.ref t) (dT T) → Sh p h w T → Q (.ref t) H') :
    t_law_table K { nx := fun _ H' => Q .non H', rt := Q } (start ["source", "high", "wide", "prime", "way", "top", "found", ".0", "k", "place"] vs) H := by
  obtain ⟨a, h, w, p, n, rfl, hs, hn, hh, hw, hp, q⟩ := h
  have h10 : (1000 : Nat) < sizeLine := by decide
  walk_at "go"
  intro way H1 hway s1 hs1
  have fin : t_law_table_2 K { nx := fun _ H' => Q .non H', rt := Q } [some (.ref a), some (.int h), some (.int w), some (.int p), some (.int way), none, none, none, none, none] H1 :=
    tab15_2 hs1 (by omega) hh hw hp fun H' t T s2 hs2 nw hS => q H' t T (s1.trans s2) (hs2.at (fun x e => e) (by omega)) (nw.back s1) hS
  walk_at "go"
  refine iteD (fun c1 => ?_) (fun c1 => ?_)
  · clear c1
    walk_at "go"
    refine iteEq (fun c2 => ?_) (fun c2 => ?_)
    · walk_at "go"
      refine lcN (walk_range (lo := 0) (n := h)) (fun i => dI ((List.range w).map fun j => if i = j then (1 : Int) else 0)) (show h < sizeLine by omega) (fun _ _ => trivial) ?_ ?_
      · rintro i x H2 _ F hi s2 ⟨rfl, ex⟩ hF
        replace ex : x = .int (i : Int) := ex.trans (congrArg V.int (Int.zero_add _))
        subst ex
        refine ⟨rfl, ?_⟩
        walk_at "go"
        refine lcA (walk_range (lo := 0) (n := w)) (fun j => .int (if i = j then 1 else 0)) (show w < sizeLine by omega) (fun _ _ => trivial) ?_ ?_
        · rintro j x _ H3 F2 hj s3 ⟨rfl, ex⟩ hF2
          replace ex : x = .int (j : Int) := ex.trans (congrArg V.int (Int.zero_add _))
          subst ex
          refine ⟨rfl, ?_⟩
          walk_at "go"
          refine .inr ⟨_, rfl, ?_⟩
          by_cases c : i = j
          · subst c
            have := hF2 _ (Same.refl H3)
            rw [if_pos rfl] at this
            simpa using this
          · have := hF2 _ (Same.refl H3)
            rw [if_neg c] at this
            have c3 : ¬ (V.int (i : Int) = V.int (j : Int)) := fun z => c (Int.ofNat.inj (V.int.inj z))
            simpa [c3] using this
        · intro r H3 nr s3 er
          rw [givn_all] at er
          refine hF _ _ s3 (New.ints nr ?_)
          rw [er, List.map_map]; rfl
      · intro t H2 s2 nw
        rw [givn_all] at nw
        have nw2 := (nw.offS (S := [a]) (fun b hb => by rw [List.mem_singleton.mp hb]; exact hs1.ex)).back s1
        have e : (List.range h).map (fun i => dI ((List.range w).map fun j => if i = j then (1 : Int) else 0)) = ((List.range h).map fun i => (List.range w).map fun j => if i = j then (1 : Int) else 0).map dI := by rw [List.map_map]; rfl
        rw [e] at nw2
        refine q _ t _ (s1.trans (off_same s2)) (hs1.at (fun x e => s2 _ _ e) (by omega)) nw2 ⟨by rw [List.length_map, List.length_range], fun r hr => ?_⟩
        obtain ⟨i, _, rfl⟩ := List.mem_map.mp hr
        refine ⟨by rw [List.length_map, List.length_range], fun x hx => ?_⟩
        obtain ⟨j, _, rfl⟩ := List.mem_map.mp hx
        split <;> omega
    · exact fin
  · exact iteF fin
/-! ### what is told: a row or a table -/
inductive Tg where
  | row (xs : List Int)
  | tab (T : List (List Int))
def Tg.d : Tg → Dat
  | .row xs => dI xs
  | .tab T => dT T
def Tg.rows : Tg → List (List Int)
  | .row xs => [xs]
  | .tab T => T
def Tg.ok : Tg → Prop
  | .row xs => xs.length < 100
  | .tab T => T ≠ [] ∧ T.length < 100 ∧ ∀ r ∈ T, r.length < 100
/-- where it lies, and where its rows lie -/
def Lay (H : Hp) (v : V) (g : Tg) (ls : List Addr) : Prop := match g with
  | .row xs => ∃ a, v = .ref a ∧ ls = [a] ∧ Row H a xs
  | .tab T => ∃ a, v = .ref a ∧ H a = some (.lst (ls.map V.ref)) ∧ Rows H ls T
theorem Lay.mono {H H' : Hp} {v : V} {g : Tg} {ls : List Addr} (l : Lay H v g ls) (s : Same H H') : Lay H' v g ls := by
  cases g with
  | row xs => obtain ⟨a, e, e2, h⟩ := l; exact ⟨a, e, e2, s _ _ h⟩
  | tab T => obtain ⟨a, e, e2, h⟩ := l; exact ⟨a, e, s _ _ e2, h.mono s⟩
theorem Lay.rows {H : Hp} {v : V} {g : Tg} {ls : List Addr} (l : Lay H v g ls) : Rows H ls g.rows := by
  cases g with
  | row xs =>
    obtain ⟨a, e, rfl, h⟩ := l
    refine ⟨rfl, fun i l row e1 e2 => ?_⟩
    cases i with
    | zero => cases e1; cases e2; exact h
    | succ i => cases e1
  | tab T => obtain ⟨a, e, e2, h⟩ := l; exact h
theorem Lay.of {H : Hp} {v : V} {g : Tg} {fp : List Addr} (t : Tr H v g.d fp) : ∃ ls, Lay H v g ls ∧ ls.Sublist fp := by
  cases g with
  | row xs =>
    cases t with
    | lst e t =>
      obtain ⟨rfl, rfl⟩ := Trs.ints_inv t
      exact ⟨_, ⟨_, rfl, rfl, e⟩, List.Sublist.refl _⟩
  | tab T =>
    cases t with
    | lst e t =>
      obtain ⟨rfl, r⟩ := Trs.table t
      exact ⟨_, ⟨_, rfl, e, r⟩, List.sublist_cons_self _ _⟩
def sp_law_plain_r0 (K : PySem.W.Frag) : Sp := fun vs H Q _ => vs.length = 1 ∧ ∃ (a : Addr) (xs : List Int), vs = [.ref a] ∧ Row H a xs ∧ xs.length < 100 ∧ ∀ H', Same H H' → Q (.bl true) H'
def t_law_plain_r0_1 (K : PySem.W.Frag) : TS := (tRet (tCB (rAll K) (tCons (tLc (iList K (tVar 0)) (gName 3) tYes (tAndV (tCB xIsT (tCons (tVar 3) (tCons (tC (.ty "int")) tNil))) (tNotV (tCB xIsT (tCons (tVar 3) (tCons (tC (.ty "bool")) tNil))))) [1, 3]) tNil)))
def t_law_plain_r0_2 (K : PySem.W.Frag) : TS := (tSeq (tIfS (tAnd (tTest (tOp (rNeD K) (tVar 0) (tLst tNil))) (tB (tCB xIsT (tCons (tOp (rIxL K) (tVar 0) (tC (.int 0))) (tCons (tC (.ty "list")) tNil))))) (tRet (tCB (rAll K) (tCons (tLc (iList K (tVar 0)) (gName 2) tYes (tCallSD spF [] (fun _ => E0) (tCons (tVar 2) tNil)) [1, 2]) tNil))) tNext) (t_law_plain_r0_1 K))
def t_law_plain_r0 (K : PySem.W.Frag) : TS := (tSeq (tIfS (tNot (tB (tCB xIsT (tCons (tVar 0) (tCons (tC (.ty "list")) tNil))))) (tRet (tC (.bl false))) tNext) (t_law_plain_r0_2 K))
theorem all_true (n : Nat) : (List.replicate n true).all id = true := List.all_eq_true.mpr fun x h => by rw [List.eq_of_mem_replicate h]; rfl
theorem givn_true (n : Nat) : givn (fun _ => true) (fun _ => V.bl true) n = (List.replicate n true).map V.bl := by
  rw [givn_all, List.map_replicate]
  exact List.map_const' .. |>.trans (by rw [List.length_range])
theorem plain_ints {K : PySem.W.Frag} {Q : VK} {a : Addr} {xs : List Int} {H : Hp} (ha : Row H a xs) (hl : xs.length < 100) (q : ∀ H', Same H H' → Q (.bl true) H') :
    t_law_plain_r0_1 K { nx := fun _ H' => Q .non H', rt := Q } [some (.ref a), none, none, none] H := by
  have h10 : (1000 : Nat) < sizeLine := by decide
  have sa := SqL.of (K := K) ha
  have i2 : "int" ∈ kinds := by decide
  have i3 : "bool" ∈ kinds := by decide
  unfold t_law_plain_r0_1
  walk_at "go"
  refine lcA (walk_list (xs := xs.map V.int)) (fun _ => .bl true) (by rw [List.length_map]; omega) (fun H' s => s.seq sa) ?_ ?_
  · rintro i x _ H1 F hi s1 ⟨rfl, hx⟩ hF
    obtain ⟨hi, rfl, _⟩ := ints_at hx
    have k3 : ∀ H2 : Hp, kindOf H2 (.int (xs.getD i 0)) "int" := fun _ => rfl
    have k3 := k3 H1
    refine ⟨rfl, ?_⟩
    walk_at "go"
    exact hF _ (Same.refl _)
  · intro p H1 np s1 ep
    rw [givn_true] at ep
    have sp := SqL.of (K := K) ep
    walk_at "go"
    rw [all_true]
    exact q _ s1
theorem pu_law_plain_r0 {K : PySem.W.Frag} (vs : List V) (H : Hp) (Q : VK) (E : XK) (h : ∃ (a : Addr) (xs : List Int), vs = [.ref a] ∧ Row H a xs ∧ xs.length < 100 ∧ ∀ H', Same H H' → Q (.bl true) H') :
    t_law_plain_r0 K { nx := fun _ H' => Q .non H', rt := Q } (start ["thing", ".0", "row", "one"] vs) H := by
  obtain ⟨a, xs, rfl, ha, hl, q⟩ := h
  have k1 := kind_lst ha
  have i1 : "list" ∈ kinds := by decide
  walk_at "go"
  intro p np
  have s1 := same_new (H := H) (o := .lst []) np
  have hp : upd H p (.lst []) p = some (.lst []) := upd_same
  generalize upd H p (.lst []) = H1 at *
  have ha1 : Row H1 a xs := s1 _ _ ha
  have fin := plain_ints (K := K) (Q := Q) ha1 hl (fun H' s => q H' (s1.trans s))
  refine neD_rep 1 (Rep.of_ints ha1) (Rep.nil hp) (okd_I 0 xs) rfl (by decide) (fun b hb => ?_)
  walk_at "go"
  cases xs with
  | nil =>
    have hbf : b = false := by
      cases b with
      | false => rfl
      | true => exact absurd rfl (hb.mp rfl)
    subst hbf
    exact iteF (iteF fin)
  | cons y ys =>
    have hbt : b = true := hb.mpr fun z => by cases z
    subst hbt
    have sa := SqL.of (K := K) ha1
    have a0 : atI ((y :: ys).map V.int) 0 = some (.int y) := at_ints (xs := y :: ys) (i := 0) (Int.le_refl 0) (by rw [List.length_cons]; omega)
    have k0 : kindOf H1 (.int y) "int" := rfl
    refine iteT ?_
    iterate 18 walk_at "go1"
    exact iteB (fun z => absurd z (by decide)) (fun _ => fin)
def sp_law_plain (K : PySem.W.Frag) : Sp := fun vs H Q _ => vs.length = 1 ∧ ∃ (v : V) (g : Tg) (ls : List Addr), vs = [v] ∧ Lay H v g ls ∧ g.ok ∧ ∀ H', Same H H' → Q (.bl true) H'
def t_law_plain_1 (K : PySem.W.Frag) : TS := (tRet (tCB (rAll K) (tCons (tLc (iList K (tVar 0)) (gName 3) tYes (tAndV (tCB xIsT (tCons (tVar 3) (tCons (tC (.ty "int")) tNil))) (tNotV (tCB xIsT (tCons (tVar 3) (tCons (tC (.ty "bool")) tNil))))) [1, 3]) tNil)))
def t_law_plain_2 (K : PySem.W.Frag) : TS := (tSeq (tIfS (tAnd (tTest (tOp (rNeD K) (tVar 0) (tLst tNil))) (tB (tCB xIsT (tCons (tOp (rIxL K) (tVar 0) (tC (.int 0))) (tCons (tC (.ty "list")) tNil))))) (tRet (tCB (rAll K) (tCons (tLc (iList K (tVar 0)) (gName 2) tYes (tCallSD (sp_law_plain_r0 K) [] (fun _ => E0) (tCons (tVar 2) tNil)) [1, 2]) tNil))) tNext) (t_law_plain_1 K))
def t_law_plain (K : PySem.W.Frag) : TS := (tSeq (tIfS (tNot (tB (tCB xIsT (tCons (tVar 0) (tCons (tC (.ty "list")) tNil))))) (tRet (tC (.bl false))) tNext) (t_law_plain_2 K))
theorem pu_law_plain {K : PySem.W.Frag} (vs : List V) (H : Hp) (Q : VK) (E : XK) (h : ∃ (v : V) (g : Tg) (ls : List Addr), vs = [v] ∧ Lay H v g ls ∧ g.ok ∧ ∀ H', Same H H' → Q (.bl true) H') :
    t_law_plain K { nx := fun _ H' => Q .non H', rt := Q } (start ["thing", ".0", "row", "one"] vs) H := by
  obtain ⟨v, g, ls, rfl, hL, hg, q⟩ := h
  have h10 : (1000 : Nat) < sizeLine := by decide
  cases g with
  | row xs =>
    obtain ⟨a, rfl, rfl, ha⟩ := hL
    have hl : xs.length < 100 := hg
    have k1 := kind_lst ha
    have i1 : "list" ∈ kinds := by decide
    walk_at "go"
    intro p np
    have s1 := same_new (H := H) (o := .lst []) np
    have hp : upd H p (.lst []) p = some (.lst []) := upd_same
    generalize upd H p (.lst []) = H1 at *
    have ha1 : Row H1 a xs := s1 _ _ ha
    have fin : t_law_plain_1 K { nx := fun _ H' => Q .non H', rt := Q } [some (.ref a), none, none, none] H1 := plain_ints (K := K) (Q := Q) ha1 hl (fun H' s => q H' (s1.trans s))
    refine neD_rep 1 (Rep.of_ints ha1) (Rep.nil hp) (okd_I 0 xs) rfl (by decide) (fun b hb => ?_)
    walk_at "go"
    cases xs with
    | nil =>
      have hbf : b = false := by
        cases b with
        | false => rfl
        | true => exact absurd rfl (hb.mp rfl)
      subst hbf
      exact iteF (iteF fin)
    | cons y ys =>
      have hbt : b = true := hb.mpr fun z => by cases z
      subst hbt
      have sa := SqL.of (K := K) ha1
      have a0 : atI ((y :: ys).map V.int) 0 = some (.int y) := at_ints (xs := y :: ys) (i := 0) (Int.le_refl 0) (by rw [List.length_cons]; omega)
      have k0 : kindOf H1 (.int y) "int" := rfl
      refine iteT ?_
      iterate 18 walk_at "go1"
      exact iteB (fun z => absurd z (by decide)) (fun _ => fin)
  | tab T =>
    obtain ⟨a, rfl, ha, rT⟩ := hL
    obtain ⟨hT0, hT1, hT2⟩ := hg
    have k1 := kind_lst ha
    have i1 : "list" ∈ kinds := by decide
    walk_at "go"
    intro p np
    have s1 := same_new (H := H) (o := .lst []) np
    have hp : upd H p (.lst []) p = some (.lst []) := upd_same
    generalize upd H p (.lst []) = H1 at *
    have ha1 := s1 _ _ ha
    have rT1 := rT.mono s1
    refine neD_rep 2 (TabAt.rep ⟨ls, ha1, rT1⟩) (Rep.nil hp) (okd_T 0 T) rfl (by decide) (fun b hb => ?_)
    walk_at "go"
    have hbt : b = true := hb.mpr fun z => by
      cases T with
      | nil => exact hT0 rfl
      | cons x xs => cases z
    subst hbt
    have h0 : 0 < T.length := by
      cases T with
      | nil => exact absurd rfl hT0
      | cons x xs => exact Nat.succ_pos _
    obtain ⟨l0, e0, _, r0⟩ := rT1.row h0
    have sa := SqL.of (K := K) ha1
    have a0 : atI (ls.map V.ref) 0 = some (.ref l0) := at_refs (by omega) e0
    have k0 := kind_lst r0
    refine iteT ?_
    walk_at "go"
    refine lcA (walk_list (xs := ls.map V.ref)) (fun _ => .bl true) (by rw [List.length_map, rT.len]; omega) (fun H' s => s.seq sa) ?_ ?_
    · rintro i x _ H2 F hi s2 ⟨rfl, hx⟩ hF
      obtain ⟨l, rfl, hl1, hi, hrow⟩ := (rT1.mono s2).refs hx
      have hlr : (T.getD i []).length < 100 := hT2 _ (List.mem_of_getElem? (at_getD hi))
      refine ⟨rfl, ?_⟩
      walk_at "go"
      intro H3 s3
      exact hF _ s3
    · intro r H2 nr s2 er
      rw [givn_true] at er
      have sr := SqL.of (K := K) er
      walk_at "go"
      rw [all_true]
      exact q _ (s1.trans s2)
def sp_law_rows_of (K : PySem.W.Frag) : Sp := fun vs H Q _ => vs.length = 1 ∧ ∃ (v : V) (g : Tg) (ls : List Addr), vs = [v] ∧ Lay H v g ls ∧ g.ok ∧ ∀ H' o, Same H H' → H o = none → H' o = some (.lst (ls.map V.ref)) → Q (.ref o) H'
def t_law_rows_of_1 (K : PySem.W.Frag) : TS := (tRet (tLst (tCons (tVar 0) tNil)))
def t_law_rows_of (K : PySem.W.Frag) : TS := (tSeq (tIfS (tAnd (tTest (tOp (rNeD K) (tVar 0) (tLst tNil))) (tB (tCB xIsT (tCons (tOp (rIxL K) (tVar 0) (tC (.int 0))) (tCons (tC (.ty "list")) tNil))))) (tRet (tCB (oList K) (tCons (tVar 0) tNil))) tNext) (t_law_rows_of_1 K))
theorem pu_law_rows_of {K : PySem.W.Frag} (vs : List V) (H : Hp) (Q : VK) (E : XK) (h : ∃ (v : V) (g : Tg) (ls : List Addr), vs = [v] ∧ Lay H v g ls ∧ g.ok ∧ ∀ H' o, Same H H' → H o = none → H' o = some (.lst (ls.map V.ref)) → Q (.ref o) H') :
    t_law_rows_of K { nx := fun _ H' => Q .non H', rt := Q } (start ["thing"] vs) H := by
  obtain ⟨v, g, ls, rfl, hL, hg, q⟩ := h
  have h10 : (1000 : Nat) < sizeLine := by decide
  have i1 : "list" ∈ kinds := by decide
  cases g with
  | row xs =>
    obtain ⟨a, rfl, rfl, ha⟩ := hL
    have hl : xs.length < 100 := hg
    walk_at "go"
    intro p np
    have s1 := same_new (H := H) (o := .lst []) np
    have hp : upd H p (.lst []) p = some (.lst []) := upd_same
    generalize upd H p (.lst []) = H1 at *
    have ha1 : Row H1 a xs := s1 _ _ ha
    have fin : t_law_rows_of_1 K { nx := fun _ H' => Q .non H', rt := Q } [some (.ref a)] H1 := by
      unfold t_law_rows_of_1
      walk_at "go"
      intro r nr
      exact q _ r (s1.trans (same_new nr)) (s1.free nr) upd_same
    refine neD_rep 1 (Rep.of_ints ha1) (Rep.nil hp) (okd_I 0 xs) rfl (by decide) (fun b hb => ?_)
    walk_at "go"
    cases xs with
    | nil =>
      have hbf : b = false := by
        cases b with
        | false => rfl
        | true => exact absurd rfl (hb.mp rfl)
      subst hbf
      exact iteF (iteF fin)
    | cons y ys =>
      have hbt : b = true := hb.mpr fun z => by cases z
      subst hbt
      have sa := SqL.of (K := K) ha1
      have a0 : atI ((y :: ys).map V.int) 0 = some (.int y) := at_ints (xs := y :: ys) (i := 0) (Int.le_refl 0) (by rw [List.length_cons]; omega)
      have k0 : kindOf H1 (.int y) "int" := rfl
      refine iteT ?_
      iterate 18 walk_at "go1"
      exact iteB (fun z => absurd z (by decide)) (fun _ => fin)
  | tab T =>
    obtain ⟨a, rfl, ha, rT⟩ := hL
    obtain ⟨hT0, hT1, hT2⟩ := hg
    walk_at "go"
    intro p np
    have s1 := same_new (H := H) (o := .lst []) np
    have hp : upd H p (.lst []) p = some (.lst []) := upd_same
    generalize upd H p (.lst []) = H1 at *
    have ha1 := s1 _ _ ha
    have rT1 := rT.mono s1
    refine neD_rep 2 (TabAt.rep ⟨ls, ha1, rT1⟩) (Rep.nil hp) (okd_T 0 T) rfl (by decide) (fun b hb => ?_)
    walk_at "go"
    have hbt : b = true := hb.mpr fun z => by
      cases T with
      | nil => exact hT0 rfl
      | cons x xs => cases z
    subst hbt
    have h0 : 0 < T.length := by
      cases T with
      | nil => exact absurd rfl hT0
      | cons x xs => exact Nat.succ_pos _
    obtain ⟨l0, e0, _, r0⟩ := rT1.row h0
    have sa := SqL.of (K := K) ha1
    have sao := SqLo sa
    have a0 : atI (ls.map V.ref) 0 = some (.ref l0) := at_refs (by omega) e0
    have k0 := kind_lst r0
    refine iteT ?_
    walk_at "go"
    intro r nr
    exact q _ r (s1.trans (same_new nr)) (s1.free nr) upd_same
/-- things told, in order -/
def Lays (H : Hp) (vs : List V) (gs : List Tg) : Prop := vs.length = gs.length ∧ ∀ (i : Nat) (v : V) (g : Tg), vs[i]? = some v → gs[i]? = some g → ∃ ls, Lay H v g ls
theorem Lays.mono {H H' : Hp} {vs : List V} {gs : List Tg} (l : Lays H vs gs) (s : Same H H') : Lays H' vs gs := ⟨l.1, fun i v g a b => let ⟨ls, h⟩ := l.2 i v g a b; ⟨ls, h.mono s⟩⟩
def copyD (gs : List Tg) : Dat := .lst (gs.map fun g => dT g.rows)
def sp_law_copied (K : PySem.W.Frag) : Sp := fun vs H Q _ => vs.length = 1 ∧ ∃ (t : Addr) (ws : List V) (gs : List Tg), vs = [.ref t] ∧ H t = some (.lst ws) ∧ Lays H ws gs ∧ (∀ g ∈ gs, g.ok) ∧ gs.length < 100 ∧ ∀ H' r, Same H H' → New H H' (.ref r) (copyD gs) → Q (.ref r) H'
def t_law_copied (K : PySem.W.Frag) : TS := (tRet (tLc (iList K (tVar 0)) (gName 2) tYes (tLc (iList K (tCallSD (sp_law_rows_of K) [] (fun _ => E0) (tCons (tVar 2) tNil))) (gName 3) tYes (tCB (oList K) (tCons (tVar 3) tNil)) [1, 3]) [1, 2]))
theorem pu_law_copied {K : PySem.W.Frag} (vs : List V) (H : Hp) (Q : VK) (E : XK) (h : ∃ (t : Addr) (ws : List V) (gs : List Tg), vs = [.ref t] ∧ H t = some (.lst ws) ∧ Lays H ws gs ∧ (∀ g ∈ gs, g.ok) ∧ gs.length < 100 ∧ ∀ H' r, Same H H' → New H H' (.ref r) (copyD gs) → Q (.ref r) H') :
    t_law_copied K { nx := fun _ H' => Q .non H', rt := Q } (start ["told", ".0", "thing", "row"] vs) H := by
  obtain ⟨t, ws, gs, rfl, ht, hL, hg, hz, q⟩ := h
  have h10 : (1000 : Nat) < sizeLine := by decide
  have st := SqL.of (K := K) ht
  walk_at "go"
  refine lcN (walk_list (xs := ws)) (fun i => dT (gs.getD i (.row [])).rows) (by rw [hL.1]; omega) (fun H' s => s.seq st) ?_ ?_
  · rintro i x _ H1 F hi s1 ⟨rfl, hx⟩ hF
    have hi2 : i < gs.length := by rw [← hL.1]; exact hi
    have eg : gs[i]? = some (gs.getD i (.row [])) := by rw [List.getD_eq_getElem?_getD, List.getElem?_eq_getElem hi2]; rfl
    obtain ⟨ls, hl⟩ := (hL.mono s1).2 i x _ hx eg
    have hok := hg _ (List.mem_of_getElem? eg)
    generalize gs.getD i (.row []) = g at *
    refine ⟨rfl, ?_⟩
    walk_at "go"
    intro H2 o s2 no eo
    have so := SqL.of (K := K) eo
    have rr := hl.rows.mono s2
    have hlen : g.rows.length < 100 := by
      cases g with
      | row xs => exact Nat.lt_of_le_of_lt (Nat.le_refl 1) (by decide)
      | tab T => exact hok.2.1
    walk_at "go"
    refine lcN (walk_list (xs := ls.map V.ref)) (fun j => dI (g.rows.getD j [])) (by rw [List.length_map, rr.len]; omega) (fun H' s => s.seq so) ?_ ?_
    · rintro j x _ H3 F2 hj s3 ⟨rfl, hx⟩ hF2
      obtain ⟨l, rfl, hl1, hj, hrow⟩ := (rr.mono s3).refs hx
      have sl := SqLo (SqL.of (K := K) hrow)
      refine ⟨rfl, ?_⟩
      walk_at "go"
      intro r nr
      exact hF2 _ _ (same_new nr) (New.ints nr upd_same)
    · intro r H3 s3 nw
      rw [List.length_map, rr.len, givn_listA g.rows dI _ (fun i x e => by rw [getD_of e])] at nw
      exact hF _ _ (s2.trans s3) (nw.back s2)
  · intro r H1 s1 nw
    rw [hL.1, givn_listA gs (fun g => dT g.rows) _ (fun i x e => by rw [List.getD_eq_getElem?_getD, e]; rfl)] at nw
    exact q _ r s1 nw
end Mx

set_option Elab.async false
set_option linter.all false
set_option maxRecDepth 100000
set_option maxHeartbeats 1000000
namespace Mx
open PySem PySem.Spec PyProof.Rows L2 Nt Tb
local macro_rules | `(tactic| walk_at "side") => `(tactic| first
  | assumption
  | rfl
  | exact upd_same
  | exact sqL_new
  | exact ⟨_, sqL_new⟩
  | exact ⟨_, by assumption⟩
  | exact sqT_new
  | exact ⟨_, sqT_new⟩
  | exact ⟨_, sqL_upd (by assumption) (by assumption)⟩
  | exact sqL_upd (by assumption) (by assumption)
  | (refine upd_at ?_ ?_ <;> assumption)
  | exact ty_lst (by assumption)
  | exact ty_lst upd_same
  | exact SqL.of (by assumption)
  | exact .inl (SqL.of (by assumption))
  | exact ⟨_, SqL.of (by assumption)⟩
  | omega
  | exact Nat.le_of_ble_eq_true rfl
  | decide)
local macro_rules | `(tactic| walk_at "go1") => `(tactic| first
  | (fail_if_success (show ∃ W : Nat → Nat → L2.St → Hp → Prop, _)
     fail_if_success (show ∃ W : Nat → L2.St → Hp → Prop, _)
     fail_if_success (show ∃ W : L2.St → Hp → Prop, _)
     apply Exists.intro)
  | (refine And.intro ?_ ?_; (walk_at "side")))
local macro_rules | `(tactic| walk_at "nrm") => `(tactic| dsimp only [tSeq, tAsg, tC, gName, tNext, tIfS, tRet, tDrop, tTest, tB, L2.start, List.map, List.length, List.replicate, List.cons_append, List.nil_append, List.set_cons_zero, List.set_cons_succ])
local macro_rules | `(tactic| walk_at "go") => `(tactic| repeat (walk_at "go1"))
/-! ### values made one after another -/
def NewL (H0 H : Hp) (vs : List V) (ds : List Dat) : Prop := ∃ fp, Trs H vs ds fp ∧ fp.Nodup ∧ ∀ b ∈ fp, H0 b = none
theorem NewL.nil {H0 H : Hp} : NewL H0 H [] [] := ⟨[], .nil, List.nodup_nil, fun b h => by cases h⟩
theorem NewL.mono {H0 H H' : Hp} {vs : List V} {ds : List Dat} (n : NewL H0 H vs ds) (s : Same H H') : NewL H0 H' vs ds := let ⟨fp, t, a, b⟩ := n; ⟨fp, t.mono fun b _ o h => s b o h, a, b⟩
theorem NewL.push {H0 H H' : Hp} {vs : List V} {ds : List Dat} {v : V} {d : Dat} (a : NewL H0 H vs ds) (e0 : Same H0 H) (e : Same H H') (n : New H H' v d) : NewL H0 H' (vs ++ [v]) (ds ++ [d]) := by
  obtain ⟨fp, t, nd, fr⟩ := a
  obtain ⟨gp, u, nd2, fr2⟩ := n
  refine ⟨fp ++ gp, (t.mono fun b _ o h => e b o h).snoc u, List.nodup_append.mpr ⟨nd, nd2, fun b hb c hc z => ?_⟩, fun b hb => ?_⟩
  · obtain ⟨o, ho⟩ := t.dom b hb
    rw [fr2 b (z ▸ hc)] at ho; cases ho
  · rcases List.mem_append.mp hb with h | h
    · exact fr b h
    · exact e0.free (fr2 b h)
theorem NewL.toNew {H0 H H' : Hp} {vs : List V} {ds : List Dat} {o : Addr} (a : NewL H0 H vs ds) (e0 : Same H0 H) (e : Same H H') (no : H o = none) (h : H' o = some (.lst vs)) : New H0 H' (.ref o) (.lst ds) := by
  obtain ⟨fp, t, nd, fr⟩ := a
  refine ⟨o :: fp, .lst h (t.mono fun b _ o h => e b o h), List.nodup_cons.mpr ⟨fun z => ?_, nd⟩, fun b hb => ?_⟩
  · obtain ⟨x, hx⟩ := t.dom o z
    rw [no] at hx; cases hx
  · rcases List.mem_cons.mp hb with rfl | hb
    · exact e0.free no
    · exact fr b hb
def optD : Option Tg → Dat
  | none => .non
  | some g => g.d
theorem Trs.opt {H : Hp} : ∀ {os : List (Option Tg)} {vs : List V} {fp : List Addr}, Trs H vs (os.map optD) fp → ∀ (ws : List V) (gs : List Tg) (gp : List Addr), Trs H ws (gs.map Tg.d) gp → Trs H (ws ++ vs.filter fun x => !decide (x = .non)) ((gs ++ os.filterMap id).map Tg.d) (gp ++ fp)
  | [], _, _, .nil, ws, gs, gp, t => by simpa using t
  | none :: os, _, _, .cons (f1 := f1) (f2 := f2) a u, ws, gs, gp, t => by
    cases a
    have := Trs.opt u ws gs gp t
    simpa using this
  | some g :: os, _, _, .cons (v := v) (vs := vs) (f1 := f1) (f2 := f2) a u, ws, gs, gp, t => by
    have hv : v ≠ .non := by
      intro z
      subst z
      cases g <;> cases a
    have := Trs.opt u (ws ++ [v]) (gs ++ [g]) (gp ++ f1) (by rw [List.map_append]; exact t.snoc a)
    simpa [List.filter_cons, hv] using this
theorem Trs.split {H : Hp} : ∀ {vs : List V} {ds : List Dat} {ws : List V} {es : List Dat} {fp : List Addr}, vs.length = ds.length → Trs H (vs ++ ws) (ds ++ es) fp → ∃ f g, Trs H vs ds f ∧ Trs H ws es g ∧ fp = f ++ g
  | [], [], _, _, _, _, t => ⟨[], _, .nil, t, rfl⟩
  | v :: vs, d :: ds, _, _, _, h, .cons (f1 := f1) a t => by
    obtain ⟨f, g, t1, t2, rfl⟩ := Trs.split (vs := vs) (ds := ds) (by simpa using h) t
    exact ⟨f1 ++ f, g, .cons a t1, t2, by rw [List.append_assoc]⟩
  | [], _ :: _, _, _, _, h, _ => by simp at h
  | _ :: _, [], _, _, _, h, _ => by simp at h
theorem opt_tab {H : Hp} {P : V → Hp → Prop} {o : Option (List (List Int))} (q : ∀ v H', Same H H' → New H H' v (optD (o.map .tab)) → P v H') :
    (o = none → ∀ H', Same H H' → P .non H') ∧ ∀ R, o = some R → ∀ H' r, Same H H' → New H H' (.ref r) (dT R) → P (.ref r) H' :=
  ⟨fun e H' s => q _ H' s (by rw [e]; exact New.non), fun R e H' r s n => q _ H' s (by rw [e]; exact n)⟩
theorem opt_row {H : Hp} {P : V → Hp → Prop} {o : Option (List Int)} (q : ∀ v H', Same H H' → New H H' v (optD (o.map .row)) → P v H') :
    (o = none → ∀ H', Same H H' → P .non H') ∧ ∀ R, o = some R → ∀ H' r, Same H H' → H r = none → Row H' r R → P (.ref r) H' :=
  ⟨fun e H' s => q _ H' s (by rw [e]; exact New.non), fun R e H' r s n h => q _ H' s (by rw [e]; exact New.ints n h)⟩
theorem use_reader {K : PySem.W.Frag} {H : Hp} {Q : VK} {E : XK} {f t : Addr} {p : Int} {n w : Nat} {T : List (List Int)} (hf : IsF K H f p) (ht : TabAt H t T) (hT : Sh p n w T) (hn : n < 1000) (hw : w < 1000)
    (q : Ok p n w T (cleared p (inv p) T w) w → ∀ v H', Same H H' → New H H' v (optD ((readM p (inv p) T w).map .tab)) → Q v H') : sp_reader K [.ref f, .ref t, .int w] H Q E :=
  ⟨rfl, f, t, p, n, w, T, rfl, hf, ht, hT, hn, hw, fun ok => opt_tab (q ok)⟩
theorem use_nought {K : PySem.W.Frag} {H : Hp} {Q : VK} {E : XK} {f t : Addr} {p : Int} {n w : Nat} {T : List (List Int)} (hf : IsF K H f p) (ht : TabAt H t T) (hT : Sh p n w T) (hn : n < 1000) (hw : w < 1000)
    (q : Ok p n w T (cleared p (inv p) T w) w → ∀ v H', Same H H' → New H H' v (optD ((noughtM p (inv p) T w).map .row)) → Q v H') : sp_nought K [.ref f, .ref t, .int w] H Q E :=
  ⟨rfl, f, t, p, n, w, T, rfl, hf, ht, hT, hn, hw, fun ok => opt_row (q ok)⟩
def askO (p : Int) (A B : List (List Int)) (m w : Nat) : List (Option Tg) := [(readM p (inv p) A m).map .tab, (noughtM p (inv p) A m).map .row, (readM p (inv p) B w).map .tab, (noughtM p (inv p) B w).map .row]
def askM (p : Int) (A B : List (List Int)) (xs : List Int) (m w : Nat) : List Tg := [.row (timesR p A xs), .tab (mulT p A B), .tab (onesT w), .tab (onesT m)]
def askd (p : Int) (A B : List (List Int)) (xs : List Int) (m w : Nat) : List Tg := askM p A B xs m w ++ (askO p A B m w).filterMap id
theorem askd_len (p : Int) (A B : List (List Int)) (xs : List Int) (m w : Nat) : 4 ≤ (askd p A B xs m w).length ∧ (askd p A B xs m w).length ≤ 8 := by
  unfold askd
  rw [List.length_append]
  have h1 : (askM p A B xs m w).length = 4 := rfl
  have h2 : ((askO p A B m w).filterMap id).length ≤ 4 := List.length_filterMap_le _ _
  omega
theorem ok_tab {p : Int} {n w : Nat} {T : List (List Int)} (hn : n ≤ 5) (hw : 0 < w ∧ w ≤ 5) (o : Ok p n w T (cleared p (inv p) T w) w) (g : Tg) (h : (readM p (inv p) T w).map .tab = some g) : g.ok := by
  cases e : readM p (inv p) T w with
  | none => rw [e] at h; cases h
  | some R =>
    rw [e] at h; cases h
    obtain ⟨hle, sR, _⟩ := read_some o e
    refine ⟨fun z => ?_, by rw [sR.len]; omega, fun r hr => by rw [(sR.row r hr).1]; omega⟩
    have := sR.len
    rw [z] at this
    have : 0 = w := this
    omega
theorem ok_row {p : Int} {n w : Nat} {T : List (List Int)} (hp : 1 < p) (hw : 0 < w ∧ w ≤ 5) (o : Ok p n w T (cleared p (inv p) T w) w) (g : Tg) (h : (noughtM p (inv p) T w).map .row = some g) : g.ok := by
  cases e : noughtM p (inv p) T w with
  | none => rw [e] at h; cases h
  | some R =>
    rw [e] at h; cases h
    have := (nought_some hp o e).1
    show R.length < 100
    omega
theorem onesT_ok {n : Nat} (h : 0 < n ∧ n ≤ 5) : (Tg.tab (onesT n)).ok := by
  refine ⟨fun z => ?_, by unfold onesT; rw [List.length_map, List.length_range]; omega, fun r hr => ?_⟩
  · have : (onesT n).length = n := by unfold onesT; rw [List.length_map, List.length_range]
    rw [z] at this
    have : 0 = n := this
    omega
  · obtain ⟨i, _, rfl⟩ := List.mem_map.mp hr
    rw [List.length_map, List.length_range]; omega
structure Asks (K : PySem.W.Frag) (H : Hp) (f ta tb r : Addr) (p : Int) (n m w : Nat) (A B : List (List Int)) (xs : List Int) : Prop where
  hf : IsF K H f p
  ha : TabAt H ta A
  hb : TabAt H tb B
  hr : Row H r xs
theorem Asks.mono {K : PySem.W.Frag} {H H' : Hp} {f ta tb r : Addr} {p : Int} {n m w : Nat} {A B : List (List Int)} {xs : List Int} (h : Asks K H f ta tb r p n m w A B xs) (s : Same H H') : Asks K H' f ta tb r p n m w A B xs :=
  ⟨h.hf.mono s, h.ha.mono s, h.hb.mono s, s _ _ h.hr⟩
structure AskS (p : Int) (n m w : Nat) (A B : List (List Int)) (xs : List Int) : Prop where
  sA : Sh p n m A
  sB : Sh p m w B
  hl : xs.length = m
  hx : In p xs
  hn : 0 < n ∧ n ≤ 5
  hm : 0 < m ∧ m ≤ 5
  hw : 0 < w ∧ w ≤ 5
def sp_law_asked (K : PySem.W.Frag) : Sp := fun vs H Q _ => vs.length = 4 ∧ ∃ (f ta tb r : Addr) (p : Int) (n m w : Nat) (A B : List (List Int)) (xs : List Int), vs = [.ref f, .ref ta, .ref tb, .ref r] ∧ Asks K H f ta tb r p n m w A B xs ∧ AskS p n m w A B xs ∧
  ∀ H' t, Same H H' → New H H' (.ref t) (.lst ((askd p A B xs m w).map Tg.d)) → (∀ g ∈ askd p A B xs m w, g.ok) → Q (.ref t) H'
def t_law_asked (K : PySem.W.Frag) : TS := (tSeq (tAsg (tCB (oLen K) (tCons (tOp (rIxL K) (tVar 2) (tC (.int 0))) tNil)) (gName 4)) (tSeq (tAsg (tLst (tCons (tCallSD (sp_times_row K) [] (fun _ => E0) (tCons (tVar 0) (tCons (tVar 1) (tCons (tVar 3) tNil)))) (tCons (tCallSD (sp_product K) [] (fun _ => E0) (tCons (tVar 0) (tCons (tVar 1) (tCons (tVar 2) tNil)))) (tCons (tCallSD (sp_ones K) [] (fun _ => E0) (tCons (tVar 4) tNil)) (tCons (tCallSD (sp_ones K) [] (fun _ => E0) (tCons (tCB (oLen K) (tCons (tVar 3) tNil)) tNil)) tNil))))) (gName 5)) (tSeq (tAsg (tLst (tCons (tCallSD (sp_reader K) [] (fun _ => E0) (tCons (tVar 0) (tCons (tVar 1) (tCons (tCB (oLen K) (tCons (tVar 3) tNil)) tNil)))) (tCons (tCallSD (sp_nought K) [] (fun _ => E0) (tCons (tVar 0) (tCons (tVar 1) (tCons (tCB (oLen K) (tCons (tVar 3) tNil)) tNil)))) (tCons (tCallSD (sp_reader K) [] (fun _ => E0) (tCons (tVar 0) (tCons (tVar 2) (tCons (tVar 4) tNil)))) tNil)))) (gName 6)) (tRet (tOp rCat (tVar 5) (tLc (iList K (tOp rCat (tVar 6) (tLst (tCons (tCallSD (sp_nought K) [] (fun _ => E0) (tCons (tVar 0) (tCons (tVar 2) (tCons (tVar 4) tNil)))) tNil)))) (gName 8) (tTest (tOp rNotN (tVar 8) (tC .non))) (tVar 8) [7, 8]))))))
theorem pu_law_asked {K : PySem.W.Frag} (vs : List V) (H : Hp) (Q : VK) (E : XK) (h : ∃ (f ta tb r : Addr) (p : Int) (n m w : Nat) (A B : List (List Int)) (xs : List Int), vs = [.ref f, .ref ta, .ref tb, .ref r] ∧ Asks K H f ta tb r p n m w A B xs ∧ AskS p n m w A B xs ∧
    ∀ H' t, Same H H' → New H H' (.ref t) (.lst ((askd p A B xs m w).map Tg.d)) → (∀ g ∈ askd p A B xs m w, g.ok) → Q (.ref t) H') :
    t_law_asked K { nx := fun _ H' => Q .non H', rt := Q } (start ["field", "one", "other", "row", "wide", "told", "found", ".0", "thing"] vs) H := by
  obtain ⟨f, ta, tb, r, p, n, m, w, A, B, xs, rfl, hA, hS, q⟩ := h
  have h10 : (1000 : Nat) < sizeLine := by decide
  obtain ⟨sA, sB, hl, hx, hn, hm, hw⟩ := hS
  have hp : 1 < p := by have := hA.hf.pos; omega
  have inA : ∀ r ∈ A, In p r := fun r h => (sA.row r h).2
  have rB : ∀ r ∈ B, r.length = w := fun r h => (sB.row r h).1
  have lA : A.length < sizeLine := by rw [sA.len]; omega
  have lB : B.length < sizeLine := by rw [sB.len]; omega
  have lB0 : 0 < B.length := by rw [sB.len]; omega
  have w1000 : w < 1000 := by omega
  have m1000 : m < 1000 := by omega
  have n1000 : n < 1000 := by omega
  obtain ⟨lb, htb, rTb⟩ := hA.hb
  obtain ⟨l0, e0, _, r0⟩ := rTb.row lB0
  have stb := SqL.of (K := K) htb
  have al0 : atI (lb.map V.ref) 0 = some (.ref l0) := at_refs (by omega) e0
  have len0 : ((B.getD 0 []).map V.int).length = w := by rw [List.length_map]; exact sB.rlen hm.1
  have lenr : (xs.map V.int).length = m := by rw [List.length_map, hl]
  obtain ⟨zs, hz, hzl⟩ : ∃ zs : List V, H l0 = some (.lst zs) ∧ zs.length = w := ⟨_, r0, len0⟩
  obtain ⟨ys, hy, hyl⟩ : ∃ ys : List V, H r = some (.lst ys) ∧ ys.length = m := ⟨_, hA.hr, lenr⟩
  have sl0 := SqLo (SqL.of (K := K) hz)
  clear r0 len0 lenr
  subst hzl
  subst hyl
  obtain ⟨hf0, ha0, hb0, hr0⟩ := hA
  walk_at "go"
  intro H1 v1 s1 nv1 ev1
  have L1 := (NewL.nil (H0 := H) (H := H)).push (Same.refl H) s1 (New.ints nv1 ev1)
  obtain ⟨hf1, ha1, hb1, hr1⟩ := (Asks.mk (n := n) (m := ys.length) (w := zs.length) hf0 ha0 hb0 hr0).mono s1
  walk_at "go"
  intro H2 v2 s2 n2
  have L2 := L1.push s1 s2 n2
  have t2 := s1.trans s2
  walk_at "go"
  intro H3 v3 s3 n3
  have L3 := L2.push t2 s3 n3
  have t3 := t2.trans s3
  have y3 := SqLo (SqL.of (K := K) (t3 _ _ hy))
  walk_at "go"
  intro H4 v4 s4 n4
  have L4 := L3.push t3 s4 n4
  have t4 := t3.trans s4
  walk_at "go"
  intro o1 no1
  have t5 := t4.trans (same_new (o := .lst [.ref v1, .ref v2, .ref v3, .ref v4]) no1)
  have L5 := L4.mono (same_new (o := .lst [.ref v1, .ref v2, .ref v3, .ref v4]) no1)
  have ho1 : upd H4 o1 (.lst [.ref v1, .ref v2, .ref v3, .ref v4]) o1 = some (.lst [.ref v1, .ref v2, .ref v3, .ref v4]) := upd_same
  generalize upd H4 o1 (.lst [.ref v1, .ref v2, .ref v3, .ref v4]) = H5 at *
  obtain ⟨hf5, ha5, hb5, hr5⟩ := (Asks.mk (n := n) (m := ys.length) (w := zs.length) hf0 ha0 hb0 hr0).mono t5
  have y5 := SqLo (SqL.of (K := K) (t5 _ _ hy))
  iterate 10 walk_at "go1"
  dsimp only [tNil, List.append_nil]
  refine use_reader hf5 ha5 sA n1000 m1000 (fun okA v6 H6 s6 n6 => ?_)
  have L6 := L5.push t5 s6 n6
  have t6 := t5.trans s6
  obtain ⟨hf6, ha6, hb6, hr6⟩ := (Asks.mk (n := n) (m := ys.length) (w := zs.length) hf0 ha0 hb0 hr0).mono t6
  have y6 := SqLo (SqL.of (K := K) (t6 _ _ hy))
  iterate 10 walk_at "go1"
  dsimp only [tNil, List.append_nil]
  refine use_nought hf6 ha6 sA n1000 m1000 (fun _ v7 H7 s7 n7 => ?_)
  have L7 := L6.push t6 s7 n7
  have t7 := t6.trans s7
  obtain ⟨hf7, ha7, hb7, hr7⟩ := (Asks.mk (n := n) (m := ys.length) (w := zs.length) hf0 ha0 hb0 hr0).mono t7
  iterate 6 walk_at "go1"
  dsimp only [tNil, List.append_nil]
  refine use_reader hf7 hb7 sB m1000 w1000 (fun okB v8 H8 s8 n8 => ?_)
  have L8 := L7.push t7 s8 n8
  have t8 := t7.trans s8
  walk_at "go"
  intro o2 no2
  have t9 := t8.trans (same_new (o := .lst [v6, v7, v8]) no2)
  have L9 := L8.mono (same_new (o := .lst [v6, v7, v8]) no2)
  have ho2 : upd H8 o2 (.lst [v6, v7, v8]) o2 = some (.lst [v6, v7, v8]) := upd_same
  have ho19 := (same_new (o := .lst [v6, v7, v8]) no2) _ _ (s8 _ _ (s7 _ _ (s6 _ _ ho1)))
  generalize upd H8 o2 (.lst [v6, v7, v8]) = H9 at *
  obtain ⟨hf9, ha9, hb9, hr9⟩ := (Asks.mk (n := n) (m := ys.length) (w := zs.length) hf0 ha0 hb0 hr0).mono t9
  iterate 10 walk_at "go1"
  dsimp only [tNil, List.append_nil]
  refine use_nought hf9 hb9 sB m1000 w1000 (fun _ v10 H10 s10 n10 => ?_)
  have L10 := L9.push t9 s10 n10
  have t10 := t9.trans s10
  have ho2a := s10 _ _ ho2
  walk_at "go"
  intro o3 no3
  have s11 := same_new (H := H10) (o := .lst [v10]) no3
  have ho3 : upd H10 o3 (.lst [v10]) o3 = some (.lst [v10]) := upd_same
  have ho2b := s11 _ _ ho2a
  generalize upd H10 o3 (.lst [v10]) = H11 at *
  have lz : [v6, v7, v8].length + [v10].length ≤ sizeLine := by show 4 ≤ sizeLine; decide
  walk_at "go"
  intro o4 no4
  have s12 := same_new (H := H11) (o := .lst ([v6, v7, v8] ++ [v10])) no4
  have ho4 : upd H11 o4 (.lst ([v6, v7, v8] ++ [v10])) o4 = some (.lst ([v6, v7, v8] ++ [v10])) := upd_same
  generalize upd H11 o4 (.lst ([v6, v7, v8] ++ [v10])) = H12 at *
  have so4 := SqL.of (K := K) ho4
  have t12 := (t10.trans s11).trans s12
  have L12 := (L10.mono s11).mono s12
  have ho112 := s12 _ _ (s11 _ _ (s10 _ _ ho19))
  walk_at "go"
  refine lcF (walk_list (xs := [v6, v7, v8, v10])) (fun i => !decide ([v6, v7, v8, v10].getD i .non = .non)) (fun i => [v6, v7, v8, v10].getD i .non) (show 4 < sizeLine by decide) (fun H' s => s.seq so4) ?_ ?_
  · rintro i x _ H13 F F' hi s13 ⟨rfl, hx⟩ hF hF'
    have ex : [v6, v7, v8, v10].getD i .non = x := by rw [List.getD_eq_getElem?_getD, hx]; rfl
    rw [ex] at hF hF'
    refine ⟨rfl, ?_⟩
    walk_at "go"
    refine iteNB (fun c => ?_) (fun c => ?_)
    · walk_at "go"
      exact hF (by rw [c]; rfl) _ (Same.refl _)
    · exact hF' (by rw [c]; rfl) _ (Same.refl _)
  · intro o5 H13 no5 s13 eo5
    have eg : givn (fun i => !decide ([v6, v7, v8, v10].getD i .non = .non)) (fun i => [v6, v7, v8, v10].getD i .non) [v6, v7, v8, v10].length = [v6, v7, v8, v10].filter fun x => !decide (x = .non) := by
      rw [givn_list [v6, v7, v8, v10] (fun x => !decide (x = .non)) id _ _ (fun i x e => by rw [List.getD_eq_getElem?_getD, e]; rfl) (fun i x e => by rw [List.getD_eq_getElem?_getD, e]; rfl) _ (Nat.le_refl _), List.take_length, List.map_id]
    rw [eg] at eo5
    have lc : [V.ref v1, V.ref v2, V.ref v3, V.ref v4].length + ([v6, v7, v8, v10].filter fun x => !decide (x = .non)).length ≤ sizeLine := by
      have := List.length_filter_le (fun x => !decide (x = V.non)) [v6, v7, v8, v10]
      have h4 : [v6, v7, v8, v10].length = 4 := rfl
      have h42 : [V.ref v1, V.ref v2, V.ref v3, V.ref v4].length = 4 := rfl
      have h8 : 8 ≤ sizeLine := by decide
      omega
    have ho113 := s13 _ _ ho112
    walk_at "go"
    intro o6 no6
    have s14 := same_new (H := H13) (o := .lst ([V.ref v1, V.ref v2, V.ref v3, V.ref v4] ++ [v6, v7, v8, v10].filter fun x => !decide (x = .non))) no6
    have t13 := t12.trans s13
    obtain ⟨fp, tr, nd, fr⟩ := L12.mono s13
    refine q _ o6 (t13.trans s14) ?_ ?_
    · have tr2 : Trs H13 ([V.ref v1, V.ref v2, V.ref v3, V.ref v4] ++ [v6, v7, v8, v10]) ((askM p A B xs ys.length zs.length).map Tg.d ++ (askO p A B ys.length zs.length).map optD) fp := tr
      obtain ⟨f1, f2, u1, u2, rfl⟩ := Trs.split rfl tr2
      have u3 := Trs.opt u2 _ _ _ u1
      exact NewL.toNew ⟨_, u3, nd, fr⟩ t13 s14 no6 upd_same
    · intro g hg
      unfold askd at hg
      rcases List.mem_append.mp hg with hg | hg
      · simp only [askM, List.mem_cons, List.not_mem_nil, or_false] at hg
        rcases hg with rfl | rfl | rfl | rfl
        · show (timesR p A xs).length < 100
          unfold timesR
          rw [List.length_map, sA.len]; omega
        · refine ⟨fun z => ?_, by unfold mulT; rw [List.length_map, sA.len]; omega, fun r hr => ?_⟩
          · have : (mulT p A B).length = A.length := by unfold mulT; rw [List.length_map]
            rw [z, sA.len] at this
            have : 0 = n := this
            omega
          · unfold mulT at hr
            obtain ⟨l, _, rfl⟩ := List.mem_map.mp hr
            rw [List.length_map, List.length_range]
            cases B with
            | nil => exact Nat.succ_pos _
            | cons b B =>
              have := (sB.row b List.mem_cons_self).1
              show b.length < 100
              omega
        · exact onesT_ok hw
        · exact onesT_ok hm
      · obtain ⟨o, ho, e⟩ := List.mem_filterMap.mp hg
        have e : o = some g := e
        subst e
        simp only [askO, List.mem_cons, List.not_mem_nil, or_false] at ho
        rcases ho with e | e | e | e
        · exact ok_tab hn.2 hm okA g e.symm
        · exact ok_row hp hm okA g e.symm
        · exact ok_tab hm.2 hw okB g e.symm
        · exact ok_row hp hw okB g e.symm
end Mx

set_option Elab.async false
set_option linter.all false
set_option maxRecDepth 100000
set_option maxHeartbeats 1000000
namespace Mx
open PySem PySem.Spec PyProof.Rows L2 Nt Tb
local macro_rules | `(tactic| walk_at "side") => `(tactic| first
  | assumption
  | rfl
  | exact upd_same
  | exact sqL_new
  | exact ⟨_, sqL_new⟩
  | exact ⟨_, by assumption⟩
  | exact sqT_new
  | exact ⟨_, sqT_new⟩
  | exact ⟨_, sqL_upd (by assumption) (by assumption)⟩
  | exact sqL_upd (by assumption) (by assumption)
  | (refine upd_at ?_ ?_ <;> assumption)
  | exact ty_lst (by assumption)
  | exact ty_lst upd_same
  | exact SqL.of (by assumption)
  | exact .inl (SqL.of (by assumption))
  | exact ⟨_, SqL.of (by assumption)⟩
  | omega
  | exact Nat.le_of_ble_eq_true rfl
  | decide)
local macro_rules | `(tactic| walk_at "go1") => `(tactic| first
  | (fail_if_success (show ∃ W : Nat → Nat → L2.St → Hp → Prop, _)
     fail_if_success (show ∃ W : Nat → L2.St → Hp → Prop, _)
     fail_if_success (show ∃ W : L2.St → Hp → Prop, _)
     apply Exists.intro)
  | (refine And.intro ?_ ?_; (walk_at "side")))
local macro_rules | `(tactic| walk_at "nrm") => `(tactic| dsimp only [tSeq, tAsg, tC, gName, tNext, tIfS, tRet, tDrop, tTest, tB, L2.start, List.map, List.length, List.replicate, List.cons_append, List.nil_append, List.set_cons_zero, List.set_cons_succ])
local macro_rules | `(tactic| walk_at "go") => `(tactic| repeat (walk_at "go1"))
def sp_law_right (K : PySem.W.Frag) : Sp := fun vs H Q _ => vs.length = 1 ∧ ∃ (a : Addr), vs = [.ref a] ∧ Src H a 0 ∧ ∀ H', Same (off [a] H) (off [a] H') → Q (.bl true) H'
def t_law_right_1 (K : PySem.W.Frag) : TS := (tDrop (tBM K "list" rExtend (tVar 14) (tCons (tCallSD (sp_law_rows_of K) [] (fun _ => E0) (tCons (tVar 13) tNil)) tNil)))
def t_law_right_2 (K : PySem.W.Frag) : TS := (tAsg (tOp oMod (tOp oAdd (tOp (rIxL K) (tVar 9) (tC (.int 0))) (tC (.int 1))) (tVar 1)) (gSub (tVar 9) (tC (.int 0)) rSetL))
def t_law_right_3 (K : PySem.W.Frag) : TS := (tRet (tAndV (tOp (rEqD K) (tCallSD (sp_law_copied K) [] (fun _ => E0) (tCons (tVar 17) tNil)) (tVar 12)) (tOp oLe (tCallSD (sp_rank K) [] (fun _ => E0) (tCons (tVar 2) (tCons (tOp (rIxL K) (tVar 10) (tC (.int 0))) tNil))) (tCB oMin2 (tCons (tVar 3) (tCons (tVar 4) tNil))))))
def t_law_right_4 (K : PySem.W.Frag) : TS := (tSeq (tFor (iList K (tOp rCat (tOp rCat (tVar 6) (tVar 7)) (tLst (tCons (tVar 8) tNil)))) (gName 9) (t_law_right_2 K)) (t_law_right_3 K))
def t_law_right_5 (K : PySem.W.Frag) : TS := (tSeq (tAsg (tCallSD (sp_law_asked K) [] (fun _ => E0) (tCons (tVar 2) (tCons (tVar 6) (tCons (tVar 7) (tCons (tVar 8) tNil))))) (gName 17)) (tSeq (tIfS (tOr (tTest (tOp (rNeD K) (tLst (tCons (tVar 6) (tCons (tVar 7) (tCons (tVar 8) tNil)))) (tVar 10))) (tTest (tOp (rNeD K) (tCallSD (sp_law_copied K) [] (fun _ => E0) (tCons (tVar 17) tNil)) (tVar 12)))) (tRet (tC (.bl false))) tNext) (t_law_right_4 K)))
def t_law_right_6 (K : PySem.W.Frag) : TS := (tSeq (tAsg (tLc (iList K (tVar 14)) (gName 9) tYes (tCB (oList K) (tCons (tVar 9) tNil)) [18, 9]) (gName 15)) (tSeq (tAsg (tCallSD (sp_law_take K) [] (fun _ => E0) (tCons (tVar 0) (tCons (tCB (oLen K) (tCons (tVar 14) tNil)) tNil))) (gName 16)) (tSeq (tDrop (tBM K "list" rAppend (tOp (rIxL K) (tVar 14) (tVar 16)) (tCons (tUn oNeg (tC (.int 1))) tNil))) (tSeq (tAsg (tUn oNeg (tC (.int 2))) (gSub (tOp (rIxL K) (tVar 14) (tVar 16)) (tC (.int 0)) rSetL)) (tSeq (tIfS (tTest (tOp (rNeD K) (tLc (iEnum K (tCons (tVar 14) tNil)) (gTup K 2 (gCons (gName 19) (gCons (gName 9) gNil))) (tTest (tOp rNe (tVar 19) (tVar 16))) (tVar 9) [18, 19, 9]) (tLc (iEnum K (tCons (tVar 15) tNil)) (gTup K 2 (gCons (gName 19) (gCons (gName 9) gNil))) (tTest (tOp rNe (tVar 19) (tVar 16))) (tVar 9) [18, 19, 9]))) (tRet (tC (.bl false))) tNext) (t_law_right_5 K))))))
def t_law_right_7 (K : PySem.W.Frag) : TS := (tSeq (tAsg (tLst tNil) (gName 14)) (tSeq (tFor (iList K (tVar 11)) (gName 13) (t_law_right_1 K)) (t_law_right_6 K)))
def t_law_right_8 (K : PySem.W.Frag) : TS := (tSeq (tIfS (tOr (tNot (tB (tCB (rAll K) (tCons (tLc (iList K (tVar 11)) (gName 13) tYes (tCallSD (sp_law_plain K) [] (fun _ => E0) (tCons (tVar 13) tNil)) [18, 13]) tNil)))) (tTest (tOp (rNeD K) (tLst (tCons (tVar 6) (tCons (tVar 7) (tCons (tVar 8) tNil)))) (tVar 10)))) (tRet (tC (.bl false))) tNext) (t_law_right_7 K))
def t_law_right_9 (K : PySem.W.Frag) : TS := (tSeq (tAsg (tCallSD (sp_law_asked K) [] (fun _ => E0) (tCons (tVar 2) (tCons (tVar 6) (tCons (tVar 7) (tCons (tVar 8) tNil))))) (gName 11)) (tSeq (tAsg (tCallSD (sp_law_copied K) [] (fun _ => E0) (tCons (tVar 11) tNil)) (gName 12)) (t_law_right_8 K)))
def t_law_right_10 (K : PySem.W.Frag) : TS := (tSeq (tAsg (tLst (tCons (tLc (iList K (tVar 6)) (gName 9) tYes (tCB (oList K) (tCons (tVar 9) tNil)) [18, 9]) (tCons (tLc (iList K (tVar 7)) (gName 9) tYes (tCB (oList K) (tCons (tVar 9) tNil)) [18, 9]) (tCons (tCB (oList K) (tCons (tVar 8) tNil)) tNil)))) (gName 10)) (t_law_right_9 K))
def t_law_right (K : PySem.W.Frag) : TS := (tSeq (tAsg (tOp (rIxL K) (tLst (tCons (tC (.int 2)) (tCons (tC (.int 3)) (tCons (tC (.int 5)) (tCons (tC (.int 7)) (tCons (tC (.int 13)) (tCons (tC (.int 101)) (tCons (tC (.int 999983)) tNil)))))))) (tCallSD (sp_law_take K) [] (fun _ => E0) (tCons (tVar 0) (tCons (tC (.int 7)) tNil)))) (gName 1)) (tSeq (tAsg (xMake (He.ga K "Field") (sp_Field___init__ K) [] (fun _ => E0) (tCons (tVar 1) tNil)) (gName 2)) (tSeq (tPar3 3 4 5 (tCons (tOp oAdd (tC (.int 1)) (tCallSD (sp_law_take K) [] (fun _ => E0) (tCons (tVar 0) (tCons (tC (.int 5)) tNil)))) (tCons (tOp oAdd (tC (.int 1)) (tCallSD (sp_law_take K) [] (fun _ => E0) (tCons (tVar 0) (tCons (tC (.int 5)) tNil)))) (tCons (tOp oAdd (tC (.int 1)) (tCallSD (sp_law_take K) [] (fun _ => E0) (tCons (tVar 0) (tCons (tC (.int 5)) tNil)))) tNil)))) (tSeq (tAsg (tCallSD (sp_law_table K) [] (fun _ => E0) (tCons (tVar 0) (tCons (tVar 3) (tCons (tVar 4) (tCons (tVar 1) tNil))))) (gName 6)) (tSeq (tAsg (tCallSD (sp_law_table K) [] (fun _ => E0) (tCons (tVar 0) (tCons (tVar 4) (tCons (tVar 5) (tCons (tVar 1) tNil))))) (gName 7)) (tSeq (tAsg (tLc (iRng1 (tCons (tVar 4) tNil)) (gName 19) tYes (tCallSD (sp_law_take K) [] (fun _ => E0) (tCons (tVar 0) (tCons (tVar 1) tNil))) [18, 19]) (gName 8)) (t_law_right_10 K)))))))
abbrev keptD (A B : List (List Int)) (xs : List Int) : Dat := .lst [dT A, dT B, dI xs]
theorem okd_kept (A B : List (List Int)) (xs : List Int) : okd 3 (keptD A B xs) = true := by
  show (okd 2 (dT A) && (okd 2 (dT B) && (okd 2 (dI xs) && true))) = true
  rw [okd_T, okd_T, okd_I]; rfl
theorem okd_copy (gs : List Tg) : okd 3 (copyD gs) = true := okd_l (fun g : Tg => dT g.rows) gs fun g _ => okd_T 0 _
/-- what was told lies there -/
def Ag (H : Hp) (v : Addr) (gs : List Tg) : Prop := Rep H (.ref v) (.lst (gs.map Tg.d))
theorem Ag.lays {H : Hp} {v : Addr} {gs : List Tg} (h : Ag H v gs) : ∃ ws, H v = some (.lst ws) ∧ Lays H ws gs := by
  obtain ⟨fp, t⟩ := h
  cases t with
  | lst e t =>
    refine ⟨_, e, by have := t.len; rw [List.length_map] at this; exact this, fun i v g h1 h2 => ?_⟩
    obtain ⟨u, f, hu, tr, _⟩ := t.at (i := i) (d := g.d) (by rw [List.getElem?_map, h2]; rfl)
    rw [h1] at hu
    cases hu
    obtain ⟨ls, hl, _⟩ := Lay.of tr
    exact ⟨ls, hl⟩
theorem bt {b : Bool} {α : Type} {x : α} (h : b = true ↔ x = x) : b = true := h.mpr rfl
theorem bf {b : Bool} {α : Type} {x : α} (h : b = true ↔ x ≠ x) : b = false := by
  cases b with
  | false => rfl
  | true => exact absurd rfl (h.mp rfl)
theorem off_more {S S' : List Addr} {H H' : Hp} (s : Same (off S H) (off S H')) (h : ∀ b ∈ S, b ∈ S') : Same (off S' H) (off S' H') := fun b x e => by
  obtain ⟨n, e2⟩ := off_some e
  exact off_at n (off_in _ _ (s _ _ (off_at (fun z => n (h b z)) e2)))
section
variable {K : PySem.W.Frag} {Q : VK} {a f t1 t2 r kp sn : Addr} {p : Int} {n m w : Nat} {A B : List (List Int)} {xs : List Int}
theorem right_3 {H : Hp} {ag : Addr} {x9 x11 x13 x14 x15 x16 : Option V} (hf : IsF K H f p) (hag : Ag H ag (askd p A B xs m w)) (hok : ∀ g ∈ askd p A B xs m w, g.ok) (hsn : Rep H (.ref sn) (copyD (askd p A B xs m w))) (hkp : Rep H (.ref kp) (keptD A B xs)) (hS : AskS p n m w A B xs) (q : ∀ H', Same H H' → Q (.bl true) H') :
    t_law_right_3 K { nx := fun _ H' => Q .non H', rt := Q } [some (.ref a), some (.int p), some (.ref f), some (.int n), some (.int m), some (.int w), some (.ref t1), some (.ref t2), some (.ref r), x9, some (.ref kp), x11, some (.ref sn), x13, x14, x15, x16, some (.ref ag), none, none] H := by
  obtain ⟨ws, hws, hL⟩ := hag.lays
  have hz : (askd p A B xs m w).length < 100 := by have := (askd_len p A B xs m w).2; omega
  generalize askd p A B xs m w = gs at *
  unfold t_law_right_3
  walk_at "go"
  intro H1 r1 s1 n1
  iterate 2 walk_at "go1"
  refine eqD_rep 3 n1.rep (hsn.mono s1) (okd_copy gs) (okd_copy gs) (by decide) (fun b hb => ?_)
  have hbt := bt hb
  subst hbt
  obtain ⟨kp', kv, ek, hkv, hkl, hki⟩ := (hkp.mono s1).list
  cases ek
  obtain ⟨u, hu, hru⟩ := hki 0 (dT A) rfl
  obtain ⟨k0, rfl, hk0⟩ := TabAt.of_rep hru
  have skp := SqL.of (K := K) hkv
  have ak0 : atI kv 0 = some (.ref k0) := at_of rfl hu
  have hf1 := hf.mono s1
  have sA := hS.sA
  have n1000 : n < 1000 := by have := hS.hn; omega
  have m1000 : m < 1000 := by have := hS.hm; omega
  walk_at "go"
  intro okr H2 s2
  have hA0 : A ≠ [] := fun z => by
    have h1 := sA.len
    have h2 := hS.hn
    rw [z] at h1
    have : 0 = n := h1
    omega
  have ok := okr hS.hn.1
  have h1 := ok.le
  have h2 := ok.short
  rw [if_neg hA0]
  have e : decide (((cleared p (inv p) A m).places.length : Int) ≤ if (m : Int) < n then (m : Int) else n) = true := decide_eq_true (by split <;> omega)
  walk_at "go"
  show Q (.bl (decide (((cleared p (inv p) A m).places.length : Int) ≤ if (m : Int) < n then (m : Int) else n))) H2
  rw [e]
  exact q _ (s1.trans s2)
theorem right_4 {H : Hp} {ag : Addr} {la lb : List Addr} {x9 x11 x13 x14 x15 x16 : Option V} (h1 : H t1 = some (.lst (la.map V.ref))) (h2 : H t2 = some (.lst (lb.map V.ref))) (hl : la.length + lb.length ≤ 20)
    (hrows : ∀ l ∈ la ++ lb ++ [r], ∃ x ys, H l = some (.lst (.int x :: ys)))
    (hf : IsF K (off (la ++ lb ++ [r]) H) f p) (hag : Ag (off (la ++ lb ++ [r]) H) ag (askd p A B xs m w)) (hok : ∀ g ∈ askd p A B xs m w, g.ok) (hsn : Rep (off (la ++ lb ++ [r]) H) (.ref sn) (copyD (askd p A B xs m w))) (hkp : Rep (off (la ++ lb ++ [r]) H) (.ref kp) (keptD A B xs)) (hS : AskS p n m w A B xs)
    (q : ∀ H', Same (off (la ++ lb ++ [r]) H) (off (la ++ lb ++ [r]) H') → Q (.bl true) H') :
    t_law_right_4 K { nx := fun _ H' => Q .non H', rt := Q } [some (.ref a), some (.int p), some (.ref f), some (.int n), some (.int m), some (.int w), some (.ref t1), some (.ref t2), some (.ref r), x9, some (.ref kp), x11, some (.ref sn), x13, x14, x15, x16, some (.ref ag), none, none] H := by
  have h20 : (100 : Nat) ≤ sizeLine := by decide
  have l1 : (la.map V.ref).length + (lb.map V.ref).length ≤ sizeLine := by rw [List.length_map, List.length_map]; omega
  unfold t_law_right_4
  walk_at "go"
  intro c1 nc1
  have s1 := same_new (H := H) (o := .lst (la.map V.ref ++ lb.map V.ref)) nc1
  have hc1 : upd H c1 (.lst (la.map V.ref ++ lb.map V.ref)) c1 = some (.lst (la.map V.ref ++ lb.map V.ref)) := upd_same
  generalize upd H c1 (.lst (la.map V.ref ++ lb.map V.ref)) = H1 at *
  walk_at "go"
  intro c2 nc2
  have s2 := same_new (H := H1) (o := .lst [.ref r]) nc2
  have hc2 : upd H1 c2 (.lst [.ref r]) c2 = some (.lst [.ref r]) := upd_same
  have hc12 := s2 _ _ hc1
  generalize upd H1 c2 (.lst [.ref r]) = H2 at *
  have l2 : (la.map V.ref ++ lb.map V.ref).length + [V.ref r].length ≤ sizeLine := by
    rw [List.length_append]
    show _ + 1 ≤ _
    rw [List.length_map, List.length_map]; omega
  walk_at "go"
  intro c3 nc3
  have ec : la.map V.ref ++ lb.map V.ref ++ [V.ref r] = (la ++ lb ++ [r]).map V.ref := by simp
  rw [ec]
  have s3 := same_new (H := H2) (o := .lst ((la ++ lb ++ [r]).map V.ref)) nc3
  have hc3 : upd H2 c3 (.lst ((la ++ lb ++ [r]).map V.ref)) c3 = some (.lst ((la ++ lb ++ [r]).map V.ref)) := upd_same
  generalize upd H2 c3 (.lst ((la ++ lb ++ [r]).map V.ref)) = H3 at *
  have s03 := (s1.trans s2).trans s3
  generalize hSS : la ++ lb ++ [r] = S at *
  have rows3 : ∀ l ∈ S, ∃ x ys, H3 l = some (.lst (.int x :: ys)) := fun l hl => let ⟨x, ys, e⟩ := hrows l hl; ⟨x, ys, s03 _ _ e⟩
  have c3S : c3 ∉ S := fun z => by
    obtain ⟨x, ys, e⟩ := hrows _ z
    have := (s1.trans s2) _ _ e
    rw [nc3] at this; cases this
  have so := off_same (S := S) s03
  have hc3o := off_at c3S hc3
  have hp0 := hf.pos
  walk_at "go"
  refine loop1 (walk_list (xs := S.map V.ref)) 9 (fun i σ H' => Same (off S H3) (off S H') ∧ (∀ l ∈ S, ∃ x ys, H' l = some (.lst (.int x :: ys))) ∧ ∃ x9, σ = [some (.ref a), some (.int p), some (.ref f), some (.int n), some (.int m), some (.int w), some (.ref t1), some (.ref t2), some (.ref r), x9, some (.ref kp), x11, some (.ref sn), x13, x14, x15, x16, some (.ref ag), none, none])
    ⟨Same.refl _, rows3, _, rfl⟩ (fun i σ H' _ h => SqL.of (off_in _ _ (h.1 _ _ hc3o))) ?_ ?_
  · rintro i x σ _ H4 hi ⟨s4, rows4, y9, rfl⟩ ⟨rfl, hx⟩
    obtain ⟨l, hl4, rfl⟩ := List.mem_map.mp (List.mem_of_getElem? hx)
    obtain ⟨x0, ys, hl0⟩ := rows4 l hl4
    have sl := SqL.of (K := K) hl0
    have al : atI (.int x0 :: ys) 0 = some (.int x0) := at_of rfl rfl
    have il : ixN (.int x0 :: ys).length 0 = some 0 := ixN_of (k := 0) (Nat.succ_pos _)
    unfold t_law_right_2
    walk_at "go"
    refine ⟨?_, fun k hk => ?_, _, rfl⟩
    · rw [off_upd hl4]; exact s4
    · by_cases e : k = l
      · subst e
        exact ⟨_, _, upd_same⟩
      · obtain ⟨y, zs, ey⟩ := rows4 k hk
        exact ⟨y, zs, upd_atN e ey⟩
  · rintro σ H4 ⟨s4, rows4, y9, rfl⟩
    have s04 := so.trans s4
    exact right_3 ((hf.mono s04).mono off_in) ((hag.mono s04).mono off_in) hok ((hsn.mono s04).mono off_in) ((hkp.mono s04).mono off_in) hS fun H' s => q H' (s04.trans (off_same s))
theorem right_5 {H : Hp} {la lb : List Addr} {x9 x11 x13 x14 x15 x16 : Option V} (h1 : H t1 = some (.lst (la.map V.ref))) (h2 : H t2 = some (.lst (lb.map V.ref))) (hl : la.length + lb.length ≤ 20)
    (hrows : ∀ l ∈ la ++ lb ++ [r], ∃ x ys, H l = some (.lst (.int x :: ys)))
    (hA : Asks K H f t1 t2 r p n m w A B xs) (hf : IsF K (off (la ++ lb ++ [r]) H) f p) (hsn : Rep (off (la ++ lb ++ [r]) H) (.ref sn) (copyD (askd p A B xs m w))) (hkp : Rep (off (la ++ lb ++ [r]) H) (.ref kp) (keptD A B xs)) (hS : AskS p n m w A B xs)
    (q : ∀ H', Same (off (la ++ lb ++ [r]) H) (off (la ++ lb ++ [r]) H') → Q (.bl true) H') :
    t_law_right_5 K { nx := fun _ H' => Q .non H', rt := Q } [some (.ref a), some (.int p), some (.ref f), some (.int n), some (.int m), some (.int w), some (.ref t1), some (.ref t2), some (.ref r), x9, some (.ref kp), x11, some (.ref sn), x13, x14, x15, x16, none, none, none] H := by
  unfold t_law_right_5
  walk_at "go"
  intro H1 ag s1 nag hok
  obtain ⟨_, hA1, hB1, hr1⟩ := hA.mono s1
  walk_at "go"
  intro c1 nc1
  have s2 := same_new (H := H1) (o := .lst [.ref t1, .ref t2, .ref r]) nc1
  have hc1 : upd H1 c1 (.lst [.ref t1, .ref t2, .ref r]) c1 = some (.lst [.ref t1, .ref t2, .ref r]) := upd_same
  generalize upd H1 c1 (.lst [.ref t1, .ref t2, .ref r]) = H2 at *
  have s02 := s1.trans s2
  have rc : Rep H2 (.ref c1) (keptD A B xs) := by
    obtain ⟨f1, u1⟩ := (hA1.mono s2).rep
    obtain ⟨f2, u2⟩ := (hB1.mono s2).rep
    obtain ⟨f3, u3⟩ := Rep.of_ints (s2 _ _ hr1)
    exact ⟨_, .lst hc1 (.cons u1 (.cons u2 (.cons u3 .nil)))⟩
  iterate 2 walk_at "go1"
  refine neD_rep 3 rc ((hkp.mono off_in).mono s02) (okd_kept A B xs) (okd_kept A B xs) (by decide) (fun b hb => ?_)
  have hbf := bf hb
  subst hbf
  have fin : ∀ H3, Same H2 H3 → t_law_right_4 K { nx := fun _ H' => Q .non H', rt := Q } [some (.ref a), some (.int p), some (.ref f), some (.int n), some (.int m), some (.int w), some (.ref t1), some (.ref t2), some (.ref r), x9, some (.ref kp), x11, some (.ref sn), x13, x14, x15, x16, some (.ref ag), none, none] H3 := by
    intro H3 s3
    have s := s02.trans s3
    refine right_4 (s _ _ h1) (s _ _ h2) hl (fun l hl => let ⟨x, ys, e⟩ := hrows l hl; ⟨x, ys, s _ _ e⟩) (hf.mono (off_same s)) ?_ hok (hsn.mono (off_same s)) (hkp.mono (off_same s)) hS fun H' s' => q H' ((off_same s).trans s')
    exact (((nag.mono s2).mono s3).off (S := la ++ lb ++ [r]) fun b hb => let ⟨x, ys, e⟩ := hrows b hb; ⟨_, e⟩).rep
  obtain ⟨ws, hws, hL⟩ := (show Ag H2 ag (askd p A B xs m w) from (nag.mono s2).rep).lays
  have hz : (askd p A B xs m w).length < 100 := by have := (askd_len p A B xs m w).2; omega
  generalize askd p A B xs m w = gs at *
  walk_at "go"
  intro H3 r3 s3 n3
  iterate 2 walk_at "go1"
  refine neD_rep 3 n3.rep (((hsn.mono off_in).mono s02).mono s3) (okd_copy gs) (okd_copy gs) (by decide) (fun b hb => ?_)
  have hbf := bf hb
  subst hbf
  iterate 2 walk_at "go1"
  exact iteB (fun z => absurd z (by decide)) (fun _ => fin H3 s3)
theorem rows_givn {H : Hp} {g : Nat → Bool} {u : Nat → Addr} {w : Nat → List Int} : ∀ N, (∀ i, i < N → g i = true → Row H (u i) (w i)) → Rows H (givn g u N) (givn g w N)
  | 0, _ => ⟨rfl, fun i l row e _ => by simp [givn] at e⟩
  | N + 1, h => by
    have ih := rows_givn (g := g) (u := u) (w := w) N fun i hi => h i (by omega)
    unfold givn
    by_cases c : g N = true
    · rw [if_pos c, if_pos c]
      refine ⟨by rw [List.length_append, List.length_append, ih.len]; rfl, fun i l row e1 e2 => ?_⟩
      by_cases hi : i < (givn g u N).length
      · have hi2 : i < (givn g w N).length := by rw [← ih.len]; exact hi
        rw [List.getElem?_append_left hi] at e1
        rw [List.getElem?_append_left hi2] at e2
        exact ih.at_ i l row e1 e2
      · have el := ih.len
        rw [List.getElem?_append_right (by omega)] at e1
        rw [List.getElem?_append_right (by omega)] at e2
        have z1 := List.mem_singleton.mp (List.mem_of_getElem? e1)
        have z2 := List.mem_singleton.mp (List.mem_of_getElem? e2)
        rw [z1, z2]
        exact h N (by omega) c
    · rw [if_neg c, if_neg c]; exact ih
theorem right_6 {H : Hp} {o : Addr} {nn : Nat} {ls la lb : List Addr} {R : List (List Int)} {x9 x11 x13 x15 x16 : Option V} (ho : H o = some (.lst (ls.map V.ref))) (rR : Rows H ls R) (hR : ∀ row ∈ R, row.length < 100) (nd : ls.Nodup) (hlen : 4 ≤ ls.length ∧ ls.length ≤ 1000) (hoS : o ∉ a :: ls) (haS : a ∉ ls) (hsrc : Src H a nn) (hnn : nn < 900)
    (h1 : off (a :: ls) H t1 = some (.lst (la.map V.ref))) (h2 : off (a :: ls) H t2 = some (.lst (lb.map V.ref))) (hl : la.length + lb.length ≤ 20)
    (hrows : ∀ l ∈ la ++ lb ++ [r], ∃ x ys, off (a :: ls) H l = some (.lst (.int x :: ys)))
    (hA : Asks K (off (a :: ls) H) f t1 t2 r p n m w A B xs) (hf : IsF K (off (la ++ lb ++ [r]) (off (a :: ls) H)) f p) (hsn : Rep (off (la ++ lb ++ [r]) (off (a :: ls) H)) (.ref sn) (copyD (askd p A B xs m w))) (hkp : Rep (off (la ++ lb ++ [r]) (off (a :: ls) H)) (.ref kp) (keptD A B xs)) (hS : AskS p n m w A B xs)
    (q : ∀ H', Same (off (la ++ lb ++ [r]) (off (a :: ls) H)) (off (la ++ lb ++ [r]) H') → Q (.bl true) H') :
    t_law_right_6 K { nx := fun _ H' => Q .non H', rt := Q } [some (.ref a), some (.int p), some (.ref f), some (.int n), some (.int m), some (.int w), some (.ref t1), some (.ref t2), some (.ref r), x9, some (.ref kp), x11, some (.ref sn), x13, some (.ref o), x15, x16, none, none, none] H := by
  have h10 : (1000 : Nat) < sizeLine := by decide
  have so := SqL.of (K := K) ho
  have oa : o ≠ a := fun z => hoS (z ▸ List.mem_cons_self)
  have oa1 : o ∉ [a] := fun z => oa (List.mem_singleton.mp z)
  unfold t_law_right_6
  walk_at "go"
  refine lcN (walk_list (xs := ls.map V.ref)) (fun i => dI (R.getD i [])) (by rw [List.length_map]; omega) (fun H' s => s.seq so) ?_ ?_
  · rintro i x _ H1 F hi s1 ⟨rfl, hx⟩ hF
    obtain ⟨l, rfl, hl1, hi, hrow⟩ := (rR.mono s1).refs hx
    have sl := SqLo (SqL.of (K := K) hrow)
    refine ⟨rfl, ?_⟩
    walk_at "go"
    intro r nr
    exact hF _ _ (same_new nr) (New.ints nr upd_same)
  intro pl H1 s1 npl
  rw [List.length_map, rR.len, givn_listA R dI _ (fun i x e => by rw [getD_of e])] at npl
  have ho1 := s1 _ _ ho
  have so1 := SqLo (SqL.of (K := K) ho1)
  have hsrc1 : Src H1 a nn := hsrc.at (fun x e => s1 _ _ e) (Nat.le_refl _)
  have hm : (0 : Int) < ((ls.map V.ref).length : Int) ∧ ((ls.map V.ref).length : Int) ≤ 1000000 := by rw [List.length_map]; omega
  walk_at "go"
  intro k H2 hk s2 _
  rw [List.length_map] at hk
  have ho2 := off_in _ _ (s2 _ _ (off_at oa1 ho1))
  have hkl : k.toNat < ls.length := by omega
  have hkR : k.toNat < R.length := by rw [← rR.len]; exact hkl
  obtain ⟨l, el, eR, hrow0⟩ := rR.row hkR
  have hmem : R.getD k.toNat [] ∈ R := List.mem_of_getElem? eR
  have hrl := hR _ hmem
  have lmem : l ∈ ls := List.mem_of_getElem? el
  have la0 : l ≠ a := fun z => haS (z ▸ lmem)
  have la1 : l ∉ [a] := fun z => la0 (List.mem_singleton.mp z)
  have lo : o ≠ l := fun z => hoS (List.mem_cons_of_mem _ (z ▸ lmem))
  have hl2 : H2 l = some (.lst ((R.getD k.toNat []).map V.int)) := off_in _ _ (s2 _ _ (off_at la1 (s1 _ _ hrow0)))
  have so2 := SqL.of (K := K) ho2
  have ak : atI (ls.map V.ref) k = some (.ref l) := at_refs hk.1 el
  have hz : ((R.getD k.toNat []).map V.int).length < sizeLine := by rw [List.length_map]; omega
  have so3 : SqL K (upd H2 l (.lst ((R.getD k.toNat []).map V.int ++ [V.int (-1)]))) o (ls.map V.ref) := SqL.of (upd_atN lo ho2)
  have hl3 : upd H2 l (.lst ((R.getD k.toNat []).map V.int ++ [V.int (-1)])) l = some (.lst ((R.getD k.toNat []).map V.int ++ [V.int (-1)])) := upd_same
  have il : ixN ((R.getD k.toNat []).map V.int ++ [V.int (-1)]).length 0 = some 0 := ixN_of (k := 0) (by rw [List.length_append]; exact Nat.succ_pos _)
  have ho4 := upd_atN (u := .lst (((R.getD k.toNat []).map V.int ++ [V.int (-1)]).set 0 (V.int (-2)))) lo (upd_atN (u := .lst ((R.getD k.toNat []).map V.int ++ [V.int (-1)])) lo ho2)
  have so4 := SqL.of (K := K) ho4
  walk_at "go"
  have G4 : Same (off (a :: ls) H1) (off (a :: ls) (upd (upd H2 l (.lst ((R.getD k.toNat []).map V.int ++ [V.int (-1)]))) l (.lst (((R.getD k.toNat []).map V.int ++ [V.int (-1)]).set 0 (V.int (-2)))))) := by
    rw [off_upd (List.mem_cons_of_mem _ lmem), off_upd (List.mem_cons_of_mem _ lmem)]
    exact off_more s2 fun b hb => by rw [List.mem_singleton.mp hb]; exact List.mem_cons_self
  have rows4 : ∀ i, i < R.length → ((!decide (V.int (i : Int) = V.int k)) = true) → Row (upd (upd H2 l (.lst ((R.getD k.toNat []).map V.int ++ [V.int (-1)]))) l (.lst (((R.getD k.toNat []).map V.int ++ [V.int (-1)]).set 0 (V.int (-2))))) (ls.getD i 0) (R.getD i []) := by
    intro i hi hne
    obtain ⟨l2, el2, _, hr2⟩ := rR.row hi
    have e3 : ls.getD i 0 = l2 := by rw [List.getD_eq_getElem?_getD, el2]; rfl
    rw [e3]
    have l2mem : l2 ∈ ls := List.mem_of_getElem? el2
    have n1 : l2 ∉ [a] := fun z => haS (by rw [← List.mem_singleton.mp z]; exact l2mem)
    have hik : i ≠ k.toNat := fun z => by
      have : V.int (i : Int) = V.int k := by rw [z]; congr 1; omega
      rw [decide_eq_true this] at hne
      cases hne
    have n2 : l2 ≠ l := fun z => by
      subst z
      have b1 := List.getElem?_eq_some_iff.mp el2
      have b2 := List.getElem?_eq_some_iff.mp el
      obtain ⟨c1, d1⟩ := b1
      obtain ⟨c2, d2⟩ := b2
      exact hik ((List.getElem_inj (h₀ := c1) (h₁ := c2) nd).mp (d1.trans d2.symm))
    exact upd_atN n2 (upd_atN n2 (off_in _ _ (s2 _ _ (off_at n1 (s1 _ _ hr2)))))
  generalize upd (upd H2 l (.lst ((R.getD k.toNat []).map V.int ++ [V.int (-1)]))) l (.lst (((R.getD k.toNat []).map V.int ++ [V.int (-1)]).set 0 (V.int (-2)))) = H4 at *
  have fr : ∀ b ∈ a :: ls, ∃ o, H b = some o := fun b hb => by
    rcases List.mem_cons.mp hb with rfl | hb
    · exact hsrc.ex
    · exact rR.ex hb
  obtain ⟨pl', lp, epl, hpl4o, rpl4o, _⟩ := ((npl.off (S := a :: ls) fr).mono G4).table
  cases epl
  have hpl4 := off_in _ _ hpl4o
  have rpl4 := rpl4o.mono off_in
  have lsR : (ls.map V.ref).length = R.length := by rw [List.length_map, rR.len]
  have lpR : (lp.map V.ref).length = R.length := by rw [List.length_map, rpl4.len]
  have hRz : R.length < sizeLine := by rw [← rR.len]; omega
  refine lcF (walk_enum (xs := ls.map V.ref)) (fun i => !decide (V.int (i : Int) = V.int k)) (fun i => .ref (ls.getD i 0)) (by rw [lsR]; exact hRz) (fun H' s => s.seq so4) ?_ ?_
  · rintro i x H5 H6 F F' hi s5 hy hF hF'
    obtain ⟨T, x1, y1, rfl, nT, rfl, e1, e2⟩ := hy
    have e1 := Option.some.inj e1
    subst e1
    have ey : y1 = .ref (ls.getD i 0) := by
      replace e2 : (ls.map V.ref)[i]? = some y1 := e2
      rw [List.getElem?_map] at e2
      rw [List.getD_eq_getElem?_getD]
      cases e : ls[i]? with
      | none => rw [e] at e2; cases e2
      | some z => rw [e] at e2; cases e2; rfl
    subst ey
    have s6 := same_new (o := .tup [.int (i : Int), .ref (ls.getD i 0)]) nT
    walk_at "go"
    refine iteNB (fun c => ?_) (fun c => ?_)
    · walk_at "go"
      exact hF (by rw [c]; rfl) _ s6
    · exact hF' (by rw [c]; rfl) _ s6
  intro p1 H5 np1 s5 ep1
  have spl5 := SqL.of (K := K) (s5 _ _ hpl4)
  walk_at "go"
  refine lcF (walk_enum (xs := lp.map V.ref)) (fun i => !decide (V.int (i : Int) = V.int k)) (fun i => .ref (lp.getD i 0)) (by rw [lpR]; exact hRz) (fun H' s => s.seq spl5) ?_ ?_
  · rintro i x H5 H6 F F' hi s5 hy hF hF'
    obtain ⟨T, x1, y1, rfl, nT, rfl, e1, e2⟩ := hy
    have e1 := Option.some.inj e1
    subst e1
    have ey : y1 = .ref (lp.getD i 0) := by
      replace e2 : (lp.map V.ref)[i]? = some y1 := e2
      rw [List.getElem?_map] at e2
      rw [List.getD_eq_getElem?_getD]
      cases e : lp[i]? with
      | none => rw [e] at e2; cases e2
      | some z => rw [e] at e2; cases e2; rfl
    subst ey
    have s6 := same_new (o := .tup [.int (i : Int), .ref (lp.getD i 0)]) nT
    walk_at "go"
    refine iteNB (fun c => ?_) (fun c => ?_)
    · walk_at "go"
      exact hF (by rw [c]; rfl) _ s6
    · exact hF' (by rw [c]; rfl) _ s6
  intro p2 H6 np2 s6 ep2
  rw [lsR, ← givn_map _ (fun i => ls.getD i 0) V.ref] at ep1
  rw [lpR, ← givn_map _ (fun i => lp.getD i 0) V.ref] at ep2
  have t46 := s5.trans s6
  have rep1 := TabAt.rep ⟨_, s6 _ _ ep1, rows_givn R.length fun i hi hg => t46 _ _ (rows4 i hi hg)⟩
  have rep2 := TabAt.rep ⟨_, ep2, rows_givn (g := fun i => !decide (V.int (i : Int) = V.int k)) (w := fun i => R.getD i []) R.length fun i hi _ => by
    obtain ⟨l2, el2, _, hr2⟩ := rpl4.row hi
    have e3 : lp.getD i 0 = l2 := by rw [List.getD_eq_getElem?_getD, el2]; rfl
    show Row H6 (lp.getD i 0) _
    rw [e3]
    exact t46 _ _ hr2⟩
  have g06 : Same (off (a :: ls) H) (off (a :: ls) H6) := ((off_same s1).trans G4).trans (off_same t46)
  have fin : t_law_right_5 K { nx := fun _ H' => Q .non H', rt := Q } [some (.ref a), some (.int p), some (.ref f), some (.int n), some (.int m), some (.int w), some (.ref t1), some (.ref t2), some (.ref r), x9, some (.ref kp), x11, some (.ref sn), x13, some (.ref o), some (.ref pl), some (.int k), none, none, none] H6 := by
    have g : Same (off (a :: ls) H) H6 := g06.trans off_in
    refine right_5 (g _ _ h1) (g _ _ h2) hl (fun l hl => let ⟨x, ys, e⟩ := hrows l hl; ⟨x, ys, g _ _ e⟩) (hA.mono g) (hf.mono (off_same g)) (hsn.mono (off_same g)) (hkp.mono (off_same g)) hS fun H' s' => q H' ((off_same g).trans s')
  refine neD_rep 2 rep1 rep2 (okd_T 0 _) (okd_T 0 _) (by decide) (fun b hb => ?_)
  have hbf := bf hb
  subst hbf
  iterate 2 walk_at "go1"
  exact iteB (fun z => absurd z (by decide)) (fun _ => fin)
theorem Rows.append {H : Hp} {l1 l2 : List Addr} {T1 T2 : List (List Int)} (h1 : Rows H l1 T1) (h2 : Rows H l2 T2) : Rows H (l1 ++ l2) (T1 ++ T2) := by
  refine ⟨by rw [List.length_append, List.length_append, h1.len, h2.len], fun i l row e1 e2 => ?_⟩
  have el := h1.len
  by_cases hi : i < l1.length
  · rw [List.getElem?_append_left hi] at e1
    rw [List.getElem?_append_left (by omega)] at e2
    exact h1.at_ i l row e1 e2
  · rw [List.getElem?_append_right (by omega)] at e1
    rw [List.getElem?_append_right (by omega), ← el] at e2
    exact h2.at_ _ l row e1 e2
theorem lays_of {H : Hp} : ∀ {gs : List Tg} {vs : List V} {fp : List Addr}, Trs H vs (gs.map Tg.d) fp → ∃ lss : List (List Addr), lss.length = gs.length ∧ (∀ (i : Nat) (v : V), vs[i]? = some v → ∃ g ls, gs[i]? = some g ∧ lss[i]? = some ls ∧ Lay H v g ls) ∧ Rows H lss.flatten (gs.map Tg.rows).flatten ∧ lss.flatten.Sublist fp
  | [], _, _, .nil => ⟨[], rfl, fun i v e => by simp at e, ⟨rfl, fun i l row e _ => by simp at e⟩, List.Sublist.refl _⟩
  | g :: gs, _, _, .cons a t => by
    obtain ⟨lss, h1, h2, h3, h4⟩ := lays_of t
    obtain ⟨ls, hl, hs⟩ := Lay.of a
    refine ⟨ls :: lss, by rw [List.length_cons, List.length_cons, h1], fun i v e => ?_, ?_, ?_⟩
    · cases i with
      | zero => cases e; exact ⟨g, ls, rfl, rfl, hl⟩
      | succ i => exact h2 i v e
    · rw [List.map_cons, List.flatten_cons, List.flatten_cons]
      exact hl.rows.append h3
    · rw [List.flatten_cons]
      exact hs.append h4
theorem flat_len : ∀ (gs : List Tg), (∀ g ∈ gs, g.ok) → gs.length ≤ (gs.map Tg.rows).flatten.length ∧ (gs.map Tg.rows).flatten.length ≤ 100 * gs.length ∧ ∀ row ∈ (gs.map Tg.rows).flatten, row.length < 100
  | [], _ => ⟨Nat.le_refl _, Nat.le_refl _, fun r h => by simp at h⟩
  | g :: gs, h => by
    obtain ⟨h1, h2, h3⟩ := flat_len gs fun g hg => h g (List.mem_cons_of_mem _ hg)
    have hg := h g List.mem_cons_self
    have hr : 1 ≤ g.rows.length ∧ g.rows.length ≤ 100 ∧ ∀ row ∈ g.rows, row.length < 100 := by
      cases g with
      | row xs => exact ⟨Nat.le_refl _, by show 1 ≤ 100; decide, fun r hr => by rw [List.mem_singleton.mp hr]; exact hg⟩
      | tab T =>
        obtain ⟨a, b, c⟩ := hg
        refine ⟨?_, Nat.le_of_lt b, c⟩
        cases T with
        | nil => exact absurd rfl a
        | cons x xs => exact Nat.succ_pos _
    rw [List.map_cons, List.flatten_cons, List.length_append, List.length_cons]
    refine ⟨by omega, by omega, fun row hm => ?_⟩
    rcases List.mem_append.mp hm with hm | hm
    · exact hr.2.2 row hm
    · exact h3 row hm
theorem right_7 {H0 H1 H2 H : Hp} {td : Addr} {nn : Nat} {la lb : List Addr} {x9 x13 x14 x15 x16 : Option V} (s1 : Same H0 H1) (s2 : Same H1 H2) (s3 : Same H2 H) (ntd : New H0 H1 (.ref td) (.lst ((askd p A B xs m w).map Tg.d))) (hok : ∀ g ∈ askd p A B xs m w, g.ok) (nsn : New H1 H2 (.ref sn) (copyD (askd p A B xs m w))) (hsrc : Src H0 a nn) (hnn : nn < 900)
    (h1 : off [a] H0 t1 = some (.lst (la.map V.ref))) (h2 : off [a] H0 t2 = some (.lst (lb.map V.ref))) (hl : la.length + lb.length ≤ 20)
    (hrows : ∀ l ∈ la ++ lb ++ [r], ∃ x ys, off [a] H0 l = some (.lst (.int x :: ys)))
    (hA : Asks K (off [a] H0) f t1 t2 r p n m w A B xs) (hf : IsF K (off (la ++ lb ++ [r]) (off [a] H0)) f p) (hkp : Rep (off (la ++ lb ++ [r]) (off [a] H0)) (.ref kp) (keptD A B xs)) (hS : AskS p n m w A B xs)
    (q : ∀ H', Same (off (la ++ lb ++ [r]) (off [a] H0)) (off (la ++ lb ++ [r]) H') → Q (.bl true) H') :
    t_law_right_7 K { nx := fun _ H' => Q .non H', rt := Q } [some (.ref a), some (.int p), some (.ref f), some (.int n), some (.int m), some (.int w), some (.ref t1), some (.ref t2), some (.ref r), x9, some (.ref kp), some (.ref td), some (.ref sn), x13, x14, x15, x16, none, none, none] H := by
  have h10 : (1000 : Nat) < sizeLine := by decide
  have hgl := askd_len p A B xs m w
  obtain ⟨hf1, hf2, hf3⟩ := flat_len _ hok
  obtain ⟨fp, tr, nd, frh⟩ := ntd
  cases tr with
  | @lst _ ws _ fp2 etd tr =>
  obtain ⟨lss, hll, hlay, hrw, hsub⟩ := lays_of tr
  have s13 := s2.trans s3
  have hlsn : lss.flatten.Nodup := (List.nodup_cons.mp nd).2.sublist hsub
  have hls0 : ∀ b ∈ lss.flatten, H0 b = none := fun b hb => frh b (List.mem_cons_of_mem _ (hsub.subset hb))
  have hvs := tr.len
  rw [List.length_map] at hvs
  have s03 := s1.trans s13
  generalize hgs : askd p A B xs m w = gs at *
  unfold t_law_right_7
  walk_at "go"
  intro o no
  have s4 := same_new (H := H) (o := .lst []) no
  have ho4 : upd H o (.lst []) o = some (.lst []) := upd_same
  generalize upd H o (.lst []) = H4 at *
  have std4 := SqL.of (K := K) (s4 _ _ (s13 _ _ etd))
  have hls : lss.flatten.length = (gs.map Tg.rows).flatten.length := hrw.len
  walk_at "go"
  refine loop1 (walk_list (xs := ws)) 13 (fun i σ H' => Same H H' ∧ H' o = some (.lst ((lss.take i).flatten.map V.ref)) ∧ ∃ x13, σ = [some (.ref a), some (.int p), some (.ref f), some (.int n), some (.int m), some (.int w), some (.ref t1), some (.ref t2), some (.ref r), x9, some (.ref kp), some (.ref td), some (.ref sn), x13, some (.ref o), x15, x16, none, none, none])
    ⟨s4, ho4, _, rfl⟩ (fun i σ H' _ h => SqL.of (h.1 _ _ (s13 _ _ etd))) ?_ ?_
  · rintro i x σ _ H5 hi ⟨s5, ho5, y13, rfl⟩ ⟨rfl, hx⟩
    obtain ⟨g, ls, eg, el, hLay⟩ := hlay i x hx
    have hL5 := hLay.mono (s13.trans s5)
    have hgo := hok g (List.mem_of_getElem? eg)
    have etake : (lss.take (i + 1)).flatten = (lss.take i).flatten ++ ls := by
      obtain ⟨b1, b2⟩ := List.getElem?_eq_some_iff.mp el
      rw [List.take_succ_eq_append_getElem b1, List.flatten_append, b2]
      simp
    have hsz : ((lss.take i).flatten.map V.ref).length + (ls.map V.ref).length ≤ sizeLine := by
      rw [List.length_map, List.length_map, ← List.length_append, ← etake]
      have : (lss.take (i + 1)).flatten.length ≤ lss.flatten.length := by
        have e := congrArg (fun l : List (List Addr) => l.flatten.length) (List.take_append_drop (i + 1) lss)
        simp only [List.flatten_append, List.length_append] at e
        omega
      omega
    unfold t_law_right_1
    walk_at "go"
    intro H6 b s6 nb eb
    have ho6 := s6 _ _ ho5
    walk_at "go"
    refine ⟨same_mut (s5.trans s6) no, ?_, _, rfl⟩
    rw [upd_same, etake, List.map_append]
  · rintro σ H5 ⟨s5, ho5, y13, rfl⟩
    have et : lss.take ws.length = lss := List.take_of_length_le (by rw [hll, ← hvs]; exact Nat.le_refl _)
    rw [et] at ho5
    have s05 := s03.trans s5
    have rR := hrw.mono (s13.trans s5)
    have haS : a ∉ lss.flatten := fun z => by
      obtain ⟨x, hx⟩ := hsrc.ex
      rw [hls0 a z] at hx; cases hx
    have hoS : o ∉ a :: lss.flatten := fun z => by
      rcases List.mem_cons.mp z with z | z
      · obtain ⟨x, hx⟩ := hsrc.ex
        have := s03 _ _ hx
        rw [← z, no] at this; cases this
      · obtain ⟨x, hx⟩ := (hrw.mono s13).ex z
        rw [no] at hx; cases hx
    have g : Same (off [a] H0) (off (a :: lss.flatten) H5) := fun b x e => by
      obtain ⟨n1, e2⟩ := off_some e
      refine off_at (fun z => ?_) (s05 _ _ e2)
      rcases List.mem_cons.mp z with z | z
      · exact n1 (by rw [z]; exact List.mem_singleton.mpr rfl)
      · rw [hls0 b z] at e2; cases e2
    subst hgs
    refine right_6 (x9 := x9) (nn := nn) ho5 rR hf3 hlsn (by omega) hoS haS (hsrc.at (fun x e => s05 _ _ e) (Nat.le_refl _)) hnn (g _ _ h1) (g _ _ h2) hl (fun l hl => let ⟨x, ys, e⟩ := hrows l hl; ⟨x, ys, g _ _ e⟩) (hA.mono g) (hf.mono (off_same g)) ?_ (hkp.mono (off_same g)) hS (fun H' s' => q H' ((off_same g).trans s'))
    refine (((nsn.mono (s3.trans s5)).off (S := a :: lss.flatten) fun b hb => ?_).off (S := la ++ lb ++ [r]) fun b hb => ?_).rep
    · rcases List.mem_cons.mp hb with rfl | hb
      · obtain ⟨x, hx⟩ := hsrc.ex; exact ⟨x, s1 _ _ hx⟩
      · exact hrw.ex hb
    · obtain ⟨x, ys, e⟩ := hrows b hb; exact ⟨_, s1 _ _ (off_in _ _ e)⟩
end
end Mx

set_option Elab.async false
set_option linter.all false
set_option maxRecDepth 100000
set_option maxHeartbeats 1000000
namespace Mx
open PySem PySem.Spec PyProof.Rows L2 Nt Tb
local macro_rules | `(tactic| walk_at "side") => `(tactic| first
  | assumption
  | rfl
  | exact upd_same
  | exact sqL_new
  | exact ⟨_, sqL_new⟩
  | exact ⟨_, by assumption⟩
  | exact sqT_new
  | exact ⟨_, sqT_new⟩
  | exact ⟨_, sqL_upd (by assumption) (by assumption)⟩
  | exact sqL_upd (by assumption) (by assumption)
  | (refine upd_at ?_ ?_ <;> assumption)
  | exact ty_lst (by assumption)
  | exact ty_lst upd_same
  | exact SqL.of (by assumption)
  | exact .inl (SqL.of (by assumption))
  | exact ⟨_, SqL.of (by assumption)⟩
  | omega
  | exact Nat.le_of_ble_eq_true rfl
  | decide)
local macro_rules | `(tactic| walk_at "go1") => `(tactic| first
  | (fail_if_success (show ∃ W : Nat → Nat → L2.St → Hp → Prop, _)
     fail_if_success (show ∃ W : Nat → L2.St → Hp → Prop, _)
     fail_if_success (show ∃ W : L2.St → Hp → Prop, _)
     apply Exists.intro)
  | (refine And.intro ?_ ?_; (walk_at "side")))
local macro_rules | `(tactic| walk_at "nrm") => `(tactic| dsimp only [tSeq, tAsg, tC, gName, tNext, tIfS, tRet, tDrop, tTest, tB, L2.start, List.map, List.length, List.replicate, List.cons_append, List.nil_append, List.set_cons_zero, List.set_cons_succ])
local macro_rules | `(tactic| walk_at "go") => `(tactic| repeat (walk_at "go1"))
theorem isPr_101 : isPr 101 = true := by decide +kernel
theorem prime15 (k : Int) (h : 0 ≤ k ∧ k < 7) : ∃ p, atI [V.int 2, .int 3, .int 5, .int 7, .int 13, .int 101, .int 999983] k = some (.int p) ∧ isPr p = true ∧ p ≤ 1000000 := by
  by_cases k0 : k = 0
  · subst k0; exact ⟨2, rfl, by decide +kernel, by decide⟩
  by_cases k1 : k = 1
  · subst k1; exact ⟨3, rfl, by decide +kernel, by decide⟩
  by_cases k2 : k = 2
  · subst k2; exact ⟨5, rfl, by decide +kernel, by decide⟩
  by_cases k3 : k = 3
  · subst k3; exact ⟨7, rfl, by decide +kernel, by decide⟩
  by_cases k4 : k = 4
  · subst k4; exact ⟨13, rfl, by decide +kernel, by decide⟩
  by_cases k5 : k = 5
  · subst k5; exact ⟨101, rfl, isPr_101, by decide⟩
  have k6 : k = 6 := by omega
  subst k6; exact ⟨999983, rfl, big_run, by decide⟩
theorem nat_of (r : Int) (h : 0 ≤ r ∧ r < 5) : ∃ n : Nat, 1 + r = (n : Int) ∧ (0 < n ∧ n ≤ 5) := ⟨(1 + r).toNat, by omega, by omega⟩
theorem Rows.heads {H : Hp} {ls : List Addr} {T : List (List Int)} (r : Rows H ls T) (h : ∀ row ∈ T, 0 < row.length) : ∀ l ∈ ls, ∃ x ys, H l = some (.lst (.int x :: ys)) := by
  intro l hl
  obtain ⟨i, hi⟩ := List.getElem?_of_mem hl
  have h2 : i < T.length := by rw [← r.len]; exact (List.getElem?_eq_some_iff.mp hi).1
  have e := r.at_ i l _ hi (at_getD h2)
  have hm := h _ (List.mem_of_getElem? (at_getD h2))
  generalize T.getD i [] = row at *
  cases row with
  | nil => exact absurd hm (Nat.lt_irrefl 0)
  | cons x xs => exact ⟨x, xs.map V.int, e⟩
theorem use_FieldA {K : PySem.W.Frag} {H : Hp} {Q : Addr → Hp → Prop} {E : XK} {n : Int} (hn : isPr n = true) (h6 : n ≤ 1000000) (q : ∀ f H', H f = none → Same H H' → IsF K H' f n → Q f H') :
    ∀ x dx, H x = none → H dx = none → dx ≠ x → sp_Field___init__ K (.ref x :: ([.int n] ++ [])) (upd (upd H dx (.own x)) x (.ins (He.ga K "Field") dx [])) (fun v H2 => v = .non ∧ Q x H2) E := by
  intro x dx nx nd ne
  refine ⟨rfl, x, dx, n, rfl, upd_same, by omega, fun _ => ⟨rfl, ?_⟩, fun z => absurd ⟨h6, hn⟩ z⟩
  refine q x _ nx ?_ ⟨dx, upd_same, hn, h6⟩
  exact same_mut (same_mut (same_new nd) nx) nx
structure Base (K : PySem.W.Frag) (H : Hp) (a f t1 t2 r : Addr) (p : Int) (n m w : Nat) (A B : List (List Int)) (xs : List Int) (la lb : List Addr) : Prop where
  ht1 : off [a] H t1 = some (.lst (la.map V.ref))
  ht2 : off [a] H t2 = some (.lst (lb.map V.ref))
  rA : Rows (off [a] H) la A
  rB : Rows (off [a] H) lb B
  hr : Row (off [a] H) r xs
  hf : IsF K (off [a] H) f p
  hfS : IsF K (off (la ++ lb ++ [r]) (off [a] H)) f p
  src : Src H a 80
  hS : AskS p n m w A B xs
section
variable {K : PySem.W.Frag} {Q : VK} {a f t1 t2 r kp sn : Addr} {p : Int} {n m w : Nat} {A B : List (List Int)} {xs : List Int} {la lb : List Addr}
theorem Base.mono {H H' : Hp} (b : Base K H a f t1 t2 r p n m w A B xs la lb) (s : Same H H') : Base K H' a f t1 t2 r p n m w A B xs la lb :=
  have g := off_same (S := [a]) s
  ⟨g _ _ b.ht1, g _ _ b.ht2, b.rA.mono g, b.rB.mono g, g _ _ b.hr, b.hf.mono g, b.hfS.mono (off_same g), b.src.at (fun x e => s _ _ e) (Nat.le_refl _), b.hS⟩
theorem Base.asks {H : Hp} (b : Base K H a f t1 t2 r p n m w A B xs la lb) : Asks K (off [a] H) f t1 t2 r p n m w A B xs := ⟨b.hf, ⟨la, b.ht1, b.rA⟩, ⟨lb, b.ht2, b.rB⟩, b.hr⟩
theorem Base.heads {H : Hp} (b : Base K H a f t1 t2 r p n m w A B xs la lb) : ∀ l ∈ la ++ lb ++ [r], ∃ x ys, off [a] H l = some (.lst (.int x :: ys)) := by
  intro l hl
  have hS := b.hS
  rcases List.mem_append.mp hl with hl | hl
  · rcases List.mem_append.mp hl with hl | hl
    · exact b.rA.heads (fun row h => by rw [(hS.sA.row row h).1]; exact hS.hm.1) l hl
    · exact b.rB.heads (fun row h => by rw [(hS.sB.row row h).1]; exact hS.hw.1) l hl
  · rw [List.mem_singleton.mp hl, b.hr]
    have := hS.hl
    have := hS.hm
    cases xs with
    | nil => rw [List.length_nil] at *; omega
    | cons x xs => exact ⟨x, xs.map V.int, rfl⟩
theorem Base.few {H : Hp} (b : Base K H a f t1 t2 r p n m w A B xs la lb) : la.length + lb.length ≤ 20 := by
  have h1 := b.rA.len
  have h2 := b.rB.len
  have h3 := b.hS.sA.len
  have h4 := b.hS.sB.len
  have h5 := b.hS.hn
  have h6 := b.hS.hm
  omega
theorem right_8 {H0 H1 H : Hp} {td : Addr} (b : Base K H0 a f t1 t2 r p n m w A B xs la lb) (s1 : Same H0 H1) (s2 : Same H1 H) (ntd : New H0 H1 (.ref td) (.lst ((askd p A B xs m w).map Tg.d))) (hok : ∀ g ∈ askd p A B xs m w, g.ok) (nsn : New H1 H (.ref sn) (copyD (askd p A B xs m w)))
    (hkp : Rep (off (la ++ lb ++ [r]) (off [a] H0)) (.ref kp) (keptD A B xs)) (q : ∀ H', Same (off (la ++ lb ++ [r]) (off [a] H0)) (off (la ++ lb ++ [r]) H') → Q (.bl true) H') :
    t_law_right_8 K { nx := fun _ H' => Q .non H', rt := Q } [some (.ref a), some (.int p), some (.ref f), some (.int n), some (.int m), some (.int w), some (.ref t1), some (.ref t2), some (.ref r), none, some (.ref kp), some (.ref td), some (.ref sn), none, none, none, none, none, none, none] H := by
  obtain ⟨ws, hws, hL⟩ := (show Ag H1 td (askd p A B xs m w) from ntd.rep).lays
  have hz : (askd p A B xs m w).length < 100 := by have := (askd_len p A B xs m w).2; omega
  have hws2 := SqL.of (K := K) (s2 _ _ hws)
  have h10 : (1000 : Nat) < sizeLine := by decide
  have hwz : ws.length < sizeLine := by rw [hL.1]; omega
  unfold t_law_right_8
  walk_at "go"
  refine lcA (walk_list (xs := ws)) (fun _ => .bl true) hwz (fun H' s => s.seq hws2) ?_ ?_
  · rintro i x _ H17 F hi s17 ⟨rfl, hx⟩ hF
    have hi2 : i < (askd p A B xs m w).length := by rw [← hL.1]; exact hi
    have eg := List.getElem?_eq_getElem hi2
    obtain ⟨ls, hl⟩ := ((hL.mono s2).mono s17).2 i x _ hx eg
    have hgo := hok _ (List.mem_of_getElem? eg)
    generalize (askd p A B xs m w)[i] = g at *
    refine ⟨rfl, ?_⟩
    walk_at "go"
    intro H18 s18
    exact hF _ s18
  intro bl H2 nbl s3 ebl
  rw [givn_true] at ebl
  have sbl := SqL.of (K := K) ebl
  have s03 := (s1.trans s2).trans s3
  have all1 := all_true ws.length
  generalize List.replicate ws.length true = bs at *
  have fin : ∀ H3, Same H2 H3 → t_law_right_7 K { nx := fun _ H' => Q .non H', rt := Q } [some (.ref a), some (.int p), some (.ref f), some (.int n), some (.int m), some (.int w), some (.ref t1), some (.ref t2), some (.ref r), none, some (.ref kp), some (.ref td), some (.ref sn), none, none, none, none, none, none, none] H3 := fun H3 s4 =>
    right_7 s1 s2 (s3.trans s4) ntd hok nsn b.src (by decide) b.ht1 b.ht2 b.few b.heads b.asks b.hfS hkp b.hS q
  walk_at "go"
  rw [all1]
  walk_at "go"
  intro c1 nc1
  have s4 := same_new (H := H2) (o := .lst [.ref t1, .ref t2, .ref r]) nc1
  have hc1 : upd H2 c1 (.lst [.ref t1, .ref t2, .ref r]) c1 = some (.lst [.ref t1, .ref t2, .ref r]) := upd_same
  generalize upd H2 c1 (.lst [.ref t1, .ref t2, .ref r]) = H3 at *
  have s04 := s03.trans s4
  have hA := (b.asks.mono off_in).mono s04
  have rc : Rep H3 (.ref c1) (keptD A B xs) := by
    obtain ⟨f1, u1⟩ := hA.ha.rep
    obtain ⟨f2, u2⟩ := hA.hb.rep
    obtain ⟨f3, u3⟩ := Rep.of_ints hA.hr
    exact ⟨_, .lst hc1 (.cons u1 (.cons u2 (.cons u3 .nil)))⟩
  iterate 2 walk_at "go1"
  refine neD_rep 3 rc ((hkp.mono (off_in.trans off_in)).mono s04) (okd_kept A B xs) (okd_kept A B xs) (by decide) (fun d hd => ?_)
  have hdf := bf hd
  subst hdf
  iterate 2 walk_at "go1"
  exact iteB (fun z => absurd z (by decide)) (fun _ => fin H3 s4)
theorem right_9 {H : Hp} (b : Base K H a f t1 t2 r p n m w A B xs la lb)
    (hkp : Rep (off (la ++ lb ++ [r]) (off [a] H)) (.ref kp) (keptD A B xs)) (q : ∀ H', Same (off (la ++ lb ++ [r]) (off [a] H)) (off (la ++ lb ++ [r]) H') → Q (.bl true) H') :
    t_law_right_9 K { nx := fun _ H' => Q .non H', rt := Q } [some (.ref a), some (.int p), some (.ref f), some (.int n), some (.int m), some (.int w), some (.ref t1), some (.ref t2), some (.ref r), none, some (.ref kp), none, none, none, none, none, none, none, none, none] H := by
  have hA := b.asks.mono off_in
  have hS := b.hS
  unfold t_law_right_9
  walk_at "go"
  intro H15 td s15 ntd hok
  obtain ⟨ws, hws, hL⟩ := (show Ag H15 td (askd p A B xs m w) from ntd.rep).lays
  have hz : (askd p A B xs m w).length < 100 := by have := (askd_len p A B xs m w).2; omega
  have fin : ∀ H16 sn, Same H15 H16 → New H15 H16 (.ref sn) (copyD (askd p A B xs m w)) → t_law_right_8 K { nx := fun _ H' => Q .non H', rt := Q } [some (.ref a), some (.int p), some (.ref f), some (.int n), some (.int m), some (.int w), some (.ref t1), some (.ref t2), some (.ref r), none, some (.ref kp), some (.ref td), some (.ref sn), none, none, none, none, none, none, none] H16 := fun H16 sn s16 nsn =>
    right_8 b s15 s16 ntd hok nsn hkp q
  walk_at "go"
  intro H16 sn s16 nsn
  exact fin H16 sn s16 nsn
theorem right_10 {H : Hp} (b : Base K H a f t1 t2 r p n m w A B xs la lb)
    (q : ∀ H', Same (off (la ++ lb ++ [r]) (off [a] H)) (off (la ++ lb ++ [r]) H') → Q (.bl true) H') :
    t_law_right_10 K { nx := fun _ H' => Q .non H', rt := Q } [some (.ref a), some (.int p), some (.ref f), some (.int n), some (.int m), some (.int w), some (.ref t1), some (.ref t2), some (.ref r), none, none, none, none, none, none, none, none, none, none, none] H := by
  have h10 : (1000 : Nat) < sizeLine := by decide
  have hn := b.hS.hn
  have hm := b.hS.hm
  have st1 := SqL.of (K := K) (off_in _ _ b.ht1)
  have rA10 := b.rA.mono off_in
  have rB10 := b.rB.mono off_in
  have hr10 := off_in _ _ b.hr
  have lA : (la.map V.ref).length < sizeLine := by rw [List.length_map, b.rA.len, b.hS.sA.len]; omega
  have lB : (lb.map V.ref).length < sizeLine := by rw [List.length_map, b.rB.len, b.hS.sB.len]; omega
  unfold t_law_right_10
  walk_at "go"
  refine lcN (walk_list (xs := la.map V.ref)) (fun i => dI (A.getD i [])) lA (fun H' s => s.seq st1) ?_ ?_
  · rintro i x _ H11 F hi s11 ⟨rfl, hx⟩ hF
    obtain ⟨l, rfl, hl1, hi, hrow⟩ := (rA10.mono s11).refs hx
    have sl := SqLo (SqL.of (K := K) hrow)
    refine ⟨rfl, ?_⟩
    walk_at "go"
    intro r nr
    exact hF _ _ (same_new nr) (New.ints nr upd_same)
  intro c1 H11 s11 n11
  rw [List.length_map, b.rA.len, givn_listA A dI _ (fun i x e => by rw [getD_of e])] at n11
  have st2 := SqL.of (K := K) (s11 _ _ (off_in _ _ b.ht2))
  have rB11 := rB10.mono s11
  walk_at "go"
  refine lcN (walk_list (xs := lb.map V.ref)) (fun i => dI (B.getD i [])) lB (fun H' s => s.seq st2) ?_ ?_
  · rintro i x _ H12 F hi s12 ⟨rfl, hx⟩ hF
    obtain ⟨l, rfl, hl1, hi, hrow⟩ := (rB11.mono s12).refs hx
    have sl := SqLo (SqL.of (K := K) hrow)
    refine ⟨rfl, ?_⟩
    walk_at "go"
    intro r nr
    exact hF _ _ (same_new nr) (New.ints nr upd_same)
  intro c2 H12 s12 n12
  rw [List.length_map, b.rB.len, givn_listA B dI _ (fun i x e => by rw [getD_of e])] at n12
  have L2 := ((NewL.nil (H0 := H) (H := H)).push (Same.refl H) s11 n11).push s11 s12 n12
  have g2 := s11.trans s12
  have sr12 := SqLo (SqL.of (K := K) (g2 _ _ hr10))
  walk_at "go"
  intro c3 nc3
  have s13 := same_new (H := H12) (o := .lst (xs.map V.int)) nc3
  have L3 := L2.push g2 s13 (New.ints nc3 upd_same)
  generalize upd H12 c3 (.lst (xs.map V.int)) = H13 at *
  walk_at "go"
  intro kp nkp
  have s14 := same_new (H := H13) (o := .lst [.ref c1, .ref c2, .ref c3]) nkp
  have g4 := (g2.trans s13).trans s14
  have nkp : New H (upd H13 kp (.lst [.ref c1, .ref c2, .ref c3])) (.ref kp) (keptD A B xs) := L3.toNew (g2.trans s13) s14 nkp upd_same
  generalize upd H13 kp (.lst [.ref c1, .ref c2, .ref c3]) = H14 at *
  refine right_9 (b.mono g4) ?_ fun H' s => q H' ((off_same (off_same g4)).trans s)
  refine ((nkp.off (S := [a]) fun c hc => ?_).off (S := la ++ lb ++ [r]) fun c hc => ?_).rep
  · rw [List.mem_singleton.mp hc]; exact b.src.ex
  · obtain ⟨x, ys, e⟩ := b.heads c hc; exact ⟨_, off_in _ _ e⟩
end
theorem pu_law_right {K : PySem.W.Frag} (vs : List V) (H : Hp) (Q : VK) (E : XK) (h : ∃ (a : Addr), vs = [.ref a] ∧ Src H a 0 ∧ ∀ H', Same (off [a] H) (off [a] H') → Q (.bl true) H') :
    t_law_right K { nx := fun _ H' => Q .non H', rt := Q } (start ["source", "prime", "field", "high", "middle", "wide", "one", "other", "row", "line", "kept", "told", "seen", "thing", "lists", "plain", "at", "again", ".0", "k"] vs) H := by
  obtain ⟨a, rfl, hs, q⟩ := h
  have h10 : (1000 : Nat) < sizeLine := by decide
  walk_at "go"
  intro so nso
  have s1 := same_new (H := H) (o := .lst [.int 2, .int 3, .int 5, .int 7, .int 13, .int 101, .int 999983]) nso
  have hso : upd H so (.lst [.int 2, .int 3, .int 5, .int 7, .int 13, .int 101, .int 999983]) so = some (.lst [.int 2, .int 3, .int 5, .int 7, .int 13, .int 101, .int 999983]) := upd_same
  have soa : so ∉ [a] := fun z => by
    obtain ⟨x, hx⟩ := hs.ex
    rw [List.mem_singleton.mp z] at nso
    rw [nso] at hx; cases hx
  generalize upd H so (.lst [.int 2, .int 3, .int 5, .int 7, .int 13, .int 101, .int 999983]) = H1 at *
  have hs1 : Src H1 a 0 := hs.at (fun x e => s1 _ _ e) (Nat.le_refl _)
  walk_at "go"
  intro k0 H2 hk0 s2 hs2
  have sso2 : SqL K H2 so [.int 2, .int 3, .int 5, .int 7, .int 13, .int 101, .int 999983] := SqL.of (off_in _ _ (s2 _ _ (off_at soa hso)))
  obtain ⟨p, ap, ip, lp⟩ := prime15 k0 hk0
  walk_at "go"
  refine use_FieldA ip lp (fun f H3 nf s3 hf => ?_)
  have g3 := ((off_same (S := [a]) s1).trans s2).trans (off_same s3)
  have hfo : IsF K (off [a] H3) f p := by
    obtain ⟨dx, e, b⟩ := hf
    refine ⟨dx, off_at (fun z => ?_) e, b⟩
    obtain ⟨x, hx⟩ := hs2.ex
    rw [List.mem_singleton.mp z] at nf
    rw [nf] at hx; cases hx
  have hp := hf.pos
  have hs3 : Src H3 a 1 := hs2.at (fun x e => s3 _ _ e) (Nat.le_refl _)
  walk_at "go"
  intro r1 H4 hr1 s4 hs4
  walk_at "go"
  intro r2 H5 hr2 s5 hs5
  walk_at "go"
  intro r3 H6 hr3 s6 hs6
  obtain ⟨n, en, hn⟩ := nat_of r1 hr1
  obtain ⟨m, em, hm⟩ := nat_of r2 hr2
  obtain ⟨w, ew, hw⟩ := nat_of r3 hr3
  iterate 8 walk_at "go1"
  simp only [en, em, ew]
  have hs7 : Src H6 a 4 := hs6
  have g37 := (s4.trans s5).trans s6
  clear hr1 hr2 hr3 en em ew lp ip
  walk_at "go"
  intro H8 t1 A s8 hs8 nA sA
  walk_at "go"
  intro H9 t2 B s9 hs9 nB sB
  walk_at "go"
  refine lcS (walk_range (lo := 0) (n := m)) a (fun j H => Src H a (64 + j)) (fun j d => ∃ x, d = .int x ∧ 0 ≤ x ∧ x < p) (fun i H1 H2 e g => g.at e (Nat.le_refl _)) (hs9.at (fun x e => e) (by omega)) hs9.ex (show m < sizeLine by omega) (fun _ _ => trivial) ?_ ?_
  · rintro j x H10 _ F hj s10 hs10 ⟨rfl, ex⟩ hF
    clear ex
    refine ⟨rfl, ?_⟩
    have hn3 : 64 + j < 900 := by omega
    have hp0 : 0 < p ∧ p ≤ 1000000 := by omega
    walk_at "go"
    intro r H11 hr s11 hs11
    exact hF _ _ _ ⟨r, rfl, hr.1, hr.2⟩ s11 hs11 (New.int r)
  intro r H10 ds s10 hs10 hl hP nr
  obtain ⟨xs, rfl, hxs⟩ := ds_of Dat.int (fun x => 0 ≤ x ∧ x < p) ds (fun d hd => by
    obtain ⟨i, hi⟩ := List.getElem?_of_mem hd
    exact hP i d hi)
  rw [List.length_map] at hl
  obtain ⟨t1', la, et1, ht1, rA, ndA, frA⟩ := nA.table
  cases et1
  obtain ⟨t2', lb, et2, ht2, rB, ndB, frB⟩ := nB.table
  cases et2
  obtain ⟨r', er, hr⟩ := nr.rep.ints
  cases er
  have hr0 : off [a] H9 r = none := by
    obtain ⟨fp, tr, _, fr⟩ := nr
    cases tr with
    | lst e t => exact fr _ List.mem_cons_self
  have g810 := s9.trans s10
  have g38 := g37.trans s8
  have g39 := g38.trans s9
  have g310 := g39.trans s10
  have frS : ∀ b ∈ la ++ lb ++ [r], off [a] H3 b = none := fun b hb => by
    rcases List.mem_append.mp hb with hb | hb
    · rcases List.mem_append.mp hb with hb | hb
      · exact g37.free (frA b (List.mem_cons_of_mem _ hb))
      · exact g38.free (frB b (List.mem_cons_of_mem _ hb))
    · rw [List.mem_singleton.mp hb]; exact g39.free hr0
  have b : Base K H10 a f t1 t2 r p n m w A B xs la lb := ⟨g810 _ _ ht1, s10 _ _ ht2, rA.mono g810, rB.mono s10, hr, hfo.mono g310, hfo.mono (same_off g310 frS), hs10.at (fun x e => e) (by omega), ⟨sA, sB, hl, hxs, hn, hm, hw⟩⟩
  refine right_10 b fun H' s => q H' fun c x e => ?_
  obtain ⟨n1, e1⟩ := off_some e
  have e3 := (g3.trans g310) _ _ e
  have e4 := g3 _ _ e
  have nS : c ∉ la ++ lb ++ [r] := fun z => by rw [frS c z] at e4; cases e4
  exact off_at n1 (off_in _ _ (s _ _ (off_at nS e3)))
def sp_law (K : PySem.W.Frag) : Sp := fun vs H Q _ => vs.length = 1 ∧ ∃ (a : Addr) (ns : List Int), vs = [.ref a] ∧ SqL K H a (ns.map V.int) ∧ ns.length ≤ 63 ∧ ∀ H', Q (.bl true) H'
def t_law_1 (K : PySem.W.Frag) : TS := (tIfS (tNot (tB (tCallSD (sp_law_right K) [] (fun _ => E0) (tCons (tCallSD (sp_law_source K) [] (fun _ => E0) (tCons (tVar 1) tNil)) tNil)))) (tRet (tC (.bl false))) tNext)
def t_law_2 (K : PySem.W.Frag) : TS := (tRet (tC (.bl true)))
def t_law (K : PySem.W.Frag) : TS := (tSeq (tFor (iList K (tSl (rSlL K) (tOp (rCatL K) (tVar 0) (tLst (tCons (tC (.int 0)) tNil))) tNoPart (tPart (tC (.int 5))))) (gName 1) (t_law_1 K)) (t_law_2 K))
theorem pu_law {K : PySem.W.Frag} (vs : List V) (H : Hp) (Q : VK) (E : XK) (h : ∃ (a : Addr) (ns : List Int), vs = [.ref a] ∧ SqL K H a (ns.map V.int) ∧ ns.length ≤ 63 ∧ ∀ H', Q (.bl true) H') :
    t_law K { nx := fun _ H' => Q .non H', rt := Q } (start ["script", "cell"] vs) H := by
  obtain ⟨a, ns, rfl, hs, hl, q⟩ := h
  have h10 : (1000 : Nat) < sizeLine := by decide
  walk_at "go"
  intro z nz
  have s1 := same_new (H := H) (o := .lst [.int 0]) nz
  have hz : upd H z (.lst [.int 0]) z = some (.lst [.int 0]) := upd_same
  generalize upd H z (.lst [.int 0]) = H1 at *
  have hs1 := s1.seq hs
  have lz : (ns.map V.int).length + [V.int 0].length ≤ sizeLine := by
    rw [List.length_map]
    show ns.length + 1 ≤ _
    omega
  walk_at "go"
  intro c nc
  have ec : ns.map V.int ++ [V.int 0] = (ns ++ [0]).map V.int := by simp
  rw [ec]
  have s2 := same_new (H := H1) (o := .lst ((ns ++ [0]).map V.int)) nc
  have hc : upd H1 c (.lst ((ns ++ [0]).map V.int)) c = some (.lst ((ns ++ [0]).map V.int)) := upd_same
  generalize upd H1 c (.lst ((ns ++ [0]).map V.int)) = H2 at *
  have sc := SqL.of (K := K) hc
  walk_at "go"
  intro d nd
  have ed : cutV ((ns ++ [0]).map V.int) none (some 5) = ((ns ++ [0]).take 5).map V.int := by
    exact (cutV_take (w := 5)).trans (List.map_take ..).symm
  rw [ed]
  have s3 := same_new (H := H2) (o := .lst (((ns ++ [0]).take 5).map V.int)) nd
  have hd : upd H2 d (.lst (((ns ++ [0]).take 5).map V.int)) d = some (.lst (((ns ++ [0]).take 5).map V.int)) := upd_same
  generalize upd H2 d (.lst (((ns ++ [0]).take 5).map V.int)) = H3 at *
  have sd := SqL.of (K := K) hd
  walk_at "go"
  refine loop1 (walk_list (xs := ((ns ++ [0]).take 5).map V.int)) 1 (fun i σ H' => Same H3 H' ∧ ∃ x1, σ = [some (.ref a), x1]) ⟨Same.refl _, _, rfl⟩ (fun i σ H' _ h => h.1.seq sd) ?_ ?_
  · rintro i x σ _ H4 hi ⟨s4, x1, rfl⟩ ⟨rfl, hx⟩
    obtain ⟨_, rfl, _⟩ := ints_at hx
    unfold t_law_1
    walk_at "go"
    intro b nb
    have hsr : Src (upd H4 b (.lst [.int (((ns ++ [0]).take 5).getD i 0), .int (((ns ++ [0]).take 5).getD i 0), .int 0])) b 0 := ⟨_, _, 0, upd_same, by omega⟩
    walk_at "go"
    intro H5 s5
    rw [off_upd (List.mem_singleton.mpr rfl)] at s5
    have s45 : Same H4 H5 := (same_off (Same.refl H4) (fun c hc => by rw [List.mem_singleton.mp hc]; exact nb)).trans (s5.trans off_in)
    walk_at "go"
    exact ⟨s4.trans s45, _, rfl⟩
  · rintro σ H4 ⟨s4, x1, rfl⟩
    unfold t_law_2
    walk_at "nrm"
    exact q _
end Mx

set_option Elab.async false
set_option linter.all false
set_option maxRecDepth 100000
set_option maxHeartbeats 0
namespace LX
open PySem PySem.Spec PyProof.Rows L2 Mx
def top (i : Nat) : Stmt := PySem.Challenge.pw_mixposts_k15_tables_told_are_ones_own.main.body.getD i (.Pass ⟨0, 0, 0, 0⟩)
abbrev s_law_mixed : Stmt := top 20
abbrev s_law_take : Stmt := top 22
abbrev s_is_prime : Stmt := top 17
abbrev s_Field___init__ : Stmt := inClass (top 18) 0
abbrev s_law_table : Stmt := top 23
abbrev s_ones : Stmt := top 4
abbrev s_Field_fit : Stmt := inClass (top 18) 1
abbrev s_Field_plus : Stmt := inClass (top 18) 2
abbrev s_Field_times : Stmt := inClass (top 18) 4
abbrev s_sum_over : Stmt := top 1
abbrev s_product : Stmt := top 3
abbrev s_times_row : Stmt := top 2
abbrev s_first_with : Stmt := top 6
abbrev s_Field_back : Stmt := inClass (top 18) 5
abbrev s_Field_minus : Stmt := inClass (top 18) 3
abbrev s_less_row : Stmt := top 5
abbrev s_Cleared_clear_others : Stmt := inClass (top 7) 2
abbrev s_Cleared_clear_at : Stmt := inClass (top 7) 1
abbrev s_Cleared___init__ : Stmt := inClass (top 7) 0
abbrev s_reader : Stmt := top 9
abbrev s_nought : Stmt := top 10
abbrev s_law_asked : Stmt := top 26
abbrev s_law_rows_of : Stmt := top 25
abbrev s_law_copied : Stmt := top 27
abbrev s_law_plain_r0 : Stmt := top 24
abbrev s_law_plain : Stmt := top 24
abbrev s_rank : Stmt := top 8
abbrev s_law_right : Stmt := top 28
abbrev s_law_source : Stmt := top 21
abbrev s_law : Stmt := top 29
def d_law_mixed : He.DefD := ⟨("_law_mixed", none), "_law_mixed", "_law_mixed", defArgs s_law_mixed, defBody s_law_mixed, defScope s_law_mixed, [], []⟩
def d_law_take : He.DefD := ⟨("_law_take", none), "_law_take", "_law_take", defArgs s_law_take, defBody s_law_take, defScope s_law_take, [], []⟩
def d_is_prime : He.DefD := ⟨("is_prime", none), "is_prime", "is_prime", defArgs s_is_prime, defBody s_is_prime, defScope s_is_prime, [], []⟩
def d_Field___init__ : He.DefD := ⟨("Field", some "__init__"), "__init__", "Field.__init__", defArgs s_Field___init__, defBody s_Field___init__, defScope s_Field___init__, [], []⟩
def d_law_table : He.DefD := ⟨("_law_table", none), "_law_table", "_law_table", defArgs s_law_table, defBody s_law_table, defScope s_law_table, [], []⟩
def d_ones : He.DefD := ⟨("ones", none), "ones", "ones", defArgs s_ones, defBody s_ones, defScope s_ones, [], []⟩
def d_Field_fit : He.DefD := ⟨("Field", some "fit"), "fit", "Field.fit", defArgs s_Field_fit, defBody s_Field_fit, defScope s_Field_fit, [], []⟩
def d_Field_plus : He.DefD := ⟨("Field", some "plus"), "plus", "Field.plus", defArgs s_Field_plus, defBody s_Field_plus, defScope s_Field_plus, [], []⟩
def d_Field_times : He.DefD := ⟨("Field", some "times"), "times", "Field.times", defArgs s_Field_times, defBody s_Field_times, defScope s_Field_times, [], []⟩
def d_sum_over : He.DefD := ⟨("sum_over", none), "sum_over", "sum_over", defArgs s_sum_over, defBody s_sum_over, defScope s_sum_over, [], []⟩
def d_product : He.DefD := ⟨("product", none), "product", "product", defArgs s_product, defBody s_product, defScope s_product, [], []⟩
def d_times_row : He.DefD := ⟨("times_row", none), "times_row", "times_row", defArgs s_times_row, defBody s_times_row, defScope s_times_row, [], []⟩
def d_first_with : He.DefD := ⟨("first_with", none), "first_with", "first_with", defArgs s_first_with, defBody s_first_with, defScope s_first_with, [], []⟩
def d_Field_back : He.DefD := ⟨("Field", some "back"), "back", "Field.back", defArgs s_Field_back, defBody s_Field_back, defScope s_Field_back, [], []⟩
def d_Field_minus : He.DefD := ⟨("Field", some "minus"), "minus", "Field.minus", defArgs s_Field_minus, defBody s_Field_minus, defScope s_Field_minus, [], []⟩
def d_less_row : He.DefD := ⟨("less_row", none), "less_row", "less_row", defArgs s_less_row, defBody s_less_row, defScope s_less_row, [], []⟩
def d_Cleared_clear_others : He.DefD := ⟨("Cleared", some "clear_others"), "clear_others", "Cleared.clear_others", defArgs s_Cleared_clear_others, defBody s_Cleared_clear_others, defScope s_Cleared_clear_others, [], []⟩
def d_Cleared_clear_at : He.DefD := ⟨("Cleared", some "clear_at"), "clear_at", "Cleared.clear_at", defArgs s_Cleared_clear_at, defBody s_Cleared_clear_at, defScope s_Cleared_clear_at, [], []⟩
def d_Cleared___init__ : He.DefD := ⟨("Cleared", some "__init__"), "__init__", "Cleared.__init__", defArgs s_Cleared___init__, defBody s_Cleared___init__, defScope s_Cleared___init__, [], []⟩
def d_reader : He.DefD := ⟨("reader", none), "reader", "reader", defArgs s_reader, defBody s_reader, defScope s_reader, [], []⟩
def d_nought : He.DefD := ⟨("nought", none), "nought", "nought", defArgs s_nought, defBody s_nought, defScope s_nought, [], []⟩
def d_law_asked : He.DefD := ⟨("_law_asked", none), "_law_asked", "_law_asked", defArgs s_law_asked, defBody s_law_asked, defScope s_law_asked, [], []⟩
def d_law_rows_of : He.DefD := ⟨("_law_rows_of", none), "_law_rows_of", "_law_rows_of", defArgs s_law_rows_of, defBody s_law_rows_of, defScope s_law_rows_of, [], []⟩
def d_law_copied : He.DefD := ⟨("_law_copied", none), "_law_copied", "_law_copied", defArgs s_law_copied, defBody s_law_copied, defScope s_law_copied, [], []⟩
def d_law_plain_r0 : He.DefD := ⟨("_law_plain", none), "_law_plain", "_law_plain", defArgs s_law_plain_r0, defBody s_law_plain_r0, defScope s_law_plain_r0, [], []⟩
def d_law_plain : He.DefD := ⟨("_law_plain", none), "_law_plain", "_law_plain", defArgs s_law_plain, defBody s_law_plain, defScope s_law_plain, [], []⟩
def d_rank : He.DefD := ⟨("rank", none), "rank", "rank", defArgs s_rank, defBody s_rank, defScope s_rank, [], []⟩
def d_law_right : He.DefD := ⟨("_law_right", none), "_law_right", "_law_right", defArgs s_law_right, defBody s_law_right, defScope s_law_right, [], []⟩
def d_law_source : He.DefD := ⟨("_law_source", none), "_law_source", "_law_source", defArgs s_law_source, defBody s_law_source, defScope s_law_source, [], []⟩
def d_law : He.DefD := ⟨("law", none), "law", "law", defArgs s_law, defBody s_law, defScope s_law, [], []⟩
def fn0 : List He.DefD := [d_law_mixed,
  d_law_take,
  d_is_prime,
  d_Field___init__,
  d_law_table,
  d_ones,
  d_Field_fit,
  d_Field_plus,
  d_Field_times,
  d_sum_over,
  d_product,
  d_times_row]
def fn1 : List He.DefD := [d_first_with,
  d_Field_back,
  d_Field_minus,
  d_less_row,
  d_Cleared_clear_others,
  d_Cleared_clear_at,
  d_Cleared___init__,
  d_reader,
  d_nought,
  d_law_asked,
  d_law_rows_of,
  d_law_copied]
def fn2 : List He.DefD := [d_law_plain_r0,
  d_law_plain,
  d_rank,
  d_law_right,
  d_law_source,
  d_law]
def fn : List He.DefD := fn0 ++ fn1 ++ fn2
def fa0 : List He.Fa := [.glo "_law_mixed",
  .glo "_law_take",
  .int "GREATEST" 1000000,
  .glo "is_prime",
  .exc "NoPrime",
  .glo "NoPrime",
  .noat "Field" "prime",
  .cls "Field",
  .mkr "Field",
  .glo "Field",
  .free "range",
  .free "int"]
def fa1 : List He.Fa := [.free "list",
  .glo "_law_table",
  .free "len",
  .glo "ones",
  .free "zip",
  .meth "Field" "fit",
  .meth "Field" "plus",
  .meth "Field" "times",
  .glo "sum_over",
  .glo "product",
  .glo "times_row",
  .noat "Cleared" "field"]
def fa2 : List He.Fa := [.cls "Cleared",
  .noat "Cleared" "lines",
  .noat "Cleared" "made_of",
  .noat "Cleared" "places",
  .glo "first_with",
  .exc "NoBack",
  .glo "NoBack",
  .free "divmod",
  .meth "Field" "back",
  .meth "Field" "minus",
  .glo "less_row",
  .meth "Cleared" "clear_others"]
def fa3 : List He.Fa := [.meth "Cleared" "clear_at",
  .mkr "Cleared",
  .glo "Cleared",
  .glo "reader",
  .free "enumerate",
  .glo "nought",
  .glo "_law_asked",
  .free "isinstance",
  .glo "_law_rows_of",
  .glo "_law_copied",
  .glo "_law_plain",
  .free "all"]
def fa4 : List He.Fa := [.free "bool",
  .glo "rank",
  .free "min",
  .glo "_law_source",
  .glo "_law_right",
  .glo "law"]
def fa : List He.Fa := fa0 ++ fa1 ++ fa2 ++ fa3 ++ fa4
def fx0 : List Fx := []
def fx : List Fx := fx0
/-- what the top has written -/
structure Su (K : PySem.W.Frag) (mg : Str → Option Value) : Prop where
  c : SaysX fa fn fx K
  X : ∃ h : Heap, K.In h ∧ h.Ns mainGlobals mg
section
variable {P : Program} {w : World} {K : PySem.W.Frag} {mg : Str → Option Value} {base : Heap}
theorem Su.glo (S : Su K mg) (i : Nat) {x : Str} (h : fa[i]? = some (.glo x) := by rfl) : mg x = some (.ref (He.ga K x)) := let ⟨_, X, G⟩ := S.X; He.glo_ok X G (S.c.d.fact i h)
theorem Su.fre (S : Su K mg) (i : Nat) {x : Str} (h : fa[i]? = some (.free x) := by rfl) : mg x = none := let ⟨_, X, G⟩ := S.X; He.free_ok X G (S.c.d.fact i h)
theorem Su.int (S : Su K mg) (i : Nat) {x : Str} {z : Int} (h : fa[i]? = some (.int x z) := by rfl) : ∃ u, mg x = some u ∧ RelV (.int z) u := let ⟨_, X, G⟩ := S.X; let ⟨t, e⟩ := He.int_ok X G (S.c.d.fact i h); ⟨_, e, t, rfl⟩
theorem Su.str (S : Su K mg) (i : Nat) {x z : Str} (h : fa[i]? = some (.str x z) := by rfl) : ∃ u, mg x = some u ∧ RelV (.str z) u := let ⟨_, X, G⟩ := S.X; let ⟨t, e⟩ := He.str_ok X G (S.c.d.fact i h); ⟨_, e, t, rfl⟩
theorem Su.g_law_mixed (S : Su K mg) : mg "_law_mixed" = some (.ref (He.ga K "_law_mixed")) := S.glo 0
theorem Su.g_law_take (S : Su K mg) : mg "_law_take" = some (.ref (He.ga K "_law_take")) := S.glo 1
theorem Su.c_GREATEST (S : Su K mg) : ∃ u, mg "GREATEST" = some u ∧ RelV (.int 1000000) u := S.int 2
theorem Su.g_is_prime (S : Su K mg) : mg "is_prime" = some (.ref (He.ga K "is_prime")) := S.glo 3
theorem Su.x_NoPrime (S : Su K mg) : PySem.W.excIn K (He.ga K "NoPrime") He.veBase "ValueError.__new__" = true ∧ PySem.W.keepIn K (.ref (He.ga K "NoPrime")) = true ∧ PySem.W.subIn K (.ref (He.ga K "NoPrime")) (.type "BaseException") = some true ∧ PySem.W.typeIn K (.ref (He.ga K "NoPrime")) = some (.type "type") := He.exc_ok (S.c.d.fact 4 rfl)
theorem Su.g_NoPrime (S : Su K mg) : mg "NoPrime" = some (.ref (He.ga K "NoPrime")) := S.glo 5
theorem Su.n_Field_prime (S : Su K mg) : NoAttr K (He.ga K "Field") "prime" := He.noat_ok (S.c.d.fact 6 rfl)
theorem Su.k_Field (S : Su K mg) : Cls K (He.ga K "Field") := He.cls_ok (S.c.d.fact 7 rfl)
theorem Su.m_Field (S : Su K mg) : Mk K (He.ga K "Field") (He.ma K (He.ga K "Field") "__init__") := He.mkr_ok (S.c.d.fact 8 rfl)
theorem Su.g_Field (S : Su K mg) : mg "Field" = some (.ref (He.ga K "Field")) := S.glo 9
theorem Su.f_range (S : Su K mg) : mg "range" = none := S.fre 10
theorem Su.f_int (S : Su K mg) : mg "int" = none := S.fre 11
theorem Su.f_list (S : Su K mg) : mg "list" = none := S.fre 12
theorem Su.g_law_table (S : Su K mg) : mg "_law_table" = some (.ref (He.ga K "_law_table")) := S.glo 13
theorem Su.f_len (S : Su K mg) : mg "len" = none := S.fre 14
theorem Su.g_ones (S : Su K mg) : mg "ones" = some (.ref (He.ga K "ones")) := S.glo 15
theorem Su.f_zip (S : Su K mg) : mg "zip" = none := S.fre 16
theorem Su.e_Field_fit (S : Su K mg) : Meth K (He.ga K "Field") "fit" (He.ma K (He.ga K "Field") "fit") := He.meth_ok (S.c.d.fact 17 rfl)
theorem Su.e_Field_plus (S : Su K mg) : Meth K (He.ga K "Field") "plus" (He.ma K (He.ga K "Field") "plus") := He.meth_ok (S.c.d.fact 18 rfl)
theorem Su.e_Field_times (S : Su K mg) : Meth K (He.ga K "Field") "times" (He.ma K (He.ga K "Field") "times") := He.meth_ok (S.c.d.fact 19 rfl)
theorem Su.g_sum_over (S : Su K mg) : mg "sum_over" = some (.ref (He.ga K "sum_over")) := S.glo 20
theorem Su.g_product (S : Su K mg) : mg "product" = some (.ref (He.ga K "product")) := S.glo 21
theorem Su.g_times_row (S : Su K mg) : mg "times_row" = some (.ref (He.ga K "times_row")) := S.glo 22
theorem Su.n_Cleared_field (S : Su K mg) : NoAttr K (He.ga K "Cleared") "field" := He.noat_ok (S.c.d.fact 23 rfl)
theorem Su.k_Cleared (S : Su K mg) : Cls K (He.ga K "Cleared") := He.cls_ok (S.c.d.fact 24 rfl)
theorem Su.n_Cleared_lines (S : Su K mg) : NoAttr K (He.ga K "Cleared") "lines" := He.noat_ok (S.c.d.fact 25 rfl)
theorem Su.n_Cleared_made_of (S : Su K mg) : NoAttr K (He.ga K "Cleared") "made_of" := He.noat_ok (S.c.d.fact 26 rfl)
theorem Su.n_Cleared_places (S : Su K mg) : NoAttr K (He.ga K "Cleared") "places" := He.noat_ok (S.c.d.fact 27 rfl)
theorem Su.g_first_with (S : Su K mg) : mg "first_with" = some (.ref (He.ga K "first_with")) := S.glo 28
theorem Su.x_NoBack (S : Su K mg) : PySem.W.excIn K (He.ga K "NoBack") He.veBase "ValueError.__new__" = true ∧ PySem.W.keepIn K (.ref (He.ga K "NoBack")) = true ∧ PySem.W.subIn K (.ref (He.ga K "NoBack")) (.type "BaseException") = some true ∧ PySem.W.typeIn K (.ref (He.ga K "NoBack")) = some (.type "type") := He.exc_ok (S.c.d.fact 29 rfl)
theorem Su.g_NoBack (S : Su K mg) : mg "NoBack" = some (.ref (He.ga K "NoBack")) := S.glo 30
theorem Su.f_divmod (S : Su K mg) : mg "divmod" = none := S.fre 31
theorem Su.e_Field_back (S : Su K mg) : Meth K (He.ga K "Field") "back" (He.ma K (He.ga K "Field") "back") := He.meth_ok (S.c.d.fact 32 rfl)
theorem Su.e_Field_minus (S : Su K mg) : Meth K (He.ga K "Field") "minus" (He.ma K (He.ga K "Field") "minus") := He.meth_ok (S.c.d.fact 33 rfl)
theorem Su.g_less_row (S : Su K mg) : mg "less_row" = some (.ref (He.ga K "less_row")) := S.glo 34
theorem Su.e_Cleared_clear_others (S : Su K mg) : Meth K (He.ga K "Cleared") "clear_others" (He.ma K (He.ga K "Cleared") "clear_others") := He.meth_ok (S.c.d.fact 35 rfl)
theorem Su.e_Cleared_clear_at (S : Su K mg) : Meth K (He.ga K "Cleared") "clear_at" (He.ma K (He.ga K "Cleared") "clear_at") := He.meth_ok (S.c.d.fact 36 rfl)
theorem Su.m_Cleared (S : Su K mg) : Mk K (He.ga K "Cleared") (He.ma K (He.ga K "Cleared") "__init__") := He.mkr_ok (S.c.d.fact 37 rfl)
theorem Su.g_Cleared (S : Su K mg) : mg "Cleared" = some (.ref (He.ga K "Cleared")) := S.glo 38
theorem Su.g_reader (S : Su K mg) : mg "reader" = some (.ref (He.ga K "reader")) := S.glo 39
theorem Su.f_enumerate (S : Su K mg) : mg "enumerate" = none := S.fre 40
theorem Su.g_nought (S : Su K mg) : mg "nought" = some (.ref (He.ga K "nought")) := S.glo 41
theorem Su.g_law_asked (S : Su K mg) : mg "_law_asked" = some (.ref (He.ga K "_law_asked")) := S.glo 42
theorem Su.f_isinstance (S : Su K mg) : mg "isinstance" = none := S.fre 43
theorem Su.g_law_rows_of (S : Su K mg) : mg "_law_rows_of" = some (.ref (He.ga K "_law_rows_of")) := S.glo 44
theorem Su.g_law_copied (S : Su K mg) : mg "_law_copied" = some (.ref (He.ga K "_law_copied")) := S.glo 45
theorem Su.g_law_plain (S : Su K mg) : mg "_law_plain" = some (.ref (He.ga K "_law_plain")) := S.glo 46
theorem Su.f_all (S : Su K mg) : mg "all" = none := S.fre 47
theorem Su.f_bool (S : Su K mg) : mg "bool" = none := S.fre 48
theorem Su.g_rank (S : Su K mg) : mg "rank" = some (.ref (He.ga K "rank")) := S.glo 49
theorem Su.f_min (S : Su K mg) : mg "min" = none := S.fre 50
theorem Su.g_law_source (S : Su K mg) : mg "_law_source" = some (.ref (He.ga K "_law_source")) := S.glo 51
theorem Su.g_law_right (S : Su K mg) : mg "_law_right" = some (.ref (He.ga K "_law_right")) := S.glo 52
theorem Su.g_law (S : Su K mg) : mg "law" = some (.ref (He.ga K "law")) := S.glo 53
theorem sc_law_mixed : FnScope ["cell", "k", "number"] ["cell", "k"] (defScope s_law_mixed) := ⟨rfl, rfl, rfl, by decide +kernel, rfl, by decide +kernel, by decide +kernel⟩
theorem ok_law_mixed (S : Su K mg) {fd : FuncData} {dvs : List V} (F : FunD K "_law_mixed" "_law_mixed" (defArgs s_law_mixed) (defBody s_law_mixed) (defScope s_law_mixed) dvs [] (He.fAd K ("_law_mixed", none)) fd) : FnOk P w K mg base (L2.CX P w) 1 (He.fAd K ("_law_mixed", none)) fd ["cell", "k"] (sp_law_mixed K) :=
  FunD.ok (k := 0) F sc_law_mixed (fun vs H Q E h => h.1) fun cdv A outer s H vs Q E hr h => ⟨t_law_mixed K, PSs.nox (by
    have nd := sc_law_mixed.nd
    exact (pss_cons (ps_set (i := 2) nd rfl (.inl rfl) (pe_op op_mod (pe_op op_mul (pe_op op_add (pe_op op_mod (pv 0) pe_int) pe_int) (pe_op op_add (pe_op op_mul (pv 1) pe_int) pe_int)) pe_int)) (pss_cons (ps_set (i := 2) nd rfl (.inl rfl) (pe_op op_mod (pe_op op_mul (pe_op op_add (pv 2) (pe_op op_mul (pe_op op_mod (pe_op op_fdivW (pv 0) pe_int) pe_int) (pe_op op_add (pv 1) pe_int))) pe_int) pe_int)) (pss_cons (ps_set (i := 2) nd rfl (.inl rfl) (pe_op op_mod (pe_op op_mul (pv 2) (pe_op op_add (pe_op op_add (pe_op op_fdivW (pv 2) pe_int) pe_int) (pv 1))) pe_int)) (pss_one (ps_ret (pe_op op_mod (pe_op op_mul (pv 2) (pe_op op_add (pe_op op_fdivW (pv 2) pe_int) pe_int)) pe_int))))))), pu_law_mixed vs H Q E h.2⟩
theorem ca_law_mixed (S : Su K mg) : Cal P w K mg base (He.fAd K ("_law_mixed", none)) ["cell", "k"] 1 [] (sp_law_mixed K) := by
  obtain ⟨fd, F⟩ := S.c.d.def_ 0 (d := d_law_mixed) rfl
  exact ⟨⟨fd, ok_law_mixed S F, [], .nil, FunD.bindsN F fun _ _ _ _ _ _ us hl => match us, hl with | [_, _], _ => rfl⟩, F.kp⟩
theorem sc_law_take : FnScope ["source", "many", "found"] ["source", "many"] (defScope s_law_take) := ⟨rfl, rfl, rfl, by decide +kernel, rfl, by decide +kernel, by decide +kernel⟩
theorem ok_law_take (S : Su K mg) {fd : FuncData} {dvs : List V} (F : FunD K "_law_take" "_law_take" (defArgs s_law_take) (defBody s_law_take) (defScope s_law_take) dvs [] (He.fAd K ("_law_take", none)) fd) : FnOk P w K mg base (L2.CX P w) 2 (He.fAd K ("_law_take", none)) fd ["source", "many"] (sp_law_take K) :=
  FunD.ok (k := 1) F sc_law_take (fun vs H Q E h => h.1) fun cdv A outer s H vs Q E hr h => ⟨t_law_take K, PSs.nox (by
    have nd := sc_law_take.nd
    exact (pss_cons (ps_if (pt_cmpR op_ge (pe_ix ix_list (pv 0) pe_int (fun _ _ => rfl)) (pe_op op_pow pe_int pe_int) (nomark _)) (pss_cons (ps_set (i := 2) nd rfl (.inl rfl) (pe_op op_mod (pe_ix ix_list (pv 0) pe_int (fun _ _ => rfl)) (pv 1))) (pss_cons (ps_asg (pe_op op_fdivW (pe_ix ix_list (pv 0) pe_int (fun _ _ => rfl)) (pv 1)) (pg_sub (pv 0) pe_int set_list)) (pss_one (ps_ret (pv 2))))) pss_nil) (pss_cons (ps_asg (pe_op op_add (pe_ix ix_list (pv 0) pe_int (fun _ _ => rfl)) pe_int) (pg_sub (pv 0) pe_int set_list)) (pss_one (ps_ret (pe_op op_mod (kc_call (ca_law_mixed S) (hr.mono (by decide)) rfl S.g_law_mixed px0 (pa_cons (pe_ix ix_list (pv 0) pe_int (fun _ _ => rfl)) (pa_cons (pe_ix ix_list (pv 0) pe_int (fun _ _ => rfl)) pa_nil))) (pv 1))))))), pu_law_take vs H Q E h.2⟩
theorem ca_law_take (S : Su K mg) : Cal P w K mg base (He.fAd K ("_law_take", none)) ["source", "many"] 2 [] (sp_law_take K) := by
  obtain ⟨fd, F⟩ := S.c.d.def_ 1 (d := d_law_take) rfl
  exact ⟨⟨fd, ok_law_take S F, [], .nil, FunD.bindsN F fun _ _ _ _ _ _ us hl => match us, hl with | [_, _], _ => rfl⟩, F.kp⟩
theorem sc_is_prime : FnScope ["number", "by"] ["number"] (defScope s_is_prime) := ⟨rfl, rfl, rfl, by decide +kernel, rfl, by decide +kernel, by decide +kernel⟩
theorem ok_is_prime (S : Su K mg) {fd : FuncData} {dvs : List V} (F : FunD K "is_prime" "is_prime" (defArgs s_is_prime) (defBody s_is_prime) (defScope s_is_prime) dvs [] (He.fAd K ("is_prime", none)) fd) : FnOk P w K mg base (L2.CX P w) 1 (He.fAd K ("is_prime", none)) fd ["number"] (sp_is_prime K) :=
  FunD.ok (k := 0) F sc_is_prime (fun vs H Q E h => h.1) fun cdv A outer s H vs Q E hr h => ⟨t_is_prime K, PSs.nox (by
    have nd := sc_is_prime.nd
    exact (pss_cons (ps_if (pt_cmpR op_lt (pv 0) pe_int (nomark _)) (pss_one (ps_ret pe_bl)) pss_nil) (pss_cons (ps_set (i := 1) nd rfl (.inl rfl) pe_int) (pss_cons (ps_while PassesOwn.never (pt_cmpR op_le (pe_op op_mul (pv 1) (pv 1)) (pv 0) (nomark _)) (pss_cons (ps_if (pt_cmpR op_eq (pe_op op_mod (pv 0) (pv 1)) pe_int (nomark _)) (pss_one (ps_ret pe_bl)) pss_nil) (pss_one (ps_aug (i := 1) nd rfl (.inl rfl) pe_int ip_add)))) (pss_one (ps_ret pe_bl)))))), pu_is_prime vs H Q E h.2⟩
theorem ca_is_prime (S : Su K mg) : Cal P w K mg base (He.fAd K ("is_prime", none)) ["number"] 1 [] (sp_is_prime K) := by
  obtain ⟨fd, F⟩ := S.c.d.def_ 2 (d := d_is_prime) rfl
  exact ⟨⟨fd, ok_is_prime S F, [], .nil, FunD.bindsN F fun _ _ _ _ _ _ us hl => match us, hl with | [_], _ => rfl⟩, F.kp⟩
theorem sc_Field___init__ : FnScope ["self", "prime"] ["self", "prime"] (defScope s_Field___init__) := ⟨rfl, rfl, rfl, by decide +kernel, rfl, by decide +kernel, by decide +kernel⟩
theorem ok_Field___init__ (S : Su K mg) {fd : FuncData} {dvs : List V} (F : FunD K "__init__" "Field.__init__" (defArgs s_Field___init__) (defBody s_Field___init__) (defScope s_Field___init__) dvs [] (He.fAd K ("Field", some "__init__")) fd) : FnOk P w K mg base (L2.CX P w) 2 (He.fAd K ("Field", some "__init__")) fd ["self", "prime"] (sp_Field___init__ K) :=
  FunD.ok (k := 1) F sc_Field___init__ (fun vs H Q E h => h.1) fun cdv A outer s H vs Q E hr h => ⟨t_Field___init__ K E, (by
    have nd := sc_Field___init__.nd
    have tk : Takes (cxOf (L2.CX P w) P w K mg base ["self", "prime"] "Field.__init__" (defScope s_Field___init__) (He.fAd K ("Field", some "__init__")) cdv A outer s H E) (fun cls d _ H => E cls d H) := takes_of rfl rfl rfl rfl
    exact (pss_cons (ps_if (PW.pt (pw_or (pt_cmpR op_gt (pv 1) (pe_glob rfl (S.c_GREATEST).choose_spec.1 (S.c_GREATEST).choose_spec.2) (nomark _)) (pw_or1 (pt_not (pt_val (kc_call (ca_is_prime S) (hr.mono (by decide)) rfl S.g_is_prime (pxE tk) (pa_cons (pv 1) pa_nil)) (by intro _; rfl)))))) (pss_one (ps_raise rfl tk (pmk_own PySem.F.excBase_ValueError S.x_NoPrime.1 S.g_NoPrime S.x_NoPrime.2.1 (raises_own S.x_NoPrime.2.2.1 S.x_NoPrime.2.2.2) rfl))) pss_nil) (pss_one (kc_sfld (pv 0) (pv 1) S.k_Field S.n_Field_prime rfl)))), pu_Field___init__ vs H Q E h.2⟩
theorem ca_Field___init__ (S : Su K mg) : Cal P w K mg base (He.fAd K ("Field", some "__init__")) ["self", "prime"] 2 [] (sp_Field___init__ K) := by
  obtain ⟨fd, F⟩ := S.c.d.def_ 3 (d := d_Field___init__) rfl
  exact ⟨⟨fd, ok_Field___init__ S F, [], .nil, FunD.bindsN F fun _ _ _ _ _ _ us hl => match us, hl with | [_, _], _ => rfl⟩, F.kp⟩
theorem sc_law_table : FnScope ["source", "high", "wide", "prime", "way", "top", "found", ".0", "k", "place"] ["source", "high", "wide", "prime"] (defScope s_law_table) := ⟨rfl, rfl, rfl, by decide +kernel, rfl, by decide +kernel, by decide +kernel⟩
theorem ok_law_table (S : Su K mg) {fd : FuncData} {dvs : List V} (F : FunD K "_law_table" "_law_table" (defArgs s_law_table) (defBody s_law_table) (defScope s_law_table) dvs [] (He.fAd K ("_law_table", none)) fd) : FnOk P w K mg base (L2.CX P w) 3 (He.fAd K ("_law_table", none)) fd ["source", "high", "wide", "prime"] (sp_law_table K) :=
  FunD.ok (k := 2) F sc_law_table (fun vs H Q E h => h.1) fun cdv A outer s H vs Q E hr h => ⟨t_law_table K, PSs.nox (by
    have nd := sc_law_table.nd
    exact (pss_cons (ps_set (i := 4) nd rfl (.inl rfl) (kc_call (ca_law_take S) (hr.mono (by decide)) rfl S.g_law_take px0 (pa_cons (pv 0) (pa_cons pe_int pa_nil)))) (pss_cons (ps_if (PW.pt (pw_and (pt_cmpR op_lt (pv 4) pe_int (nomark _)) (pw_and1 (pt_cmpR op_eq (pv 1) (pv 2) (nomark _))))) (pss_one (ps_ret (pe_lc (own := [(".0", 7), ("k", 8)]) rfl nd (pi_range1 rfl S.f_range (pa_cons (pv 1) pa_nil)) (blkOk_by (by kernel_rfl)) (fun _ _ _ _ _ => (pg_name (i := 8) nd rfl (.inr rfl))) (fun _ _ _ _ _ => pts_nil) (fun _ _ _ _ _ => (pe_lc (own := [(".0", 7), ("place", 9)]) rfl nd (pi_range1 rfl S.f_range (pa_cons (pv 2) pa_nil)) (blkOk_by (by kernel_rfl)) (fun _ _ _ _ _ => (pg_name (i := 9) nd rfl (.inl rfl))) (fun _ _ _ _ _ => pts_nil) (fun _ _ _ _ _ => (pe_callTy call_int1 rfl S.f_int (by decide +kernel) (pa_cons (pe_cmpR op_eq (pv 8) (pv 9) (nomark _)) pa_nil)))))))) pss_nil) (pss_cons (ps_set (i := 5) nd rfl (.inr rfl) (pe_ix ix_list (pe_lst (pa_cons (pv 3) (pa_cons pe_int (pa_cons (pv 3) (pa_cons pe_int pa_nil))))) (pe_op op_mod (pv 4) pe_int) (fun _ _ => rfl))) (pss_cons (ps_setLc (own := [(".0", 7), ("k", 8)]) (i := 6) rfl nd rfl rfl (sw_true rfl rfl rfl (by decide +kernel)) (pi_range1 rfl S.f_range (pa_cons (pv 1) pa_nil)) (blkOk_by (by kernel_rfl)) (fun _ _ _ _ _ => (pg_name (i := 8) nd rfl (.inl rfl))) (fun _ _ _ _ _ => pts_nil) (fun _ _ _ _ _ => (pe_lc (own := [(".0", 7), ("place", 9)]) rfl nd (pi_range1 rfl S.f_range (pa_cons (pv 2) pa_nil)) (blkOk_by (by kernel_rfl)) (fun _ _ _ _ _ => (pg_name (i := 9) nd rfl (.inl rfl))) (fun _ _ _ _ _ => pts_nil) (fun _ _ _ _ _ => (kc_call (ca_law_take S) (hr.mono (by decide)) rfl S.g_law_take px0 (pa_cons (pv 0) (pa_cons (pv 5) pa_nil))))))) (pss_cons (ps_if (pt_cmpR op_eq (pv 4) pe_int (nomark _)) (pss_one (ps_asg (pe_callTy call_list_of rfl S.f_list (by decide +kernel) (pa_cons (pe_ix ix_list (pv 6) pe_int (fun _ _ => rfl)) pa_nil)) (pg_sub (pv 6) (pe_un un_neg pe_int) set_list))) pss_nil) (pss_one (ps_ret (pv 6))))))))), pu_law_table vs H Q E h.2⟩
theorem ca_law_table (S : Su K mg) : Cal P w K mg base (He.fAd K ("_law_table", none)) ["source", "high", "wide", "prime"] 3 [] (sp_law_table K) := by
  obtain ⟨fd, F⟩ := S.c.d.def_ 4 (d := d_law_table) rfl
  exact ⟨⟨fd, ok_law_table S F, [], .nil, FunD.bindsN F fun _ _ _ _ _ _ us hl => match us, hl with | [_, _, _, _], _ => rfl⟩, F.kp⟩
theorem sc_ones : FnScope ["many", ".0", "k", "place"] ["many"] (defScope s_ones) := ⟨rfl, rfl, rfl, by decide +kernel, rfl, by decide +kernel, by decide +kernel⟩
theorem ok_ones (S : Su K mg) {fd : FuncData} {dvs : List V} (F : FunD K "ones" "ones" (defArgs s_ones) (defBody s_ones) (defScope s_ones) dvs [] (He.fAd K ("ones", none)) fd) : FnOk P w K mg base (L2.CX P w) 1 (He.fAd K ("ones", none)) fd ["many"] (sp_ones K) :=
  FunD.ok (k := 0) F sc_ones (fun vs H Q E h => h.1) fun cdv A outer s H vs Q E hr h => ⟨t_ones K, PSs.nox (by
    have nd := sc_ones.nd
    exact (pss_one (ps_ret (pe_lc (own := [(".0", 1), ("k", 2)]) rfl nd (pi_range1 rfl S.f_range (pa_cons (pv 0) pa_nil)) (blkOk_by (by kernel_rfl)) (fun _ _ _ _ _ => (pg_name (i := 2) nd rfl (.inr rfl))) (fun _ _ _ _ _ => pts_nil) (fun _ _ _ _ _ => (pe_lc (own := [(".0", 1), ("place", 3)]) rfl nd (pi_range1 rfl S.f_range (pa_cons (pv 0) pa_nil)) (blkOk_by (by kernel_rfl)) (fun _ _ _ _ _ => (pg_name (i := 3) nd rfl (.inl rfl))) (fun _ _ _ _ _ => pts_nil) (fun _ _ _ _ _ => (pe_ifExp (pt_cmpR op_eq (pv 2) (pv 3) (nomark _)) pe_int pe_int)))))))), pu_ones vs H Q E h.2⟩
theorem ca_ones (S : Su K mg) : Cal P w K mg base (He.fAd K ("ones", none)) ["many"] 1 [] (sp_ones K) := by
  obtain ⟨fd, F⟩ := S.c.d.def_ 5 (d := d_ones) rfl
  exact ⟨⟨fd, ok_ones S F, [], .nil, FunD.bindsN F fun _ _ _ _ _ _ us hl => match us, hl with | [_], _ => rfl⟩, F.kp⟩
theorem sc_Field_fit : FnScope ["self", "number"] ["self", "number"] (defScope s_Field_fit) := ⟨rfl, rfl, rfl, by decide +kernel, rfl, by decide +kernel, by decide +kernel⟩
theorem ok_Field_fit (S : Su K mg) {fd : FuncData} {dvs : List V} (F : FunD K "fit" "Field.fit" (defArgs s_Field_fit) (defBody s_Field_fit) (defScope s_Field_fit) dvs [] (He.fAd K ("Field", some "fit")) fd) : FnOk P w K mg base (L2.CX P w) 1 (He.fAd K ("Field", some "fit")) fd ["self", "number"] (sp_Field_fit K) :=
  FunD.ok (k := 0) F sc_Field_fit (fun vs H Q E h => h.1) fun cdv A outer s H vs Q E hr h => ⟨t_Field_fit K, PSs.nox (by
    have nd := sc_Field_fit.nd
    exact (pss_one (ps_ret (pe_op op_mod (pv 1) (kc_fld (pv 0) S.k_Field S.n_Field_prime rfl))))), pu_Field_fit vs H Q E h.2⟩
theorem ca_Field_fit (S : Su K mg) : Cal P w K mg base (He.fAd K ("Field", some "fit")) ["self", "number"] 1 [] (sp_Field_fit K) := by
  obtain ⟨fd, F⟩ := S.c.d.def_ 6 (d := d_Field_fit) rfl
  exact ⟨⟨fd, ok_Field_fit S F, [], .nil, FunD.bindsN F fun _ _ _ _ _ _ us hl => match us, hl with | [_, _], _ => rfl⟩, F.kp⟩
theorem sc_Field_plus : FnScope ["self", "one", "other"] ["self", "one", "other"] (defScope s_Field_plus) := ⟨rfl, rfl, rfl, by decide +kernel, rfl, by decide +kernel, by decide +kernel⟩
theorem ok_Field_plus (S : Su K mg) {fd : FuncData} {dvs : List V} (F : FunD K "plus" "Field.plus" (defArgs s_Field_plus) (defBody s_Field_plus) (defScope s_Field_plus) dvs [] (He.fAd K ("Field", some "plus")) fd) : FnOk P w K mg base (L2.CX P w) 2 (He.fAd K ("Field", some "plus")) fd ["self", "one", "other"] (sp_Field_plus K) :=
  FunD.ok (k := 1) F sc_Field_plus (fun vs H Q E h => h.1) fun cdv A outer s H vs Q E hr h => ⟨t_Field_plus K, PSs.nox (by
    have nd := sc_Field_plus.nd
    exact (pss_one (ps_ret (kc_meth (pv 0) S.k_Field S.e_Field_fit (ca_Field_fit S) (hr.mono (by decide)) px0 (pa_cons (pe_op op_add (pv 1) (pv 2)) pa_nil))))), pu_Field_plus vs H Q E h.2⟩
theorem ca_Field_plus (S : Su K mg) : Cal P w K mg base (He.fAd K ("Field", some "plus")) ["self", "one", "other"] 2 [] (sp_Field_plus K) := by
  obtain ⟨fd, F⟩ := S.c.d.def_ 7 (d := d_Field_plus) rfl
  exact ⟨⟨fd, ok_Field_plus S F, [], .nil, FunD.bindsN F fun _ _ _ _ _ _ us hl => match us, hl with | [_, _, _], _ => rfl⟩, F.kp⟩
theorem sc_Field_times : FnScope ["self", "one", "other"] ["self", "one", "other"] (defScope s_Field_times) := ⟨rfl, rfl, rfl, by decide +kernel, rfl, by decide +kernel, by decide +kernel⟩
theorem ok_Field_times (S : Su K mg) {fd : FuncData} {dvs : List V} (F : FunD K "times" "Field.times" (defArgs s_Field_times) (defBody s_Field_times) (defScope s_Field_times) dvs [] (He.fAd K ("Field", some "times")) fd) : FnOk P w K mg base (L2.CX P w) 2 (He.fAd K ("Field", some "times")) fd ["self", "one", "other"] (sp_Field_times K) :=
  FunD.ok (k := 1) F sc_Field_times (fun vs H Q E h => h.1) fun cdv A outer s H vs Q E hr h => ⟨t_Field_times K, PSs.nox (by
    have nd := sc_Field_times.nd
    exact (pss_one (ps_ret (kc_meth (pv 0) S.k_Field S.e_Field_fit (ca_Field_fit S) (hr.mono (by decide)) px0 (pa_cons (pe_op op_mul (pv 1) (pv 2)) pa_nil))))), pu_Field_times vs H Q E h.2⟩
theorem ca_Field_times (S : Su K mg) : Cal P w K mg base (He.fAd K ("Field", some "times")) ["self", "one", "other"] 2 [] (sp_Field_times K) := by
  obtain ⟨fd, F⟩ := S.c.d.def_ 8 (d := d_Field_times) rfl
  exact ⟨⟨fd, ok_Field_times S F, [], .nil, FunD.bindsN F fun _ _ _ _ _ _ us hl => match us, hl with | [_, _, _], _ => rfl⟩, F.kp⟩
theorem sc_sum_over : FnScope ["field", "one", "other", "whole", "left", "right"] ["field", "one", "other"] (defScope s_sum_over) := ⟨rfl, rfl, rfl, by decide +kernel, rfl, by decide +kernel, by decide +kernel⟩
theorem ok_sum_over (S : Su K mg) {fd : FuncData} {dvs : List V} (F : FunD K "sum_over" "sum_over" (defArgs s_sum_over) (defBody s_sum_over) (defScope s_sum_over) dvs [] (He.fAd K ("sum_over", none)) fd) : FnOk P w K mg base (L2.CX P w) 3 (He.fAd K ("sum_over", none)) fd ["field", "one", "other"] (sp_sum_over K) :=
  FunD.ok (k := 2) F sc_sum_over (fun vs H Q E h => h.1) fun cdv A outer s H vs Q E hr h => ⟨t_sum_over K, PSs.nox (by
    have nd := sc_sum_over.nd
    exact (pss_cons (ps_set (i := 3) nd rfl (.inl rfl) pe_int) (pss_cons (ps_for PassesOwn.never rfl (pi_zip rfl S.f_zip (pa_cons (pv 1) (pa_cons (pv 2) pa_nil))) (pg_tup rfl (pgs_cons (pg_name (i := 4) nd rfl (.inl rfl)) (pgs_cons (pg_name (i := 5) nd rfl (.inl rfl)) pgs_nil))) (pss_one (ps_set (i := 3) nd rfl (.inl rfl) (kc_meth (pv 0) S.k_Field S.e_Field_plus (ca_Field_plus S) (hr.mono (by decide)) px0 (pa_cons (pv 3) (pa_cons (kc_meth (pv 0) S.k_Field S.e_Field_times (ca_Field_times S) (hr.mono (by decide)) px0 (pa_cons (pv 4) (pa_cons (pv 5) pa_nil))) pa_nil)))))) (pss_one (ps_ret (pv 3)))))), pu_sum_over vs H Q E h.2⟩
theorem ca_sum_over (S : Su K mg) : Cal P w K mg base (He.fAd K ("sum_over", none)) ["field", "one", "other"] 3 [] (sp_sum_over K) := by
  obtain ⟨fd, F⟩ := S.c.d.def_ 9 (d := d_sum_over) rfl
  exact ⟨⟨fd, ok_sum_over S F, [], .nil, FunD.bindsN F fun _ _ _ _ _ _ us hl => match us, hl with | [_, _, _], _ => rfl⟩, F.kp⟩
theorem sc_product : FnScope ["field", "one", "other", "found", "line", ".0", "k", "row"] ["field", "one", "other"] (defScope s_product) := ⟨rfl, rfl, rfl, by decide +kernel, rfl, by decide +kernel, by decide +kernel⟩
theorem ok_product (S : Su K mg) {fd : FuncData} {dvs : List V} (F : FunD K "product" "product" (defArgs s_product) (defBody s_product) (defScope s_product) dvs [] (He.fAd K ("product", none)) fd) : FnOk P w K mg base (L2.CX P w) 4 (He.fAd K ("product", none)) fd ["field", "one", "other"] (sp_product K) :=
  FunD.ok (k := 3) F sc_product (fun vs H Q E h => h.1) fun cdv A outer s H vs Q E hr h => ⟨t_product K, PSs.nox (by
    have nd := sc_product.nd
    exact (pss_cons (ps_set (i := 3) nd rfl (.inl rfl) (pe_lst pa_nil)) (pss_cons (ps_for PassesOwn.never rfl (pi_list (pv 1)) (pg_name (i := 4) nd rfl (.inr rfl)) (pss_one (ps_expr (pe_bm PySem.F.plainAttrs_list PySem.F.slot_list_append PySem.F.type_list_append mt_append (pv 3) (pa_cons (pe_lc (own := [(".0", 5), ("k", 6)]) rfl nd (pi_range1 rfl S.f_range (pa_cons (pe_callB call_len_seq rfl S.f_len (by decide +kernel) (pa_cons (pe_ix ix_list (pv 2) pe_int (fun _ _ => rfl)) pa_nil)) pa_nil)) (blkOk_by (by kernel_rfl)) (fun _ _ _ _ _ => (pg_name (i := 6) nd rfl (.inr rfl))) (fun _ _ _ _ _ => pts_nil) (fun _ _ _ _ _ => (kc_call (ca_sum_over S) (hr.mono (by decide)) rfl S.g_sum_over px0 (pa_cons (pv 0) (pa_cons (pv 4) (pa_cons (pe_lc (own := [(".0", 5), ("row", 7)]) rfl nd (pi_list (pv 2)) (blkOk_by (by kernel_rfl)) (fun _ _ _ _ _ => (pg_name (i := 7) nd rfl (.inl rfl))) (fun _ _ _ _ _ => pts_nil) (fun _ _ _ _ _ => (pe_ix ix_list (pv 7) (pv 6) (fun _ _ => rfl)))) pa_nil)))))) pa_nil))))) (pss_one (ps_ret (pv 3)))))), pu_product vs H Q E h.2⟩
theorem ca_product (S : Su K mg) : Cal P w K mg base (He.fAd K ("product", none)) ["field", "one", "other"] 4 [] (sp_product K) := by
  obtain ⟨fd, F⟩ := S.c.d.def_ 10 (d := d_product) rfl
  exact ⟨⟨fd, ok_product S F, [], .nil, FunD.bindsN F fun _ _ _ _ _ _ us hl => match us, hl with | [_, _, _], _ => rfl⟩, F.kp⟩
theorem sc_times_row : FnScope ["field", "table", "row", ".0", "line"] ["field", "table", "row"] (defScope s_times_row) := ⟨rfl, rfl, rfl, by decide +kernel, rfl, by decide +kernel, by decide +kernel⟩
theorem ok_times_row (S : Su K mg) {fd : FuncData} {dvs : List V} (F : FunD K "times_row" "times_row" (defArgs s_times_row) (defBody s_times_row) (defScope s_times_row) dvs [] (He.fAd K ("times_row", none)) fd) : FnOk P w K mg base (L2.CX P w) 4 (He.fAd K ("times_row", none)) fd ["field", "table", "row"] (sp_times_row K) :=
  FunD.ok (k := 3) F sc_times_row (fun vs H Q E h => h.1) fun cdv A outer s H vs Q E hr h => ⟨t_times_row K, PSs.nox (by
    have nd := sc_times_row.nd
    exact (pss_one (ps_ret (pe_lc (own := [(".0", 3), ("line", 4)]) rfl nd (pi_list (pv 1)) (blkOk_by (by kernel_rfl)) (fun _ _ _ _ _ => (pg_name (i := 4) nd rfl (.inl rfl))) (fun _ _ _ _ _ => pts_nil) (fun _ _ _ _ _ => (kc_call (ca_sum_over S) (hr.mono (by decide)) rfl S.g_sum_over px0 (pa_cons (pv 0) (pa_cons (pv 4) (pa_cons (pv 2) pa_nil))))))))), pu_times_row vs H Q E h.2⟩
theorem ca_times_row (S : Su K mg) : Cal P w K mg base (He.fAd K ("times_row", none)) ["field", "table", "row"] 4 [] (sp_times_row K) := by
  obtain ⟨fd, F⟩ := S.c.d.def_ 11 (d := d_times_row) rfl
  exact ⟨⟨fd, ok_times_row S F, [], .nil, FunD.bindsN F fun _ _ _ _ _ _ us hl => match us, hl with | [_, _, _], _ => rfl⟩, F.kp⟩
theorem sc_first_with : FnScope ["rows", "done", "place", "k"] ["rows", "done", "place"] (defScope s_first_with) := ⟨rfl, rfl, rfl, by decide +kernel, rfl, by decide +kernel, by decide +kernel⟩
theorem ok_first_with (S : Su K mg) {fd : FuncData} {dvs : List V} (F : FunD K "first_with" "first_with" (defArgs s_first_with) (defBody s_first_with) (defScope s_first_with) dvs [] (He.fAd K ("first_with", none)) fd) : FnOk P w K mg base (L2.CX P w) 1 (He.fAd K ("first_with", none)) fd ["rows", "done", "place"] (sp_first_with K) :=
  FunD.ok (k := 0) F sc_first_with (fun vs H Q E h => h.1) fun cdv A outer s H vs Q E hr h => ⟨t_first_with K, PSs.nox (by
    have nd := sc_first_with.nd
    exact (pss_cons (ps_for PassesOwn.never rfl (pi_range2 rfl S.f_range (pa_cons (pv 1) (pa_cons (pe_callB call_len_seq rfl S.f_len (by decide +kernel) (pa_cons (pv 0) pa_nil)) pa_nil))) (pg_name (i := 3) nd rfl (.inl rfl)) (pss_one (ps_if (pt_cmpR op_ne (pe_ix ix_list (pe_ix ix_list (pv 0) (pv 3) (fun _ _ => rfl)) (pv 2) (fun _ _ => rfl)) pe_int (nomark _)) (pss_one (ps_ret (pv 3))) pss_nil))) (pss_one (ps_ret pe_non)))), pu_first_with vs H Q E h.2⟩
theorem ca_first_with (S : Su K mg) : Cal P w K mg base (He.fAd K ("first_with", none)) ["rows", "done", "place"] 1 [] (sp_first_with K) := by
  obtain ⟨fd, F⟩ := S.c.d.def_ 12 (d := d_first_with) rfl
  exact ⟨⟨fd, ok_first_with S F, [], .nil, FunD.bindsN F fun _ _ _ _ _ _ us hl => match us, hl with | [_, _, _], _ => rfl⟩, F.kp⟩
theorem sc_Field_back : FnScope ["self", "number", "left", "right", "one", "other", "many", "rest"] ["self", "number"] (defScope s_Field_back) := ⟨rfl, rfl, rfl, by decide +kernel, rfl, by decide +kernel, by decide +kernel⟩
theorem ok_Field_back (S : Su K mg) {fd : FuncData} {dvs : List V} (F : FunD K "back" "Field.back" (defArgs s_Field_back) (defBody s_Field_back) (defScope s_Field_back) dvs [] (He.fAd K ("Field", some "back")) fd) : FnOk P w K mg base (L2.CX P w) 2 (He.fAd K ("Field", some "back")) fd ["self", "number"] (sp_Field_back K) :=
  FunD.ok (k := 1) F sc_Field_back (fun vs H Q E h => h.1) fun cdv A outer s H vs Q E hr h => ⟨t_Field_back K E, (by
    have nd := sc_Field_back.nd
    have tk : Takes (cxOf (L2.CX P w) P w K mg base ["self", "number", "left", "right", "one", "other", "many", "rest"] "Field.back" (defScope s_Field_back) (He.fAd K ("Field", some "back")) cdv A outer s H E) (fun cls d _ H => E cls d H) := takes_of rfl rfl rfl rfl
    exact (pss_cons (ps_if (pt_cmpR op_eq (pv 1) pe_int (nomark _)) (pss_one (ps_raise rfl tk (pmk_own PySem.F.excBase_ValueError S.x_NoBack.1 S.g_NoBack S.x_NoBack.2.1 (raises_own S.x_NoBack.2.2.1 S.x_NoBack.2.2.2) rfl))) pss_nil) (pss_cons (ps_set (i := 2) nd rfl (.inl rfl) (kc_fld (pv 0) S.k_Field S.n_Field_prime rfl)) (pss_cons (ps_set (i := 3) nd rfl (.inl rfl) (pv 1)) (pss_cons (ps_set (i := 4) nd rfl (.inl rfl) pe_int) (pss_cons (ps_set (i := 5) nd rfl (.inl rfl) pe_int) (pss_cons (ps_while (passes_of rfl) (pt_cmpR op_gt (pv 3) pe_int (nomark _)) (pss_cons (ps_asg (pe_callB call_divmodW rfl S.f_divmod (by decide +kernel) (pa_cons (pv 2) (pa_cons (pv 3) pa_nil))) (pg_tup rfl (pgs_cons (pg_name (i := 6) nd rfl (.inl rfl)) (pgs_cons (pg_name (i := 7) nd rfl (.inl rfl)) pgs_nil)))) (pss_cons (ps_par (i := 2) (j := 3) rfl nd rfl rfl (by decide) rfl rfl (pa_cons (pv 3) (pa_cons (pv 7) pa_nil)) (by rfl)) (pss_one (ps_par (i := 4) (j := 5) rfl nd rfl rfl (by decide) rfl rfl (pa_cons (pv 5) (pa_cons (pe_op op_sub (pv 4) (pe_op op_mul (pv 6) (pv 5))) pa_nil)) (by rfl)))))) (pss_one (ps_ret (kc_meth (pv 0) S.k_Field S.e_Field_fit (ca_Field_fit S) (hr.mono (by decide)) (pxE tk) (pa_cons (pv 4) pa_nil))))))))))), pu_Field_back vs H Q E h.2⟩
theorem ca_Field_back (S : Su K mg) : Cal P w K mg base (He.fAd K ("Field", some "back")) ["self", "number"] 2 [] (sp_Field_back K) := by
  obtain ⟨fd, F⟩ := S.c.d.def_ 13 (d := d_Field_back) rfl
  exact ⟨⟨fd, ok_Field_back S F, [], .nil, FunD.bindsN F fun _ _ _ _ _ _ us hl => match us, hl with | [_, _], _ => rfl⟩, F.kp⟩
theorem sc_Field_minus : FnScope ["self", "one", "other"] ["self", "one", "other"] (defScope s_Field_minus) := ⟨rfl, rfl, rfl, by decide +kernel, rfl, by decide +kernel, by decide +kernel⟩
theorem ok_Field_minus (S : Su K mg) {fd : FuncData} {dvs : List V} (F : FunD K "minus" "Field.minus" (defArgs s_Field_minus) (defBody s_Field_minus) (defScope s_Field_minus) dvs [] (He.fAd K ("Field", some "minus")) fd) : FnOk P w K mg base (L2.CX P w) 2 (He.fAd K ("Field", some "minus")) fd ["self", "one", "other"] (sp_Field_minus K) :=
  FunD.ok (k := 1) F sc_Field_minus (fun vs H Q E h => h.1) fun cdv A outer s H vs Q E hr h => ⟨t_Field_minus K, PSs.nox (by
    have nd := sc_Field_minus.nd
    exact (pss_one (ps_ret (kc_meth (pv 0) S.k_Field S.e_Field_fit (ca_Field_fit S) (hr.mono (by decide)) px0 (pa_cons (pe_op op_sub (pv 1) (pv 2)) pa_nil))))), pu_Field_minus vs H Q E h.2⟩
theorem ca_Field_minus (S : Su K mg) : Cal P w K mg base (He.fAd K ("Field", some "minus")) ["self", "one", "other"] 2 [] (sp_Field_minus K) := by
  obtain ⟨fd, F⟩ := S.c.d.def_ 14 (d := d_Field_minus) rfl
  exact ⟨⟨fd, ok_Field_minus S F, [], .nil, FunD.bindsN F fun _ _ _ _ _ _ us hl => match us, hl with | [_, _, _], _ => rfl⟩, F.kp⟩
theorem sc_less_row : FnScope ["field", "row", "many", "other", ".0", "left", "right"] ["field", "row", "many", "other"] (defScope s_less_row) := ⟨rfl, rfl, rfl, by decide +kernel, rfl, by decide +kernel, by decide +kernel⟩
theorem ok_less_row (S : Su K mg) {fd : FuncData} {dvs : List V} (F : FunD K "less_row" "less_row" (defArgs s_less_row) (defBody s_less_row) (defScope s_less_row) dvs [] (He.fAd K ("less_row", none)) fd) : FnOk P w K mg base (L2.CX P w) 3 (He.fAd K ("less_row", none)) fd ["field", "row", "many", "other"] (sp_less_row K) :=
  FunD.ok (k := 2) F sc_less_row (fun vs H Q E h => h.1) fun cdv A outer s H vs Q E hr h => ⟨t_less_row K, PSs.nox (by
    have nd := sc_less_row.nd
    exact (pss_one (ps_ret (pe_lc (own := [(".0", 4), ("left", 5), ("right", 6)]) rfl nd (pi_zip rfl S.f_zip (pa_cons (pv 1) (pa_cons (pv 3) pa_nil))) (blkOk_by (by kernel_rfl)) (fun _ _ _ _ _ => (pg_tup rfl (pgs_cons (pg_name (i := 5) nd rfl (.inl rfl)) (pgs_cons (pg_name (i := 6) nd rfl (.inl rfl)) pgs_nil)))) (fun _ _ _ _ _ => pts_nil) (fun _ _ _ _ _ => (kc_meth (pv 0) S.k_Field S.e_Field_minus (ca_Field_minus S) (hr.mono (by decide)) px0 (pa_cons (pv 5) (pa_cons (kc_meth (pv 0) S.k_Field S.e_Field_times (ca_Field_times S) (hr.mono (by decide)) px0 (pa_cons (pv 2) (pa_cons (pv 6) pa_nil))) pa_nil)))))))), pu_less_row vs H Q E h.2⟩
theorem ca_less_row (S : Su K mg) : Cal P w K mg base (He.fAd K ("less_row", none)) ["field", "row", "many", "other"] 3 [] (sp_less_row K) := by
  obtain ⟨fd, F⟩ := S.c.d.def_ 15 (d := d_less_row) rfl
  exact ⟨⟨fd, ok_less_row S F, [], .nil, FunD.bindsN F fun _ _ _ _ _ _ us hl => match us, hl with | [_, _, _, _], _ => rfl⟩, F.kp⟩
theorem sc_Cleared_clear_others : FnScope ["self", "done", "place", "k", "many"] ["self", "done", "place"] (defScope s_Cleared_clear_others) := ⟨rfl, rfl, rfl, by decide +kernel, rfl, by decide +kernel, by decide +kernel⟩
theorem ok_Cleared_clear_others (S : Su K mg) {fd : FuncData} {dvs : List V} (F : FunD K "clear_others" "Cleared.clear_others" (defArgs s_Cleared_clear_others) (defBody s_Cleared_clear_others) (defScope s_Cleared_clear_others) dvs [] (He.fAd K ("Cleared", some "clear_others")) fd) : FnOk P w K mg base (L2.CX P w) 4 (He.fAd K ("Cleared", some "clear_others")) fd ["self", "done", "place"] (sp_Cleared_clear_others K) :=
  FunD.ok (k := 3) F sc_Cleared_clear_others (fun vs H Q E h => h.1) fun cdv A outer s H vs Q E hr h => ⟨t_Cleared_clear_others K, PSs.nox (by
    have nd := sc_Cleared_clear_others.nd
    exact (pss_one (ps_for PassesOwn.never rfl (pi_range1 rfl S.f_range (pa_cons (pe_callB call_len_seq rfl S.f_len (by decide +kernel) (pa_cons (kc_fld (pv 0) S.k_Cleared S.n_Cleared_lines rfl) pa_nil)) pa_nil)) (pg_name (i := 3) nd rfl (.inl rfl)) (pss_cons (ps_set (i := 4) nd rfl (.inl rfl) (pe_ix ix_list (pe_ix ix_list (kc_fld (pv 0) S.k_Cleared S.n_Cleared_lines rfl) (pv 3) (fun _ _ => rfl)) (pv 2) (fun _ _ => rfl))) (pss_one (ps_if (PW.pt (pw_and (pt_cmpR op_ne (pv 3) (pv 1) (nomark _)) (pw_and1 (pt_cmpR op_ne (pv 4) pe_int (nomark _))))) (pss_cons (ps_asg (kc_call (ca_less_row S) (hr.mono (by decide)) rfl S.g_less_row px0 (pa_cons (kc_fld (pv 0) S.k_Cleared S.n_Cleared_field rfl) (pa_cons (pe_ix ix_list (kc_fld (pv 0) S.k_Cleared S.n_Cleared_lines rfl) (pv 3) (fun _ _ => rfl)) (pa_cons (pv 4) (pa_cons (pe_ix ix_list (kc_fld (pv 0) S.k_Cleared S.n_Cleared_lines rfl) (pv 1) (fun _ _ => rfl)) pa_nil))))) (pg_sub (kc_fld (pv 0) S.k_Cleared S.n_Cleared_lines rfl) (pv 3) set_list)) (pss_one (ps_asg (kc_call (ca_less_row S) (hr.mono (by decide)) rfl S.g_less_row px0 (pa_cons (kc_fld (pv 0) S.k_Cleared S.n_Cleared_field rfl) (pa_cons (pe_ix ix_list (kc_fld (pv 0) S.k_Cleared S.n_Cleared_made_of rfl) (pv 3) (fun _ _ => rfl)) (pa_cons (pv 4) (pa_cons (pe_ix ix_list (kc_fld (pv 0) S.k_Cleared S.n_Cleared_made_of rfl) (pv 1) (fun _ _ => rfl)) pa_nil))))) (pg_sub (kc_fld (pv 0) S.k_Cleared S.n_Cleared_made_of rfl) (pv 3) set_list)))) pss_nil)))))), pu_Cleared_clear_others vs H Q E h.2⟩
theorem ca_Cleared_clear_others (S : Su K mg) : Cal P w K mg base (He.fAd K ("Cleared", some "clear_others")) ["self", "done", "place"] 4 [] (sp_Cleared_clear_others K) := by
  obtain ⟨fd, F⟩ := S.c.d.def_ 16 (d := d_Cleared_clear_others) rfl
  exact ⟨⟨fd, ok_Cleared_clear_others S F, [], .nil, FunD.bindsN F fun _ _ _ _ _ _ us hl => match us, hl with | [_, _, _], _ => rfl⟩, F.kp⟩
theorem sc_Cleared_clear_at : FnScope ["self", "place", "done", "k", "rows", "back", ".0", "number"] ["self", "place"] (defScope s_Cleared_clear_at) := ⟨rfl, rfl, rfl, by decide +kernel, rfl, by decide +kernel, by decide +kernel⟩
theorem ok_Cleared_clear_at (S : Su K mg) {fd : FuncData} {dvs : List V} (F : FunD K "clear_at" "Cleared.clear_at" (defArgs s_Cleared_clear_at) (defBody s_Cleared_clear_at) (defScope s_Cleared_clear_at) dvs [] (He.fAd K ("Cleared", some "clear_at")) fd) : FnOk P w K mg base (L2.CX P w) 5 (He.fAd K ("Cleared", some "clear_at")) fd ["self", "place"] (sp_Cleared_clear_at K) :=
  FunD.ok (k := 4) F sc_Cleared_clear_at (fun vs H Q E h => h.1) fun cdv A outer s H vs Q E hr h => ⟨t_Cleared_clear_at K, PSs.nox (by
    have nd := sc_Cleared_clear_at.nd
    exact (pss_cons (ps_set (i := 2) nd rfl (.inl rfl) (pe_callB call_len_seq rfl S.f_len (by decide +kernel) (pa_cons (kc_fld (pv 0) S.k_Cleared S.n_Cleared_places rfl) pa_nil))) (pss_cons (ps_set (i := 3) nd rfl (.inl rfl) (kc_call (ca_first_with S) (hr.mono (by decide)) rfl S.g_first_with px0 (pa_cons (kc_fld (pv 0) S.k_Cleared S.n_Cleared_lines rfl) (pa_cons (pv 2) (pa_cons (pv 1) pa_nil))))) (pss_cons (ps_if (pt_cmpR op_isN1 (pv 3) pe_non (nomark _)) (pss_one ps_retN) pss_nil) (pss_cons (ps_for PassesOwn.never rfl (pi_tup (pe_tup (pa_cons (kc_fld (pv 0) S.k_Cleared S.n_Cleared_lines rfl) (pa_cons (kc_fld (pv 0) S.k_Cleared S.n_Cleared_made_of rfl) pa_nil)))) (pg_name (i := 4) nd rfl (.inl rfl)) (pss_one (ps_asg (pe_tup (pa_cons (pe_ix ix_list (pv 4) (pv 3) (fun _ _ => rfl)) (pa_cons (pe_ix ix_list (pv 4) (pv 2) (fun _ _ => rfl)) pa_nil))) (pg_tup rfl (pgs_cons (pg_sub (pv 4) (pv 2) set_list) (pgs_cons (pg_sub (pv 4) (pv 3) set_list) pgs_nil)))))) (pss_cons (ps_set (i := 5) nd rfl (.inr rfl) (kc_meth (kc_fld (pv 0) S.k_Cleared S.n_Cleared_field rfl) S.k_Field S.e_Field_back (ca_Field_back S) (hr.mono (by decide)) px0 (pa_cons (pe_ix ix_list (pe_ix ix_list (kc_fld (pv 0) S.k_Cleared S.n_Cleared_lines rfl) (pv 2) (fun _ _ => rfl)) (pv 1) (fun _ _ => rfl)) pa_nil))) (pss_cons (ps_for PassesOwn.never rfl (pi_tup (pe_tup (pa_cons (kc_fld (pv 0) S.k_Cleared S.n_Cleared_lines rfl) (pa_cons (kc_fld (pv 0) S.k_Cleared S.n_Cleared_made_of rfl) pa_nil)))) (pg_name (i := 4) nd rfl (.inl rfl)) (pss_one (ps_asg (pe_lc (own := [(".0", 6), ("number", 7)]) rfl nd (pi_list (pe_ix ix_list (pv 4) (pv 2) (fun _ _ => rfl))) (blkOk_by (by kernel_rfl)) (fun _ _ _ _ _ => (pg_name (i := 7) nd rfl (.inl rfl))) (fun _ _ _ _ _ => pts_nil) (fun _ _ _ _ _ => (kc_meth (kc_fld (pv 0) S.k_Cleared S.n_Cleared_field rfl) S.k_Field S.e_Field_times (ca_Field_times S) (hr.mono (by decide)) px0 (pa_cons (pv 5) (pa_cons (pv 7) pa_nil))))) (pg_sub (pv 4) (pv 2) set_list)))) (pss_cons (ps_expr (kc_meth (pv 0) S.k_Cleared S.e_Cleared_clear_others (ca_Cleared_clear_others S) (hr.mono (by decide)) px0 (pa_cons (pv 2) (pa_cons (pv 1) pa_nil)))) (pss_one (ps_expr (pe_bm PySem.F.plainAttrs_list PySem.F.slot_list_append PySem.F.type_list_append mt_append (kc_fld (pv 0) S.k_Cleared S.n_Cleared_places rfl) (pa_cons (pv 1) pa_nil)))))))))))), pu_Cleared_clear_at vs H Q E h.2⟩
theorem ca_Cleared_clear_at (S : Su K mg) : Cal P w K mg base (He.fAd K ("Cleared", some "clear_at")) ["self", "place"] 5 [] (sp_Cleared_clear_at K) := by
  obtain ⟨fd, F⟩ := S.c.d.def_ 17 (d := d_Cleared_clear_at) rfl
  exact ⟨⟨fd, ok_Cleared_clear_at S F, [], .nil, FunD.bindsN F fun _ _ _ _ _ _ us hl => match us, hl with | [_, _], _ => rfl⟩, F.kp⟩
theorem sc_Cleared___init__ : FnScope ["self", "field", "table", "width", "place", ".0", "row"] ["self", "field", "table", "width"] (defScope s_Cleared___init__) := ⟨rfl, rfl, rfl, by decide +kernel, rfl, by decide +kernel, by decide +kernel⟩
theorem ok_Cleared___init__ (S : Su K mg) {fd : FuncData} {dvs : List V} (F : FunD K "__init__" "Cleared.__init__" (defArgs s_Cleared___init__) (defBody s_Cleared___init__) (defScope s_Cleared___init__) dvs [] (He.fAd K ("Cleared", some "__init__")) fd) : FnOk P w K mg base (L2.CX P w) 6 (He.fAd K ("Cleared", some "__init__")) fd ["self", "field", "table", "width"] (sp_Cleared___init__ K) :=
  FunD.ok (k := 5) F sc_Cleared___init__ (fun vs H Q E h => h.1) fun cdv A outer s H vs Q E hr h => ⟨t_Cleared___init__ K, PSs.nox (by
    have nd := sc_Cleared___init__.nd
    exact (pss_cons (kc_sfld (pv 0) (pv 1) S.k_Cleared S.n_Cleared_field rfl) (pss_cons (kc_sfld (pv 0) (pe_lc (own := [(".0", 5), ("row", 6)]) rfl nd (pi_list (pv 2)) (blkOk_by (by kernel_rfl)) (fun _ _ _ _ _ => (pg_name (i := 6) nd rfl (.inl rfl))) (fun _ _ _ _ _ => pts_nil) (fun _ _ _ _ _ => (pe_callTy call_list_of rfl S.f_list (by decide +kernel) (pa_cons (pv 6) pa_nil)))) S.k_Cleared S.n_Cleared_lines rfl) (pss_cons (kc_sfld (pv 0) (kc_call (ca_ones S) (hr.mono (by decide)) rfl S.g_ones px0 (pa_cons (pe_callB call_len_seq rfl S.f_len (by decide +kernel) (pa_cons (pv 2) pa_nil)) pa_nil)) S.k_Cleared S.n_Cleared_made_of rfl) (pss_cons (kc_sfld (pv 0) (pe_lst pa_nil) S.k_Cleared S.n_Cleared_places rfl) (pss_one (ps_for PassesOwn.never rfl (pi_range1 rfl S.f_range (pa_cons (pv 3) pa_nil)) (pg_name (i := 4) nd rfl (.inl rfl)) (pss_one (ps_expr (kc_meth (pv 0) S.k_Cleared S.e_Cleared_clear_at (ca_Cleared_clear_at S) (hr.mono (by decide)) px0 (pa_cons (pv 4) pa_nil))))))))))), pu_Cleared___init__ vs H Q E h.2⟩
theorem ca_Cleared___init__ (S : Su K mg) : Cal P w K mg base (He.fAd K ("Cleared", some "__init__")) ["self", "field", "table", "width"] 6 [] (sp_Cleared___init__ K) := by
  obtain ⟨fd, F⟩ := S.c.d.def_ 18 (d := d_Cleared___init__) rfl
  exact ⟨⟨fd, ok_Cleared___init__ S F, [], .nil, FunD.bindsN F fun _ _ _ _ _ _ us hl => match us, hl with | [_, _, _, _], _ => rfl⟩, F.kp⟩
theorem sc_reader : FnScope ["field", "table", "many", "cleared"] ["field", "table", "many"] (defScope s_reader) := ⟨rfl, rfl, rfl, by decide +kernel, rfl, by decide +kernel, by decide +kernel⟩
theorem ok_reader (S : Su K mg) {fd : FuncData} {dvs : List V} (F : FunD K "reader" "reader" (defArgs s_reader) (defBody s_reader) (defScope s_reader) dvs [] (He.fAd K ("reader", none)) fd) : FnOk P w K mg base (L2.CX P w) 8 (He.fAd K ("reader", none)) fd ["field", "table", "many"] (sp_reader K) :=
  FunD.ok (k := 7) F sc_reader (fun vs H Q E h => h.1) fun cdv A outer s H vs Q E hr h => ⟨t_reader K, PSs.nox (by
    have nd := sc_reader.nd
    exact (pss_cons (ps_set (i := 3) nd rfl (.inl rfl) (kc_make S.m_Cleared (ca_Cleared___init__ S) (hr.mono (by decide)) rfl S.g_Cleared px0 (pa_cons (pv 0) (pa_cons (pv 1) (pa_cons (pv 2) pa_nil))))) (pss_cons (ps_if (pt_cmpR op_lt (pe_callB call_len_seq rfl S.f_len (by decide +kernel) (pa_cons (kc_fld (pv 3) S.k_Cleared S.n_Cleared_places rfl) pa_nil)) (pv 2) (nomark _)) (pss_one (ps_ret pe_non)) pss_nil) (pss_one (ps_ret (pe_slice sl_list (kc_fld (pv 3) S.k_Cleared S.n_Cleared_made_of rfl) po_none (po_some (pv 2)))))))), pu_reader vs H Q E h.2⟩
theorem ca_reader (S : Su K mg) : Cal P w K mg base (He.fAd K ("reader", none)) ["field", "table", "many"] 8 [] (sp_reader K) := by
  obtain ⟨fd, F⟩ := S.c.d.def_ 19 (d := d_reader) rfl
  exact ⟨⟨fd, ok_reader S F, [], .nil, FunD.bindsN F fun _ _ _ _ _ _ us hl => match us, hl with | [_, _, _], _ => rfl⟩, F.kp⟩
theorem sc_nought : FnScope ["field", "table", "many", "cleared", "place", "free", "row", "k", ".0"] ["field", "table", "many"] (defScope s_nought) := ⟨rfl, rfl, rfl, by decide +kernel, rfl, by decide +kernel, by decide +kernel⟩
theorem ok_nought (S : Su K mg) {fd : FuncData} {dvs : List V} (F : FunD K "nought" "nought" (defArgs s_nought) (defBody s_nought) (defScope s_nought) dvs [] (He.fAd K ("nought", none)) fd) : FnOk P w K mg base (L2.CX P w) 8 (He.fAd K ("nought", none)) fd ["field", "table", "many"] (sp_nought K) :=
  FunD.ok (k := 7) F sc_nought (fun vs H Q E h => h.1) fun cdv A outer s H vs Q E hr h => ⟨t_nought K, PSs.nox (by
    have nd := sc_nought.nd
    exact (pss_cons (ps_set (i := 3) nd rfl (.inr rfl) (kc_make S.m_Cleared (ca_Cleared___init__ S) (hr.mono (by decide)) rfl S.g_Cleared px0 (pa_cons (pv 0) (pa_cons (pv 1) (pa_cons (pv 2) pa_nil))))) (pss_cons (ps_setLc (own := [(".0", 8), ("place", 4)]) (i := 5) rfl nd rfl rfl (sw_true rfl rfl rfl (by decide +kernel)) (pi_range1 rfl S.f_range (pa_cons (pv 2) pa_nil)) (blkOk_by (by kernel_rfl)) (fun _ _ _ _ _ => (pg_name (i := 4) nd rfl (.inl rfl))) (fun _ _ _ _ _ => (pts_one (pt_cmpR op_notIn_seq (pv 4) (kc_fld (pv 3) S.k_Cleared S.n_Cleared_places rfl) (by rfl)))) (fun _ _ _ _ _ => (pv 4))) (pss_cons (ps_if (pt_cmpR (op_eqD hr.units) (pv 5) (pe_lst pa_nil) (nomark _)) (pss_one (ps_ret pe_non)) pss_nil) (pss_cons (ps_setLc (own := [(".0", 8), ("place", 4)]) (i := 6) rfl nd rfl rfl (sw_true rfl rfl rfl (by decide +kernel)) (pi_range1 rfl S.f_range (pa_cons (pv 2) pa_nil)) (blkOk_by (by kernel_rfl)) (fun _ _ _ _ _ => (pg_name (i := 4) nd rfl (.inl rfl))) (fun _ _ _ _ _ => pts_nil) (fun _ _ _ _ _ => pe_int)) (pss_cons (ps_asg pe_int (pg_sub (pv 6) (pe_ix ix_list (pv 5) pe_int (fun _ _ => rfl)) set_list)) (pss_cons (ps_for PassesOwn.never rfl (pi_enum rfl S.f_enumerate (pa_cons (kc_fld (pv 3) S.k_Cleared S.n_Cleared_places rfl) pa_nil)) (pg_tup rfl (pgs_cons (pg_name (i := 7) nd rfl (.inl rfl)) (pgs_cons (pg_name (i := 4) nd rfl (.inl rfl)) pgs_nil))) (pss_one (ps_asg (kc_meth (pv 0) S.k_Field S.e_Field_minus (ca_Field_minus S) (hr.mono (by decide)) px0 (pa_cons pe_int (pa_cons (pe_ix ix_list (pe_ix ix_list (kc_fld (pv 3) S.k_Cleared S.n_Cleared_lines rfl) (pv 7) (fun _ _ => rfl)) (pe_ix ix_list (pv 5) pe_int (fun _ _ => rfl)) (fun _ _ => rfl)) pa_nil))) (pg_sub (pv 6) (pv 4) set_list)))) (pss_one (ps_ret (pv 6)))))))))), pu_nought vs H Q E h.2⟩
theorem ca_nought (S : Su K mg) : Cal P w K mg base (He.fAd K ("nought", none)) ["field", "table", "many"] 8 [] (sp_nought K) := by
  obtain ⟨fd, F⟩ := S.c.d.def_ 20 (d := d_nought) rfl
  exact ⟨⟨fd, ok_nought S F, [], .nil, FunD.bindsN F fun _ _ _ _ _ _ us hl => match us, hl with | [_, _, _], _ => rfl⟩, F.kp⟩
theorem sc_law_asked : FnScope ["field", "one", "other", "row", "wide", "told", "found", ".0", "thing"] ["field", "one", "other", "row"] (defScope s_law_asked) := ⟨rfl, rfl, rfl, by decide +kernel, rfl, by decide +kernel, by decide +kernel⟩
theorem ok_law_asked (S : Su K mg) {fd : FuncData} {dvs : List V} (F : FunD K "_law_asked" "_law_asked" (defArgs s_law_asked) (defBody s_law_asked) (defScope s_law_asked) dvs [] (He.fAd K ("_law_asked", none)) fd) : FnOk P w K mg base (L2.CX P w) 9 (He.fAd K ("_law_asked", none)) fd ["field", "one", "other", "row"] (sp_law_asked K) :=
  FunD.ok (k := 8) F sc_law_asked (fun vs H Q E h => h.1) fun cdv A outer s H vs Q E hr h => ⟨t_law_asked K, PSs.nox (by
    have nd := sc_law_asked.nd
    exact (pss_cons (ps_set (i := 4) nd rfl (.inl rfl) (pe_callB call_len_seq rfl S.f_len (by decide +kernel) (pa_cons (pe_ix ix_list (pv 2) pe_int (fun _ _ => rfl)) pa_nil))) (pss_cons (ps_set (i := 5) nd rfl (.inl rfl) (pe_lst (pa_cons (kc_call (ca_times_row S) (hr.mono (by decide)) rfl S.g_times_row px0 (pa_cons (pv 0) (pa_cons (pv 1) (pa_cons (pv 3) pa_nil)))) (pa_cons (kc_call (ca_product S) (hr.mono (by decide)) rfl S.g_product px0 (pa_cons (pv 0) (pa_cons (pv 1) (pa_cons (pv 2) pa_nil)))) (pa_cons (kc_call (ca_ones S) (hr.mono (by decide)) rfl S.g_ones px0 (pa_cons (pv 4) pa_nil)) (pa_cons (kc_call (ca_ones S) (hr.mono (by decide)) rfl S.g_ones px0 (pa_cons (pe_callB call_len_seq rfl S.f_len (by decide +kernel) (pa_cons (pv 3) pa_nil)) pa_nil)) pa_nil)))))) (pss_cons (ps_set (i := 6) nd rfl (.inl rfl) (pe_lst (pa_cons (kc_call (ca_reader S) (hr.mono (by decide)) rfl S.g_reader px0 (pa_cons (pv 0) (pa_cons (pv 1) (pa_cons (pe_callB call_len_seq rfl S.f_len (by decide +kernel) (pa_cons (pv 3) pa_nil)) pa_nil)))) (pa_cons (kc_call (ca_nought S) (hr.mono (by decide)) rfl S.g_nought px0 (pa_cons (pv 0) (pa_cons (pv 1) (pa_cons (pe_callB call_len_seq rfl S.f_len (by decide +kernel) (pa_cons (pv 3) pa_nil)) pa_nil)))) (pa_cons (kc_call (ca_reader S) (hr.mono (by decide)) rfl S.g_reader px0 (pa_cons (pv 0) (pa_cons (pv 2) (pa_cons (pv 4) pa_nil)))) pa_nil))))) (pss_one (ps_ret (pe_op op_cat (pv 5) (pe_lc (own := [(".0", 7), ("thing", 8)]) rfl nd (pi_list (pe_op op_cat (pv 6) (pe_lst (pa_cons (kc_call (ca_nought S) (hr.mono (by decide)) rfl S.g_nought px0 (pa_cons (pv 0) (pa_cons (pv 2) (pa_cons (pv 4) pa_nil)))) pa_nil)))) (blkOk_by (by kernel_rfl)) (fun _ _ _ _ _ => (pg_name (i := 8) nd rfl (.inl rfl))) (fun _ _ _ _ _ => (pts_one (pt_cmpR op_notN1 (pv 8) pe_non (nomark _)))) (fun _ _ _ _ _ => (pv 8)))))))))), pu_law_asked vs H Q E h.2⟩
theorem ca_law_asked (S : Su K mg) : Cal P w K mg base (He.fAd K ("_law_asked", none)) ["field", "one", "other", "row"] 9 [] (sp_law_asked K) := by
  obtain ⟨fd, F⟩ := S.c.d.def_ 21 (d := d_law_asked) rfl
  exact ⟨⟨fd, ok_law_asked S F, [], .nil, FunD.bindsN F fun _ _ _ _ _ _ us hl => match us, hl with | [_, _, _, _], _ => rfl⟩, F.kp⟩
theorem sc_law_rows_of : FnScope ["thing"] ["thing"] (defScope s_law_rows_of) := ⟨rfl, rfl, rfl, by decide +kernel, rfl, by decide +kernel, by decide +kernel⟩
theorem ok_law_rows_of (S : Su K mg) {fd : FuncData} {dvs : List V} (F : FunD K "_law_rows_of" "_law_rows_of" (defArgs s_law_rows_of) (defBody s_law_rows_of) (defScope s_law_rows_of) dvs [] (He.fAd K ("_law_rows_of", none)) fd) : FnOk P w K mg base (L2.CX P w) 1 (He.fAd K ("_law_rows_of", none)) fd ["thing"] (sp_law_rows_of K) :=
  FunD.ok (k := 0) F sc_law_rows_of (fun vs H Q E h => h.1) fun cdv A outer s H vs Q E hr h => ⟨t_law_rows_of K, PSs.nox (by
    have nd := sc_law_rows_of.nd
    exact (pss_cons (ps_if (PW.pt (pw_and (pt_cmpR (op_neD hr.units) (pv 0) (pe_lst pa_nil) (nomark _)) (pw_and1 (pt_val (pe_callB kc_isT rfl S.f_isinstance (by decide +kernel) (pa_cons (pe_ix ix_list (pv 0) pe_int (fun _ _ => rfl)) (pa_cons (pe_bltn rfl S.f_list (by decide +kernel) rfl) pa_nil))) (by intro _; rfl))))) (pss_one (ps_ret (pe_callTy call_list_of rfl S.f_list (by decide +kernel) (pa_cons (pv 0) pa_nil)))) pss_nil) (pss_one (ps_ret (pe_lst (pa_cons (pv 0) pa_nil)))))), pu_law_rows_of vs H Q E h.2⟩
theorem ca_law_rows_of (S : Su K mg) : Cal P w K mg base (He.fAd K ("_law_rows_of", none)) ["thing"] 1 [] (sp_law_rows_of K) := by
  obtain ⟨fd, F⟩ := S.c.d.def_ 22 (d := d_law_rows_of) rfl
  exact ⟨⟨fd, ok_law_rows_of S F, [], .nil, FunD.bindsN F fun _ _ _ _ _ _ us hl => match us, hl with | [_], _ => rfl⟩, F.kp⟩
theorem sc_law_copied : FnScope ["told", ".0", "thing", "row"] ["told"] (defScope s_law_copied) := ⟨rfl, rfl, rfl, by decide +kernel, rfl, by decide +kernel, by decide +kernel⟩
theorem ok_law_copied (S : Su K mg) {fd : FuncData} {dvs : List V} (F : FunD K "_law_copied" "_law_copied" (defArgs s_law_copied) (defBody s_law_copied) (defScope s_law_copied) dvs [] (He.fAd K ("_law_copied", none)) fd) : FnOk P w K mg base (L2.CX P w) 2 (He.fAd K ("_law_copied", none)) fd ["told"] (sp_law_copied K) :=
  FunD.ok (k := 1) F sc_law_copied (fun vs H Q E h => h.1) fun cdv A outer s H vs Q E hr h => ⟨t_law_copied K, PSs.nox (by
    have nd := sc_law_copied.nd
    exact (pss_one (ps_ret (pe_lc (own := [(".0", 1), ("thing", 2)]) rfl nd (pi_list (pv 0)) (blkOk_by (by kernel_rfl)) (fun _ _ _ _ _ => (pg_name (i := 2) nd rfl (.inl rfl))) (fun _ _ _ _ _ => pts_nil) (fun _ _ _ _ _ => (pe_lc (own := [(".0", 1), ("row", 3)]) rfl nd (pi_list (kc_call (ca_law_rows_of S) (hr.mono (by decide)) rfl S.g_law_rows_of px0 (pa_cons (pv 2) pa_nil))) (blkOk_by (by kernel_rfl)) (fun _ _ _ _ _ => (pg_name (i := 3) nd rfl (.inl rfl))) (fun _ _ _ _ _ => pts_nil) (fun _ _ _ _ _ => (pe_callTy call_list_of rfl S.f_list (by decide +kernel) (pa_cons (pv 3) pa_nil))))))))), pu_law_copied vs H Q E h.2⟩
theorem ca_law_copied (S : Su K mg) : Cal P w K mg base (He.fAd K ("_law_copied", none)) ["told"] 2 [] (sp_law_copied K) := by
  obtain ⟨fd, F⟩ := S.c.d.def_ 23 (d := d_law_copied) rfl
  exact ⟨⟨fd, ok_law_copied S F, [], .nil, FunD.bindsN F fun _ _ _ _ _ _ us hl => match us, hl with | [_], _ => rfl⟩, F.kp⟩
theorem sc_law_plain_r0 : FnScope ["thing", ".0", "row", "one"] ["thing"] (defScope s_law_plain_r0) := ⟨rfl, rfl, rfl, by decide +kernel, rfl, by decide +kernel, by decide +kernel⟩
theorem ca_law_plain_rF (S : Su K mg) : Cal P w K mg base (He.fAd K ("_law_plain", none)) ["thing"] 1 [] spF := by
  obtain ⟨fd, F⟩ := S.c.d.def_ 24 (d := d_law_plain_r0) rfl
  exact ⟨⟨fd, FnOk.never, [], .nil, FunD.bindsN F fun _ _ _ _ _ _ us hl => match us, hl with | [_], _ => rfl⟩, F.kp⟩
theorem ok_law_plain_r0 (S : Su K mg) {fd : FuncData} {dvs : List V} (F : FunD K "_law_plain" "_law_plain" (defArgs s_law_plain_r0) (defBody s_law_plain_r0) (defScope s_law_plain_r0) dvs [] (He.fAd K ("_law_plain", none)) fd) : FnOk P w K mg base (L2.CX P w) 2 (He.fAd K ("_law_plain", none)) fd ["thing"] (sp_law_plain_r0 K) :=
  FunD.ok (k := 1) F sc_law_plain_r0 (fun vs H Q E h => h.1) fun cdv A outer s H vs Q E hr h => ⟨t_law_plain_r0 K, PSs.nox (by
    have nd := sc_law_plain_r0.nd
    exact (pss_cons (ps_if (pt_not (pt_val (pe_callB kc_isT rfl S.f_isinstance (by decide +kernel) (pa_cons (pv 0) (pa_cons (pe_bltn rfl S.f_list (by decide +kernel) rfl) pa_nil))) (by intro _; rfl))) (pss_one (ps_ret pe_bl)) pss_nil) (pss_cons (ps_if (PW.pt (pw_and (pt_cmpR (op_neD hr.units) (pv 0) (pe_lst pa_nil) (nomark _)) (pw_and1 (pt_val (pe_callB kc_isT rfl S.f_isinstance (by decide +kernel) (pa_cons (pe_ix ix_list (pv 0) pe_int (fun _ _ => rfl)) (pa_cons (pe_bltn rfl S.f_list (by decide +kernel) rfl) pa_nil))) (by intro _; rfl))))) (pss_one (ps_ret (pe_callB (cr_all rfl) rfl S.f_all (by decide +kernel) (pa_cons (pe_lc (own := [(".0", 1), ("row", 2)]) rfl nd (pi_list (pv 0)) (blkOk_by (by kernel_rfl)) (fun _ _ _ _ _ => (pg_name (i := 2) nd rfl (.inl rfl))) (fun _ _ _ _ _ => pts_nil) (fun _ _ _ _ _ => (kc_call (ca_law_plain_rF S) (hr.mono (by decide)) rfl S.g_law_plain px0 (pa_cons (pv 2) pa_nil)))) pa_nil)))) pss_nil) (pss_one (ps_ret (pe_callB (cr_all rfl) rfl S.f_all (by decide +kernel) (pa_cons (pe_lc (own := [(".0", 1), ("one", 3)]) rfl nd (pi_list (pv 0)) (blkOk_by (by kernel_rfl)) (fun _ _ _ _ _ => (pg_name (i := 3) nd rfl (.inl rfl))) (fun _ _ _ _ _ => pts_nil) (fun _ _ _ _ _ => (pe_and (pe_callB kc_isT rfl S.f_isinstance (by decide +kernel) (pa_cons (pv 3) (pa_cons (pe_bltn rfl S.f_int (by decide +kernel) rfl) pa_nil))) (pe_one (pe_not (pe_callB kc_isT rfl S.f_isinstance (by decide +kernel) (pa_cons (pv 3) (pa_cons (pe_bltn rfl S.f_bool (by decide +kernel) rfl) pa_nil)))))))) pa_nil))))))), pu_law_plain_r0 vs H Q E h.2⟩
theorem ca_law_plain_r0 (S : Su K mg) : Cal P w K mg base (He.fAd K ("_law_plain", none)) ["thing"] 2 [] (sp_law_plain_r0 K) := by
  obtain ⟨fd, F⟩ := S.c.d.def_ 24 (d := d_law_plain_r0) rfl
  exact ⟨⟨fd, ok_law_plain_r0 S F, [], .nil, FunD.bindsN F fun _ _ _ _ _ _ us hl => match us, hl with | [_], _ => rfl⟩, F.kp⟩
theorem sc_law_plain : FnScope ["thing", ".0", "row", "one"] ["thing"] (defScope s_law_plain) := ⟨rfl, rfl, rfl, by decide +kernel, rfl, by decide +kernel, by decide +kernel⟩
theorem ok_law_plain (S : Su K mg) {fd : FuncData} {dvs : List V} (F : FunD K "_law_plain" "_law_plain" (defArgs s_law_plain) (defBody s_law_plain) (defScope s_law_plain) dvs [] (He.fAd K ("_law_plain", none)) fd) : FnOk P w K mg base (L2.CX P w) 3 (He.fAd K ("_law_plain", none)) fd ["thing"] (sp_law_plain K) :=
  FunD.ok (k := 2) F sc_law_plain (fun vs H Q E h => h.1) fun cdv A outer s H vs Q E hr h => ⟨t_law_plain K, PSs.nox (by
    have nd := sc_law_plain.nd
    exact (pss_cons (ps_if (pt_not (pt_val (pe_callB kc_isT rfl S.f_isinstance (by decide +kernel) (pa_cons (pv 0) (pa_cons (pe_bltn rfl S.f_list (by decide +kernel) rfl) pa_nil))) (by intro _; rfl))) (pss_one (ps_ret pe_bl)) pss_nil) (pss_cons (ps_if (PW.pt (pw_and (pt_cmpR (op_neD hr.units) (pv 0) (pe_lst pa_nil) (nomark _)) (pw_and1 (pt_val (pe_callB kc_isT rfl S.f_isinstance (by decide +kernel) (pa_cons (pe_ix ix_list (pv 0) pe_int (fun _ _ => rfl)) (pa_cons (pe_bltn rfl S.f_list (by decide +kernel) rfl) pa_nil))) (by intro _; rfl))))) (pss_one (ps_ret (pe_callB (cr_all rfl) rfl S.f_all (by decide +kernel) (pa_cons (pe_lc (own := [(".0", 1), ("row", 2)]) rfl nd (pi_list (pv 0)) (blkOk_by (by kernel_rfl)) (fun _ _ _ _ _ => (pg_name (i := 2) nd rfl (.inl rfl))) (fun _ _ _ _ _ => pts_nil) (fun _ _ _ _ _ => (kc_call (ca_law_plain_r0 S) (hr.mono (by decide)) rfl S.g_law_plain px0 (pa_cons (pv 2) pa_nil)))) pa_nil)))) pss_nil) (pss_one (ps_ret (pe_callB (cr_all rfl) rfl S.f_all (by decide +kernel) (pa_cons (pe_lc (own := [(".0", 1), ("one", 3)]) rfl nd (pi_list (pv 0)) (blkOk_by (by kernel_rfl)) (fun _ _ _ _ _ => (pg_name (i := 3) nd rfl (.inl rfl))) (fun _ _ _ _ _ => pts_nil) (fun _ _ _ _ _ => (pe_and (pe_callB kc_isT rfl S.f_isinstance (by decide +kernel) (pa_cons (pv 3) (pa_cons (pe_bltn rfl S.f_int (by decide +kernel) rfl) pa_nil))) (pe_one (pe_not (pe_callB kc_isT rfl S.f_isinstance (by decide +kernel) (pa_cons (pv 3) (pa_cons (pe_bltn rfl S.f_bool (by decide +kernel) rfl) pa_nil)))))))) pa_nil))))))), pu_law_plain vs H Q E h.2⟩
theorem ca_law_plain (S : Su K mg) : Cal P w K mg base (He.fAd K ("_law_plain", none)) ["thing"] 3 [] (sp_law_plain K) := by
  obtain ⟨fd, F⟩ := S.c.d.def_ 25 (d := d_law_plain) rfl
  exact ⟨⟨fd, ok_law_plain S F, [], .nil, FunD.bindsN F fun _ _ _ _ _ _ us hl => match us, hl with | [_], _ => rfl⟩, F.kp⟩
theorem sc_rank : FnScope ["field", "table"] ["field", "table"] (defScope s_rank) := ⟨rfl, rfl, rfl, by decide +kernel, rfl, by decide +kernel, by decide +kernel⟩
theorem ok_rank (S : Su K mg) {fd : FuncData} {dvs : List V} (F : FunD K "rank" "rank" (defArgs s_rank) (defBody s_rank) (defScope s_rank) dvs [] (He.fAd K ("rank", none)) fd) : FnOk P w K mg base (L2.CX P w) 8 (He.fAd K ("rank", none)) fd ["field", "table"] (sp_rank K) :=
  FunD.ok (k := 7) F sc_rank (fun vs H Q E h => h.1) fun cdv A outer s H vs Q E hr h => ⟨t_rank K, PSs.nox (by
    have nd := sc_rank.nd
    exact (pss_cons (ps_if (pt_cmpR (op_eqD hr.units) (pv 1) (pe_lst pa_nil) (nomark _)) (pss_one (ps_ret pe_int)) pss_nil) (pss_one (ps_ret (pe_callB call_len_seq rfl S.f_len (by decide +kernel) (pa_cons (kc_fld (kc_make S.m_Cleared (ca_Cleared___init__ S) (hr.mono (by decide)) rfl S.g_Cleared px0 (pa_cons (pv 0) (pa_cons (pv 1) (pa_cons (pe_callB call_len_seq rfl S.f_len (by decide +kernel) (pa_cons (pe_ix ix_list (pv 1) pe_int (fun _ _ => rfl)) pa_nil)) pa_nil)))) S.k_Cleared S.n_Cleared_places rfl) pa_nil)))))), pu_rank vs H Q E h.2⟩
theorem ca_rank (S : Su K mg) : Cal P w K mg base (He.fAd K ("rank", none)) ["field", "table"] 8 [] (sp_rank K) := by
  obtain ⟨fd, F⟩ := S.c.d.def_ 26 (d := d_rank) rfl
  exact ⟨⟨fd, ok_rank S F, [], .nil, FunD.bindsN F fun _ _ _ _ _ _ us hl => match us, hl with | [_, _], _ => rfl⟩, F.kp⟩
theorem sc_law_right : FnScope ["source", "prime", "field", "high", "middle", "wide", "one", "other", "row", "line", "kept", "told", "seen", "thing", "lists", "plain", "at", "again", ".0", "k"] ["source"] (defScope s_law_right) := ⟨rfl, rfl, rfl, by decide +kernel, rfl, by decide +kernel, by decide +kernel⟩
theorem ok_law_right (S : Su K mg) {fd : FuncData} {dvs : List V} (F : FunD K "_law_right" "_law_right" (defArgs s_law_right) (defBody s_law_right) (defScope s_law_right) dvs [] (He.fAd K ("_law_right", none)) fd) : FnOk P w K mg base (L2.CX P w) 10 (He.fAd K ("_law_right", none)) fd ["source"] (sp_law_right K) :=
  FunD.ok (k := 9) F sc_law_right (fun vs H Q E h => h.1) fun cdv A outer s H vs Q E hr h => ⟨t_law_right K, PSs.nox (by
    have nd := sc_law_right.nd
    exact (pss_cons (ps_set (i := 1) nd rfl (.inr rfl) (pe_ix ix_list (pe_lst (pa_cons pe_int (pa_cons pe_int (pa_cons pe_int (pa_cons pe_int (pa_cons pe_int (pa_cons pe_int (pa_cons pe_int pa_nil)))))))) (kc_call (ca_law_take S) (hr.mono (by decide)) rfl S.g_law_take px0 (pa_cons (pv 0) (pa_cons pe_int pa_nil))) (fun _ _ => rfl))) (pss_cons (ps_set (i := 2) nd rfl (.inl rfl) (kc_make S.m_Field (ca_Field___init__ S) (hr.mono (by decide)) rfl S.g_Field px0 (pa_cons (pv 1) pa_nil))) (pss_cons (ps_par3 (i := 3) (j := 4) (l := 5) rfl nd rfl rfl rfl (by decide) (by decide) (by decide) rfl rfl rfl (pa_cons (pe_op op_add pe_int (kc_call (ca_law_take S) (hr.mono (by decide)) rfl S.g_law_take px0 (pa_cons (pv 0) (pa_cons pe_int pa_nil)))) (pa_cons (pe_op op_add pe_int (kc_call (ca_law_take S) (hr.mono (by decide)) rfl S.g_law_take px0 (pa_cons (pv 0) (pa_cons pe_int pa_nil)))) (pa_cons (pe_op op_add pe_int (kc_call (ca_law_take S) (hr.mono (by decide)) rfl S.g_law_take px0 (pa_cons (pv 0) (pa_cons pe_int pa_nil)))) pa_nil))) (by rfl)) (pss_cons (ps_set (i := 6) nd rfl (.inl rfl) (kc_call (ca_law_table S) (hr.mono (by decide)) rfl S.g_law_table px0 (pa_cons (pv 0) (pa_cons (pv 3) (pa_cons (pv 4) (pa_cons (pv 1) pa_nil)))))) (pss_cons (ps_set (i := 7) nd rfl (.inl rfl) (kc_call (ca_law_table S) (hr.mono (by decide)) rfl S.g_law_table px0 (pa_cons (pv 0) (pa_cons (pv 4) (pa_cons (pv 5) (pa_cons (pv 1) pa_nil)))))) (pss_cons (ps_setLc (own := [(".0", 18), ("k", 19)]) (i := 8) rfl nd rfl rfl (sw_true rfl rfl rfl (by decide +kernel)) (pi_range1 rfl S.f_range (pa_cons (pv 4) pa_nil)) (blkOk_by (by kernel_rfl)) (fun _ _ _ _ _ => (pg_name (i := 19) nd rfl (.inl rfl))) (fun _ _ _ _ _ => pts_nil) (fun _ _ _ _ _ => (kc_call (ca_law_take S) (hr.mono (by decide)) rfl S.g_law_take px0 (pa_cons (pv 0) (pa_cons (pv 1) pa_nil))))) (pss_cons (ps_set (i := 10) nd rfl (.inl rfl) (pe_lst (pa_cons (pe_lc (own := [(".0", 18), ("line", 9)]) rfl nd (pi_list (pv 6)) (blkOk_by (by kernel_rfl)) (fun _ _ _ _ _ => (pg_name (i := 9) nd rfl (.inl rfl))) (fun _ _ _ _ _ => pts_nil) (fun _ _ _ _ _ => (pe_callTy call_list_of rfl S.f_list (by decide +kernel) (pa_cons (pv 9) pa_nil)))) (pa_cons (pe_lc (own := [(".0", 18), ("line", 9)]) rfl nd (pi_list (pv 7)) (blkOk_by (by kernel_rfl)) (fun _ _ _ _ _ => (pg_name (i := 9) nd rfl (.inl rfl))) (fun _ _ _ _ _ => pts_nil) (fun _ _ _ _ _ => (pe_callTy call_list_of rfl S.f_list (by decide +kernel) (pa_cons (pv 9) pa_nil)))) (pa_cons (pe_callTy call_list_of rfl S.f_list (by decide +kernel) (pa_cons (pv 8) pa_nil)) pa_nil))))) (pss_cons (ps_set (i := 11) nd rfl (.inl rfl) (kc_call (ca_law_asked S) (hr.mono (by decide)) rfl S.g_law_asked px0 (pa_cons (pv 2) (pa_cons (pv 6) (pa_cons (pv 7) (pa_cons (pv 8) pa_nil)))))) (pss_cons (ps_set (i := 12) nd rfl (.inl rfl) (kc_call (ca_law_copied S) (hr.mono (by decide)) rfl S.g_law_copied px0 (pa_cons (pv 11) pa_nil))) (pss_cons (ps_if (PW.pt (pw_or (pt_not (pt_val (pe_callB (cr_all rfl) rfl S.f_all (by decide +kernel) (pa_cons (pe_lc (own := [(".0", 18), ("thing", 13)]) rfl nd (pi_list (pv 11)) (blkOk_by (by kernel_rfl)) (fun _ _ _ _ _ => (pg_name (i := 13) nd rfl (.inl rfl))) (fun _ _ _ _ _ => pts_nil) (fun _ _ _ _ _ => (kc_call (ca_law_plain S) (hr.mono (by decide)) rfl S.g_law_plain px0 (pa_cons (pv 13) pa_nil)))) pa_nil)) (by intro _; rfl))) (pw_or1 (pt_cmpR (op_neD hr.units) (pe_lst (pa_cons (pv 6) (pa_cons (pv 7) (pa_cons (pv 8) pa_nil)))) (pv 10) (nomark _))))) (pss_one (ps_ret pe_bl)) pss_nil) (pss_cons (ps_set (i := 14) nd rfl (.inl rfl) (pe_lst pa_nil)) (pss_cons (ps_for PassesOwn.never rfl (pi_list (pv 11)) (pg_name (i := 13) nd rfl (.inl rfl)) (pss_one (ps_expr (pe_bm PySem.F.plainAttrs_list PySem.F.slot_list_extend PySem.F.type_list_extend mt_extend (pv 14) (pa_cons (kc_call (ca_law_rows_of S) (hr.mono (by decide)) rfl S.g_law_rows_of px0 (pa_cons (pv 13) pa_nil)) pa_nil))))) (pss_cons (ps_setLc (own := [(".0", 18), ("line", 9)]) (i := 15) rfl nd rfl rfl (sw_true rfl rfl rfl (by decide +kernel)) (pi_list (pv 14)) (blkOk_by (by kernel_rfl)) (fun _ _ _ _ _ => (pg_name (i := 9) nd rfl (.inl rfl))) (fun _ _ _ _ _ => pts_nil) (fun _ _ _ _ _ => (pe_callTy call_list_of rfl S.f_list (by decide +kernel) (pa_cons (pv 9) pa_nil)))) (pss_cons (ps_set (i := 16) nd rfl (.inr rfl) (kc_call (ca_law_take S) (hr.mono (by decide)) rfl S.g_law_take px0 (pa_cons (pv 0) (pa_cons (pe_callB call_len_seq rfl S.f_len (by decide +kernel) (pa_cons (pv 14) pa_nil)) pa_nil)))) (pss_cons (ps_expr (pe_bm PySem.F.plainAttrs_list PySem.F.slot_list_append PySem.F.type_list_append mt_append (pe_ix ix_list (pv 14) (pv 16) (fun _ _ => rfl)) (pa_cons (pe_un un_neg pe_int) pa_nil))) (pss_cons (ps_asg (pe_un un_neg pe_int) (pg_sub (pe_ix ix_list (pv 14) (pv 16) (fun _ _ => rfl)) pe_int set_list)) (pss_cons (ps_if (pt_cmpR (op_neD hr.units) (pe_lc (own := [(".0", 18), ("k", 19), ("line", 9)]) rfl nd (pi_enum rfl S.f_enumerate (pa_cons (pv 14) pa_nil)) (blkOk_by (by kernel_rfl)) (fun _ _ _ _ _ => (pg_tup rfl (pgs_cons (pg_name (i := 19) nd rfl (.inl rfl)) (pgs_cons (pg_name (i := 9) nd rfl (.inl rfl)) pgs_nil)))) (fun _ _ _ _ _ => (pts_one (pt_cmpR op_ne (pv 19) (pv 16) (nomark _)))) (fun _ _ _ _ _ => (pv 9))) (pe_lc (own := [(".0", 18), ("k", 19), ("line", 9)]) rfl nd (pi_enum rfl S.f_enumerate (pa_cons (pv 15) pa_nil)) (blkOk_by (by kernel_rfl)) (fun _ _ _ _ _ => (pg_tup rfl (pgs_cons (pg_name (i := 19) nd rfl (.inl rfl)) (pgs_cons (pg_name (i := 9) nd rfl (.inl rfl)) pgs_nil)))) (fun _ _ _ _ _ => (pts_one (pt_cmpR op_ne (pv 19) (pv 16) (nomark _)))) (fun _ _ _ _ _ => (pv 9))) (nomark _)) (pss_one (ps_ret pe_bl)) pss_nil) (pss_cons (ps_set (i := 17) nd rfl (.inl rfl) (kc_call (ca_law_asked S) (hr.mono (by decide)) rfl S.g_law_asked px0 (pa_cons (pv 2) (pa_cons (pv 6) (pa_cons (pv 7) (pa_cons (pv 8) pa_nil)))))) (pss_cons (ps_if (PW.pt (pw_or (pt_cmpR (op_neD hr.units) (pe_lst (pa_cons (pv 6) (pa_cons (pv 7) (pa_cons (pv 8) pa_nil)))) (pv 10) (nomark _)) (pw_or1 (pt_cmpR (op_neD hr.units) (kc_call (ca_law_copied S) (hr.mono (by decide)) rfl S.g_law_copied px0 (pa_cons (pv 17) pa_nil)) (pv 12) (nomark _))))) (pss_one (ps_ret pe_bl)) pss_nil) (pss_cons (ps_for PassesOwn.never rfl (pi_list (pe_op op_cat (pe_op op_cat (pv 6) (pv 7)) (pe_lst (pa_cons (pv 8) pa_nil)))) (pg_name (i := 9) nd rfl (.inl rfl)) (pss_one (ps_asg (pe_op op_mod (pe_op op_add (pe_ix ix_list (pv 9) pe_int (fun _ _ => rfl)) pe_int) (pv 1)) (pg_sub (pv 9) pe_int set_list)))) (pss_one (ps_ret (pe_and (pe_cmpR (op_eqD hr.units) (kc_call (ca_law_copied S) (hr.mono (by decide)) rfl S.g_law_copied px0 (pa_cons (pv 17) pa_nil)) (pv 12) (nomark _)) (pe_one (pe_cmpR op_le (kc_call (ca_rank S) (hr.mono (by decide)) rfl S.g_rank px0 (pa_cons (pv 2) (pa_cons (pe_ix ix_list (pv 10) pe_int (fun _ _ => rfl)) pa_nil))) (pe_callB (call_min2 rfl) rfl S.f_min (by decide +kernel) (pa_cons (pv 3) (pa_cons (pv 4) pa_nil))) (nomark _))))))))))))))))))))))))))), pu_law_right vs H Q E h.2⟩
theorem ca_law_right (S : Su K mg) : Cal P w K mg base (He.fAd K ("_law_right", none)) ["source"] 10 [] (sp_law_right K) := by
  obtain ⟨fd, F⟩ := S.c.d.def_ 27 (d := d_law_right) rfl
  exact ⟨⟨fd, ok_law_right S F, [], .nil, FunD.bindsN F fun _ _ _ _ _ _ us hl => match us, hl with | [_], _ => rfl⟩, F.kp⟩
theorem sc_law_source : FnScope ["cell"] ["cell"] (defScope s_law_source) := ⟨rfl, rfl, rfl, by decide +kernel, rfl, by decide +kernel, by decide +kernel⟩
theorem ok_law_source (S : Su K mg) {fd : FuncData} {dvs : List V} (F : FunD K "_law_source" "_law_source" (defArgs s_law_source) (defBody s_law_source) (defScope s_law_source) dvs [] (He.fAd K ("_law_source", none)) fd) : FnOk P w K mg base (L2.CX P w) 1 (He.fAd K ("_law_source", none)) fd ["cell"] (sp_law_source K) :=
  FunD.ok (k := 0) F sc_law_source (fun vs H Q E h => h.1) fun cdv A outer s H vs Q E hr h => ⟨t_law_source K, PSs.nox (by
    have nd := sc_law_source.nd
    exact (pss_one (ps_ret (pe_lst (pa_cons (pv 0) (pa_cons (pv 0) (pa_cons pe_int pa_nil))))))), pu_law_source vs H Q E h.2⟩
theorem ca_law_source (S : Su K mg) : Cal P w K mg base (He.fAd K ("_law_source", none)) ["cell"] 1 [] (sp_law_source K) := by
  obtain ⟨fd, F⟩ := S.c.d.def_ 28 (d := d_law_source) rfl
  exact ⟨⟨fd, ok_law_source S F, [], .nil, FunD.bindsN F fun _ _ _ _ _ _ us hl => match us, hl with | [_], _ => rfl⟩, F.kp⟩
theorem sc_law : FnScope ["script", "cell"] ["script"] (defScope s_law) := ⟨rfl, rfl, rfl, by decide +kernel, rfl, by decide +kernel, by decide +kernel⟩
theorem ok_law (S : Su K mg) {fd : FuncData} {dvs : List V} (F : FunD K "law" "law" (defArgs s_law) (defBody s_law) (defScope s_law) dvs [] (He.fAd K ("law", none)) fd) : FnOk P w K mg base (L2.CX P w) 11 (He.fAd K ("law", none)) fd ["script"] (sp_law K) :=
  FunD.ok (k := 10) F sc_law (fun vs H Q E h => h.1) fun cdv A outer s H vs Q E hr h => ⟨t_law K, PSs.nox (by
    have nd := sc_law.nd
    exact (pss_cons (ps_for PassesOwn.never rfl (pi_list (pe_slice sl_list (pe_op op_catL (pv 0) (pe_lst (pa_cons pe_int pa_nil))) po_none (po_some pe_int))) (pg_name (i := 1) nd rfl (.inl rfl)) (pss_one (ps_if (pt_not (pt_val (kc_call (ca_law_right S) (hr.mono (by decide)) rfl S.g_law_right px0 (pa_cons (kc_call (ca_law_source S) (hr.mono (by decide)) rfl S.g_law_source px0 (pa_cons (pv 1) pa_nil)) pa_nil)) (by intro _; rfl))) (pss_one (ps_ret pe_bl)) pss_nil))) (pss_one (ps_ret pe_bl)))), pu_law vs H Q E h.2⟩
theorem ca_law (S : Su K mg) : Cal P w K mg base (He.fAd K ("law", none)) ["script"] 11 [] (sp_law K) := by
  obtain ⟨fd, F⟩ := S.c.d.def_ 29 (d := d_law) rfl
  exact ⟨⟨fd, ok_law S F, [], .nil, FunD.bindsN F fun _ _ _ _ _ _ us hl => match us, hl with | [_], _ => rfl⟩, F.kp⟩
end
def nm0 : List Str := ["sum_over",
  "times_row",
  "product",
  "ones",
  "less_row",
  "first_with",
  "Cleared",
  "rank",
  "reader",
  "nought",
  "PostError",
  "NoPrime",
  "NoBack",
  "GREATEST",
  "is_prime",
  "Field",
  "_law_mixed",
  "_law_source",
  "_law_take",
  "_law_table"]
def nm1 : List Str := ["_law_plain",
  "_law_rows_of",
  "_law_asked",
  "_law_copied",
  "_law_right"]
def nm : List Str := nm0 ++ nm1
abbrev R : PySem.W.OpenRow := PySem.W.OpenLaw.row PySem.Challenge.rw_mixposts_k15_tables_told_are_ones_own
abbrev hk : PySem.W.Hook := hookX 5 fa fn fx
def ob (s : PySem.W.SharedT) : AlX := obsXG 5 fa fn fx (HandSHeadRun.getT s)
theorem ob_eq (s : PySem.W.SharedT) : ob s = hk.obs s.abs := obsXG_eq (HandSHeadRun.getT_eq s)
theorem run (w : World) : HandSHeadRun.RunEq R (PySem.W.view R.prog [29]) hk ob 3000 nm w := by
  intro os
  kernel_rfl
theorem facts {P : Program} {w : World} {K : PySem.W.Frag} {h : Heap} {mg : Str → Option Value} {f : Addr} (X : K.In h) (G : h.Ns mainGlobals mg) (hfa : mg ("law" : Str) = some (.ref f)) (c : SaysX fa fn fx K) :
    ∃ fd : FuncData, (∀ (s : Shared) (v : Value), BindsTo s fd ⟨[v], []⟩ [("script", v)]) ∧ ∀ base : Heap, K.In base → base.Ns mainGlobals mg → FnOk P w K mg base CX0 11 f fd ["script"] (sp_law K) := by
  have S : Su K mg := ⟨c, h, X, G⟩
  obtain ⟨fd, F⟩ := c.d.def_ 29 (d := d_law) rfl
  have e := hfa.symm.trans S.g_law
  cases e
  have b := FunD.bindsA (ps := ["script"]) F fun _ _ _ _ _ _ us hl => match us, hl with | [_], _ => rfl
  exact ⟨fd, fun s v => b s [v] rfl, fun base _ _ => Mx.FnOk.to0 (ok_law S F) fun _ _ _ _ _ h => h⟩
end LX
open PySem PySem.W PySem.Calls PyProof.Rows
set_option maxHeartbeats 0 in
theorem PySem.Challenge.cw_mixposts_k15_tables_told_are_ones_own_holds : PySem.Challenge.rw_mixposts_k15_tables_told_are_ones_own.Holds := by
  w_on; o_law
  refine HandSHeadRun.head_any (r := OpenLaw.row PySem.Challenge.rw_mixposts_k15_tables_told_are_ones_own) (q := view (OpenLaw.row PySem.Challenge.rw_mixposts_k15_tables_told_are_ones_own).prog [29]) (H := LX.hk) (ob := LX.ob) (M := 3000) (loose := LX.nm) (d := HandSHeadRun.topDef (OpenLaw.row PySem.Challenge.rw_mixposts_k15_tables_told_are_ones_own).prog 29) (kwd := []) LX.ob_eq
    (by kernel_rfl) (fun s => by kernel_rfl) LX.run (by kernel_rfl) (by kernel_rfl) (by kernel_rfl) (by rfl) (by first | assumption | decide +kernel) (by decide +kernel) ⟨rfl, rfl, rfl, rfl, rfl, by decide +kernel⟩ ?hw ?hc
  case hw => w_witness2
  case hc =>
    refine L2.walk_ofE (l := PySem.Challenge.rw_mixposts_k15_tables_told_are_ones_own) (n := 63) (k := 11) (x := "script") (CX := L2.CX0) rfl (by decide) (by kernel_rfl) ⟨rfl, by decide, by decide⟩ ?F (fun _ _ _ _ z => z)
    case F =>
      intro w mg fa h Y G hmg0
      obtain ⟨K, KX, c⟩ := Y
      have hmg : mg ("law" : PySem.Str) = some (.ref fa) := by
        have e : (HandSHeadRun.topDef (OpenLaw.row PySem.Challenge.rw_mixposts_k15_tables_told_are_ones_own).prog 29).name = ("law" : PySem.Str) := by kernel_rfl
        rw [← e]
        exact hmg0
      obtain ⟨fd, hb, hF⟩ := LX.facts (P := (PySem.Challenge.rw_mixposts_k15_tables_told_are_ones_own).prog) (w := w) KX G hmg c
      exact ⟨K, fd, Mx.sp_law K, KX, hb, fun H a ns hl _ hS => ⟨rfl, a, ns, rfl, hS, hl, fun _ => rfl⟩, hF⟩

