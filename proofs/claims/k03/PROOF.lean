import PyProof.Rows.All
import Wide.All
import OpenK.AllK
import Wide.FinOn
import KE.KStateDown
import HandS.ForMost
import HandS.ForExc
import HandS.Walk
import HandS.Wide
import HandS.WideMore
import HandS.WideBits
import HandS.Defaults
import HandS.CallSlots
import HandS.Flow
import HandS.More
import HandS.Small
import HandS.IsInst
import HandS.ExcIs
import HandS.TryMany
import HandS.TryElse
import HandS.DeepEq
import HandS.Deep
import HandS.Sort
import HandS.SortInts
import HandS.SortKw
import HandS.ListItems
import HandS.DictTup
import HandS.Head0
import HandS.Head1
import HandS.Head2
import HandS.HeadEnd
import HandS.HeadHook1
import HandS.HeadHook2
import PySem.Challenge.RW_mixposts_k03_whole_fields_by_turns
set_option Elab.async false
set_option linter.all false
set_option maxRecDepth 100000
set_option maxHeartbeats 4000000
namespace Mx
open PySem PySem.Spec PyProof.Rows L2

/-! ### heaps -/
theorem same_new {H : Hp} {p : Addr} {o : HO} (h : H p = none) : Same H (upd H p o) := fun b x e => by
  rw [upd_ne (ne_of_none e h)]
  exact e
theorem same_mut {H H' : Hp} {p : Addr} {o : HO} (e : Same H H') (h : H p = none) : Same H (upd H' p o) := fun b x ha => by
  rw [upd_ne (ne_of_none ha h)]
  exact e b x ha
theorem Same.tup {K : PySem.W.Frag} {H H' : Hp} {a : Addr} {xs : List V} (e : Same H H') (h : SqT K H a xs) : SqT K H' a xs := by
  rcases h with (h | ⟨o, h⟩) | h
  · exact .inl (.inl (e _ _ h))
  · exact .inl (.inr ⟨o, e _ _ h⟩)
  · exact .inr h
theorem Same.at {H H' : Hp} {a : Addr} {o : HO} (e : Same H H') (h : H a = some o) : H' a = some o := e a o h
theorem upd_at {H : Hp} {a p : Addr} {o u : HO} (n : H p = none) (h : H a = some o) : upd H p u a = some o := by
  rw [upd_ne (ne_of_none h n)]
  exact h
theorem upd_atN {H : Hp} {a p : Addr} {o u : HO} (n : a ≠ p) (h : H a = some o) : upd H p u a = some o := by
  rw [upd_ne n]
  exact h
theorem sqL_new {K : PySem.W.Frag} {H : Hp} {a : Addr} {xs : List V} : SqL K (upd H a (.lst xs)) a xs := .inl (.inl upd_same)
theorem sqT_new {K : PySem.W.Frag} {H : Hp} {a : Addr} {xs : List V} : SqT K (upd H a (.tup xs)) a xs := .inl (.inl upd_same)
theorem sqL_upd {K : PySem.W.Frag} {H : Hp} {a p : Addr} {u : HO} {xs : List V} (n : H p = none) (h : SqL K H a xs) : SqL K (upd H p u) a xs := (same_new n).seq h
theorem sqT_upd {K : PySem.W.Frag} {H : Hp} {a p : Addr} {u : HO} {xs : List V} (n : H p = none) (h : SqT K H a xs) : SqT K (upd H p u) a xs := Same.tup (same_new n) h

/-! ### operators, by short names -/
abbrev oAdd : R2 := rI0 fun i j => .int (i + j)
abbrev oSub : R2 := rI0 fun i j => .int (i - j)
abbrev oMul : R2 := rI CMul fun i j => .int (i * j)
abbrev oFdv : R2 := rI CDivW fun i j => .int (i / j)
abbrev oMod : R2 := rI (fun _ j => 0 < j) fun i j => .int (i % j)
abbrev oPow : R2 := rI CPow fun i j => .int (i ^ j.toNat)
abbrev oNeg : V → Hp → VK → Prop := rU fun i => .int (-i)
abbrev oAddS : R2 := fun x y H Q => ∃ i j, x = .str i ∧ y = .str j ∧ i.length + j.length ≤ sizeLine ∧ Q (.str (i ++ j)) H
abbrev oLt : R2 := rI0 fun i j => .bl (decide (i < j))
abbrev oLe : R2 := rI0 fun i j => .bl (decide (i ≤ j))
abbrev oGt : R2 := rI0 fun i j => .bl (decide (j < i))
abbrev oGe : R2 := rI0 fun i j => .bl (decide (j ≤ i))
abbrev oInS : R2 := fun x y H Q => ∃ i j, x = .str i ∧ y = .str j ∧ Q (.bl (!(Builtin.Str.occurrences j i 0 j.length 1).isEmpty)) H
abbrev oNotInS : R2 := fun x y H Q => ∃ i j, x = .str i ∧ y = .str j ∧ Q (.bl (!(!(Builtin.Str.occurrences j i 0 j.length 1).isEmpty))) H
abbrev RV := List V → Hp → VK → Prop
abbrev oLen (K : PySem.W.Frag) : RV := fun xs H Q => ∃ p ys, xs = [.ref p] ∧ (SqL K H p ys ∨ SqT K H p ys) ∧ Q (.int ys.length) H
abbrev oLenD : RV := fun xs H Q => ∃ a kvs, xs = [V.ref a] ∧ H a = some (.dK kvs) ∧ Q (.int kvs.length) H
abbrev oMin2 : RV := fun xs H Q => ∃ i j, xs = [.int i, .int j] ∧ Q (.int (if j < i then j else i)) H
abbrev oMax2 : RV := fun xs H Q => ∃ i j, xs = [.int i, .int j] ∧ Q (.int (if j > i then j else i)) H
abbrev oDivmod : RV := fun xs H Q => ∃ i j, xs = [.int i, .int j] ∧ CDivP i j ∧ ∀ p, H p = none → Q (.ref p) (upd H p (.tup [.int (i / j), .int (i % j)]))
abbrev oList (K : PySem.W.Frag) : RV := fun xs H Q => ∃ p ys, xs = [.ref p] ∧ (SqL K H p ys ∨ SqT K H p ys) ∧ ∀ l, H l = none → Q (.ref l) (upd H l (.lst ys))
abbrev oInt1 : RV := fun xs H Q => (∃ i, xs = [.int i] ∧ Q (.int i) H) ∨ ∃ k, xs = [.bl k] ∧ Q (.int (if k then 1 else 0)) H
/-- o.f of an instance of the class at C -/
def xFld (C : Addr) (ta : TE) (f : Str) : TE := fun σ H Q => ta σ H fun x H1 => ∃ a dx fs v, x = .ref a ∧ H1 a = some (.ins C dx fs) ∧ fs.lookup f = some v ∧ Q v H1
theorem kc_fld {X : Cx} {e : Expr} {f : Str} {pos : Pos} {ta : TE} {C : Addr} (he : PE X e ta) (c : Cls X.K C) (n : NoAttr X.K C f) (hb : attributeBase e f X.env (eval e X.env) = eval e X.env) : PE X (.Attribute e f pos) (xFld C ta f) := by
  refine ⟨fun pins s σ H Q I h => ?_⟩
  refine attr_of hb (thn (he.run pins s σ H _ I h) fun u s1 ⟨x, H1, I1, rx, a, dx, fs, v, ex, ea, l, q⟩ => ?_)
  subst ex
  obtain rfl : u = Value.ref a := rx
  exact getattr_ok I1 ea c n l fun u' s2 I2 ru => ⟨v, H1, I2, ru, q⟩
/-- o.f = value -/
def xsFld (C : Addr) (ta tv : TE) (f : Str) : TS := fun D σ H => tv σ H fun y H1 => ta σ H1 fun x H2 => ∃ a dx fs, x = .ref a ∧ H2 a = some (.ins C dx fs) ∧ fs.length < 1000 ∧
  D.nx σ (upd H2 a (.ins C dx (putF f y fs)))
theorem kc_sfld {X : Cx} {o value : Expr} {f : Str} {pos pos' : Pos} {ta tv : TE} {C : Addr} (ha : PE X o ta) (hv : PE X value tv) (c : Cls X.K C) (n : NoAttr X.K C f) (hs : swapsWith value (some (.Attribute o f pos')) pos.line X.env = pure false) : PS X (.Assign [.Attribute o f pos'] value pos) (xsFld C ta tv f) := by
  refine ⟨fun pins s σ H D I h => ?_⟩
  refine plainObj_wpAny_Assign_Attribute (thn (hv.run pins s σ H _ I h) fun u s1 ⟨y, H1, I1, ry, q⟩ => thn (ha.run pins s1 σ H1 _ I1 q) fun ov s2 ⟨x, H2, I2, rx, a, dx, fs, ex, ea, l, q2⟩ => ?_) hs
  subst ex
  obtain rfl : ov = Value.ref a := rx
  exact setattr_ok I2 ea c n l ry fun s3 I3 => ⟨σ, _, I3, q2⟩
/-! ### isinstance of built-in kinds -/
def kinds : List String := ["int", "bool", "str", "list", "tuple", "dict", "NoneType"]
def subK (a b : String) : Bool := a == b || (a == "bool" && b == "int")
theorem kit_kinds : ∀ a ∈ kinds, ∀ b ∈ kinds, kitB a b = some (subK a b) := by decide +kernel
def kindOf (H : Hp) : V → String → Prop
  | .int _, t => t = "int"
  | .bl _, t => t = "bool"
  | .str _, t => t = "str"
  | .non, t => t = "NoneType"
  | .ref a, t => ((∃ xs, H a = some (.lst xs)) ∧ t = "list") ∨ ((∃ xs, H a = some (.tup xs)) ∧ t = "tuple") ∨ ((∃ xs, H a = some (.dK xs)) ∧ t = "dict")
  | _, _ => False
theorem kindOf.ty {K : PySem.W.Frag} {H : Hp} {x : V} {t : String} (h : kindOf H x t) : t ∈ kinds ∧ TyX K H x (.type t) := by
  cases x with
  | int i => cases (show t = "int" from h); exact ⟨by decide, .base (.int i)⟩
  | bl b => cases (show t = "bool" from h); exact ⟨by decide, .base (.bl b)⟩
  | str z => cases (show t = "str" from h); exact ⟨by decide, .base (.str z)⟩
  | non => cases (show t = "NoneType" from h); exact ⟨by decide, .base .non⟩
  | ref a =>
    rcases (show ((∃ xs, H a = some (.lst xs)) ∧ t = "list") ∨ ((∃ xs, H a = some (.tup xs)) ∧ t = "tuple") ∨ ((∃ xs, H a = some (.dK xs)) ∧ t = "dict") from h) with ⟨⟨xs, e⟩, rfl⟩ | ⟨⟨xs, e⟩, rfl⟩ | ⟨⟨xs, e⟩, rfl⟩
    · exact ⟨by decide, .base (.lst e)⟩
    · exact ⟨by decide, .base (.tup e)⟩
    · exact ⟨by decide, .base (.dK e)⟩
  | _ => exact h.elim
/-- isinstance(x, n), n a built-in class -/
def xIsT : RV := fun xs H Q => ∃ x n t, xs = [x, .ty n] ∧ n ∈ kinds ∧ kindOf H x t ∧ Q (.bl (subK t n)) H
theorem kc_isT {X : Cx} : CallR X (.builtin "isinstance") xIsT := by
  intro pins s σ H xs us Q I r h
  obtain ⟨x, n, t, rfl, hn, ht, q⟩ := h
  obtain ⟨h1, h2⟩ := ht.ty (K := X.K)
  exact call_isi pins s σ H _ us Q I r ⟨x, .ty n, .type t, .type n, subK t n, rfl, .ty n, h2, kit_ty (kit_kinds t h1 n hn), q⟩
/-- isinstance(e, c), e the exception that a suite holds -/
def xIsE (K : PySem.W.Frag) (cls : Value) (d : Option Addr) (a : Addr) : RV := fun xs H Q => ∃ D, cls = .ref D ∧ d = none ∧ ExcC K D ∧ rIsE K D a xs H Q
theorem kc_isE {X : Cx} {a : Addr} {cls : Value} {d : Option Addr} {oe : Obj} {pn : List (Addr × Obj)} (hz : Zc cls d oe) (hf : ∃ vs, oe.data = .fields vs) : CallR (X.suite a ((a, oe) :: pn)) (.builtin "isinstance") (xIsE X.K cls d a) := by
  intro pins s σ H xs us Q I r h
  obtain ⟨D, rfl, rfl, C, h⟩ := h
  exact call_isE C hz hf pins s σ H xs us Q I r h
/-- raise X('..') -/
def xRaise (C : Addr) (E : XK) : TS := fun _ _ H => E (.ref C) none H

/-! ### callable defs -/
/-- the def at f may be called: its promise sp, at most k levels, dvs the defaults that fill up -/
structure Cal (P : Program) (w : World) (K : PySem.W.Frag) (mg : Str → Option Value) (base : Heap) (f : Addr) (ps : List Str) (k : Nat) (dvs : List V) (sp : Sp) : Prop where
  ex : ∃ fd, FnOk P w K mg base (L2.CX P w) k f fd ps sp ∧ ∃ ds, Vals dvs ds ∧ Binds K fd ps ds
  kp : PySem.W.keepIn K (.ref f) = true
theorem Cal.mono {P : Program} {w : World} {K : PySem.W.Frag} {mg : Str → Option Value} {base : Heap} {f : Addr} {ps : List Str} {j k : Nat} {dvs : List V} {sp : Sp} (c : Cal P w K mg base f ps j dvs sp) (h : j ≤ k) : Cal P w K mg base f ps k dvs sp := by
  obtain ⟨⟨fd, F, r⟩, kp⟩ := c
  exact ⟨⟨fd, F.mono h, r⟩, kp⟩
/-- no exception leaves here -/
theorem px0 {X : Cx} (σ : L2.St) : PassesAt (L2.CX X.prog X.w) X σ E0 := fun pins H s e s' I c => passL pins σ H s e s' I c
/-- it reaches the def's own way out -/
theorem pxE {X : Cx} {E : XK} (tk : Takes X (fun cls d _ H => E cls d H)) (σ : L2.St) : PassesAt (L2.CX X.prog X.w) X σ E := passAt (W := fun cls d _ H => E cls d H) tk σ
section
variable {X : Cx} {k : Nat} {f C : Addr} {ps : List Str} {sp : Sp} {dvs : List V} {E : L2.St → XK} {x m : Str} {p pos apos : Pos} {e o : Expr} {es : List Expr} {ta : TE} {t : TA}
theorem kc_call (c : Cal X.prog X.w X.K X.mg X.base f ps k dvs sp) (hr : Room k X.A) (hg : Gl X x) (hm : X.mg x = some (.ref f)) (hx : ∀ σ, PassesAt (L2.CX X.prog X.w) X σ (E σ)) (ha : PA X (e :: es) t)
    (hdb : (x == ("__debug__" : Str)) = false := by decide) (he : starEach (e :: es) X.env = (false, eval e X.env) :: starEach es X.env := by rfl) (hpl : (backTo pos (starEach es X.env)).any (·.1) = false := by rfl) :
    PE X (.Call (.Name x p) (e :: es) [] pos) (tCallSD sp dvs E t) := by
  obtain ⟨⟨fd, F, ds, hd, hb⟩, kp⟩ := c
  exact pe_callSD F hr hg hm kp hb hd hx ha hdb he hpl
theorem kc_call0 (c : Cal X.prog X.w X.K X.mg X.base f ps k dvs sp) (hr : Room k X.A) (hg : Gl X x) (hm : X.mg x = some (.ref f)) (hx : ∀ σ, PassesAt (L2.CX X.prog X.w) X σ (E σ))
    (hdb : (x == ("__debug__" : Str)) = false := by decide) : PE X (.Call (.Name x p) [] [] pos) (tCallSD sp dvs E tNil) := by
  obtain ⟨⟨fd, F, ds, hd, hb⟩, kp⟩ := c
  refine ⟨fun pins s σ H Q I h => ?_⟩
  refine wpAny_Call_Name_kw (ld_glob I hg hm ?_ hdb)
  exact PySem.W.callWith_K0 I.kIn kp (run_fnSD (us := []) F hr hb hd (hx σ) I .nil h)
/-- o.m(..) -/
def xMeth (C : Addr) (m : Str) (sp : Sp) (dvs : List V) (E : L2.St → XK) (ta : TE) (t : TA) : TE := fun σ H Q => ta σ H fun x H1 => ∃ a dx fs, x = .ref a ∧ H1 a = some (.ins C dx fs) ∧ fs.lookup m = none ∧ t σ H1 fun vs H2 => sp (x :: (vs ++ dvs)) H2 Q (E σ)
theorem kc_meth {pl : Sem Bool} (he : PE X o ta) (cl : Cls X.K C) (hm : Meth X.K C m f) (c : Cal X.prog X.w X.K X.mg X.base f ps k dvs sp) (hr : Room k X.A) (hx : ∀ σ, PassesAt (L2.CX X.prog X.w) X σ (E σ)) (ha : PA X (e :: es) t)
    (hst : starEach (e :: es) X.env = (false, eval e X.env) :: starEach es X.env := by rfl) (hpl : (backTo pos (starEach es X.env)).any (·.1) = false := by rfl)
    (ht : eval (.Call (.Attribute o m apos) (e :: es) [] pos) X.env = (do
      let ov ← eval o X.env
      standAt apos.atName
      let (f, first) ← holding [ov] (getMethod ov m pl)
      callWith pos f first (backTo pos (starEach (e :: es) X.env)) (backToKw pos (keywordEach [] X.env))) := by rfl) :
    PE X (.Call (.Attribute o m apos) (e :: es) [] pos) (xMeth C m sp dvs E ta t) := by
  obtain ⟨⟨fd, F, ds, hd, hb⟩, kp⟩ := c
  refine ⟨fun pins s σ H Q I h => ?_⟩
  refine PySem.W.methodCall_KW (pl := pl) (thn (he.run pins s σ H _ I h) fun u s1 ⟨x, H1, I1, rx, a, dx, fs, ex, ea, l, q⟩ => ?_) ht
  subst ex
  obtain rfl : u = Value.ref a := rx
  refine getmeth_ok I1 ea cl hm l ?_
  refine PySem.W.callWith_K (first := [.ref a]) (h₀ := X.base) I.ok.mod.kin hm.kp (thn (ha.run pos pins s1 σ H1 _ I1 q) fun us s2 ⟨vs, H2, I2, r, q2⟩ => ⟨I2.kIn, ?_⟩) hst hpl
  exact run_fnSD (us := .ref a :: us) (vs := .ref a :: vs) F hr hb hd (hx σ) I2 (.cons rfl r) q2
theorem kc_meth0 {pl : Sem Bool} (he : PE X o ta) (cl : Cls X.K C) (hm : Meth X.K C m f) (c : Cal X.prog X.w X.K X.mg X.base f ps k dvs sp) (hr : Room k X.A) (hx : ∀ σ, PassesAt (L2.CX X.prog X.w) X σ (E σ))
    (ht : eval (.Call (.Attribute o m apos) [] [] pos) X.env = (do
      let ov ← eval o X.env
      standAt apos.atName
      let (f, first) ← holding [ov] (getMethod ov m pl)
      callWith pos f first (backTo pos (starEach [] X.env)) (backToKw pos (keywordEach [] X.env))) := by rfl) :
    PE X (.Call (.Attribute o m apos) [] [] pos) (xMeth C m sp dvs E ta tNil) := by
  obtain ⟨⟨fd, F, ds, hd, hb⟩, kp⟩ := c
  refine ⟨fun pins s σ H Q I h => ?_⟩
  refine PySem.W.methodCall_KW (pl := pl) (thn (he.run pins s σ H _ I h) fun u s1 ⟨x, H1, I1, rx, a, dx, fs, ex, ea, l, q⟩ => ?_) ht
  subst ex
  obtain rfl : u = Value.ref a := rx
  refine getmeth_ok I1 ea cl hm l ?_
  exact PySem.W.callWith_K0 (first := [.ref a]) I1.kIn hm.kp (run_fnSD (us := [.ref a]) (vs := [.ref a]) F hr hb hd (hx σ) I1 (.cons rfl .nil) q)
/-- C(..) -/
def xMake (C : Addr) (sp : Sp) (dvs : List V) (E : L2.St → XK) (t : TA) : TE := fun σ H Q => t σ H fun vs H1 => ∀ x dx, H1 x = none → H1 dx = none → dx ≠ x →
  sp (.ref x :: (vs ++ dvs)) (upd (upd H1 dx (.own x)) x (.ins C dx [])) (fun v H2 => v = .non ∧ Q (.ref x) H2) (E σ)
theorem kc_runmake {pins : List (Addr × Obj)} {σ : L2.St} {H : Hp} {s : Shared} {Q : VK} {us : List Value} {vs : List V} {fd : FuncData} {ds : List Value} (M : Mk X.K C f) (F : FnOk X.prog X.w X.K X.mg X.base (L2.CX X.prog X.w) k f fd ps sp) (hr : Room (k + 1) X.A) (hb : Binds X.K fd ps ds) (hd : Vals dvs ds)
    (hx : PassesAt (L2.CX X.prog X.w) X σ (E σ)) (I : Inv X pins σ H s) (r : Vals vs us)
    (h : ∀ x dx, H x = none → H dx = none → dx ≠ x → sp (.ref x :: (vs ++ dvs)) (upd (upd H dx (.own x)) x (.ins C dx [])) (fun v H2 => v = .non ∧ Q (.ref x) H2) (E σ)) :
    wpAny (model X.prog X.w) X.A (call (.ref C) us) (EP X pins σ Q) X.xe s := by
  have hq := h (s.heap.objs.size + 1) s.heap.objs.size (I.hok.fresh (Nat.le_succ _)) (I.hok.fresh (Nat.le_refl _)) (Nat.ne_of_lt (Nat.lt_succ_self _))
  have I2 := Inv.made (C := C) I
  have r2 : Vals (V.ref (s.heap.objs.size + 1) :: (vs ++ dvs)) (Value.ref (s.heap.objs.size + 1) :: (us ++ ds)) := .cons rfl (r.append hd)
  have hl : (Value.ref (s.heap.objs.size + 1) :: us ++ ds).length = ps.length := by
    have e := r2.length
    rw [F.len _ _ _ _ hq] at e
    exact e.symm
  refine wpAny_call (make_map (f := f) I.kIn M.makes M.init (beq_iff_eq.mp M.fn) (codeAny_mono (F.run _ X.stack _ _ ⟨Value.ref (s.heap.objs.size + 1) :: us, []⟩ (Value.ref (s.heap.objs.size + 1) :: (us ++ ds)) _ _ (E σ) (hr.make C us [])
    (I2.env0.make C us []) (hb _ (Value.ref (s.heap.objs.size + 1) :: us) I2.kIn hl) r2 hq) fun r s' hq' => ?_))
  cases r with
  | error e => exact hx pins _ _ e s' I2 hq'
  | ok fl =>
    cases fl with
    | ret u =>
      obtain ⟨v, H', I3, rv, ev, q3⟩ := I2.after hq'
      subst ev
      exact ⟨rv, ⟨V.ref (s.heap.objs.size + 1), H', I3, rfl, q3⟩⟩
    | next => exact False.elim hq'
    | brk => exact False.elim hq'
    | cont => exact False.elim hq'
theorem kc_make (M : Mk X.K C f) (c : Cal X.prog X.w X.K X.mg X.base f ps k dvs sp) (hr : Room (k + 1) X.A) (hg : Gl X x) (hm : X.mg x = some (.ref C)) (hx : ∀ σ, PassesAt (L2.CX X.prog X.w) X σ (E σ)) (ha : PA X (e :: es) t)
    (hdb : (x == ("__debug__" : Str)) = false := by decide) (he : starEach (e :: es) X.env = (false, eval e X.env) :: starEach es X.env := by rfl) (hpl : (backTo pos (starEach es X.env)).any (·.1) = false := by rfl) :
    PE X (.Call (.Name x p) (e :: es) [] pos) (xMake C sp dvs E t) := by
  obtain ⟨⟨fd, F, ds, hd, hb⟩, kp⟩ := c
  refine ⟨fun pins s σ H Q I h => ?_⟩
  refine wpAny_Call_Name_kw (ld_glob I hg hm ?_ hdb)
  refine PySem.W.callWith_K (h₀ := X.base) I.ok.mod.kin M.kp (thn (ha.run pos pins s σ H _ I h) fun us s1 ⟨vs, H1, I1, r, q⟩ => ⟨I1.kIn, ?_⟩) he hpl
  exact kc_runmake M F hr hb hd (hx σ) I1 r q
theorem kc_make0 (M : Mk X.K C f) (c : Cal X.prog X.w X.K X.mg X.base f ps k dvs sp) (hr : Room (k + 1) X.A) (hg : Gl X x) (hm : X.mg x = some (.ref C)) (hx : ∀ σ, PassesAt (L2.CX X.prog X.w) X σ (E σ))
    (hdb : (x == ("__debug__" : Str)) = false := by decide) : PE X (.Call (.Name x p) [] [] pos) (xMake C sp dvs E tNil) := by
  obtain ⟨⟨fd, F, ds, hd, hb⟩, kp⟩ := c
  refine ⟨fun pins s σ H Q I h => ?_⟩
  refine wpAny_Call_Name_kw (ld_glob I hg hm ?_ hdb)
  exact PySem.W.callWith_K0 I.kIn M.kp (kc_runmake (us := []) M F hr hb hd (hx σ) I .nil h)
end

/-! ### tests -/
theorem iteD {p A B : Prop} [Decidable p] (h1 : p → A) (h2 : ¬ p → B) : if decide p = true then A else B := by
  by_cases h : p
  · rw [if_pos (decide_eq_true h)]; exact h1 h
  · rw [if_neg (fun z => h (of_decide_eq_true z))]; exact h2 h
theorem iteN {p A B : Prop} [Decidable p] (h1 : ¬ p → A) (h2 : p → B) : if (!decide p) = true then A else B := by
  by_cases h : p
  · rw [decide_eq_true h]; exact iteF (h2 h)
  · rw [decide_eq_false h]; exact iteT (h1 h)
theorem iteEq {i j : Int} {A B : Prop} (h1 : i = j → A) (h2 : ¬ i = j → B) : if decide (V.int i = V.int j) = true then A else B :=
  iteD (fun z => h1 (V.int.inj z)) fun z => h2 fun y => z (by rw [y])
theorem iteNe {i j : Int} {A B : Prop} (h1 : ¬ i = j → A) (h2 : i = j → B) : if (!decide (V.int i = V.int j)) = true then A else B :=
  iteN (fun z => h1 fun y => z (by rw [y])) fun z => h2 (V.int.inj z)
theorem iteEqS {i j : Str} {A B : Prop} (h1 : i = j → A) (h2 : ¬ i = j → B) : if decide (V.str i = V.str j) = true then A else B :=
  iteD (fun z => h1 (V.str.inj z)) fun z => h2 fun y => z (by rw [y])
theorem iteNeS {i j : Str} {A B : Prop} (h1 : ¬ i = j → A) (h2 : i = j → B) : if (!decide (V.str i = V.str j)) = true then A else B :=
  iteN (fun z => h1 fun y => z (by rw [y])) fun z => h2 (V.str.inj z)
theorem iteB {b : Bool} {A B : Prop} (h1 : b = true → A) (h2 : b = false → B) : if b = true then A else B := by
  cases b with
  | true => exact iteT (h1 rfl)
  | false => exact iteF (h2 rfl)
theorem iteNB {b : Bool} {A B : Prop} (h1 : b = false → A) (h2 : b = true → B) : if (!b) = true then A else B := by
  cases b with
  | true => exact iteF (h2 rfl)
  | false => exact iteT (h1 rfl)
/-- where the stepping is to stop -/
structure Here (p : Prop) : Prop where
  h : p
/-! ### loops -/
section
variable {J : It} {n : Nat} {G : Hp → Prop} {tb : TS} {D : Ends} {σ : L2.St} {H : Hp} {K : PySem.W.Frag}
/-- a for with one name (slot a) over a walk -/
theorem loop1 {Y : Nat → Hp → V → Hp → Prop} (w : Walk J n G Y) (a : Nat) (Pv : Nat → L2.St → Hp → Prop) (h0 : Pv 0 σ H) (hG : ∀ i σ H, i ≤ n → Pv i σ H → G H)
    (hs : ∀ i x σ H H', i < n → Pv i σ H → Y i H x H' → tb { D with nx := fun σ H => Here (Pv (i + 1) σ H), ct := fun σ H => Here (Pv (i + 1) σ H), bk := D.nx } (σ.set a (some x)) H') (hd : ∀ σ H, Pv n σ H → D.nx σ H) :
    ∃ W : Nat → Nat → L2.St → Hp → Prop, (∃ m, W 0 m σ H) ∧ ∀ i m σ H, W i m σ H →
      (J.stop i H ∧ D.nx σ H) ∨ (J.go i H ∧ ∃ N : L2.St → Hp → Prop, (∀ σ' H', N σ' H' → ∃ m', m' < m ∧ W (i + 1) m' σ' H') ∧ ∀ x H', J.yld i H x H' → gName a x σ H' fun σ2 H2 => tb { D with nx := N, ct := N, bk := D.nx } σ2 H2) := by
  refine for_it w (fun i σ H => Here (Pv i σ H)) ⟨h0⟩ (fun i σ H hi h => hG i σ H hi h.h) (fun i x σ H H' hi p y => hs i x σ H H' hi p.h y) fun σ H h => hd σ H h.h
/-- a for with two names over a walk of new pairs -/
theorem loop2 {xs ys : Nat → Option V} (w : Walk J n G (YPair xs ys)) (a b : Nat) (Pv : Nat → L2.St → Hp → Prop) (h0 : Pv 0 σ H) (hG : ∀ i σ H, i ≤ n → Pv i σ H → G H)
    (hs : ∀ i x y σ H H', i < n → Pv i σ H → xs i = some x → ys i = some y → Same H H' → tb { D with nx := fun σ H => Here (Pv (i + 1) σ H), ct := fun σ H => Here (Pv (i + 1) σ H), bk := D.nx } ((σ.set a (some x)).set b (some y)) H') (hd : ∀ σ H, Pv n σ H → D.nx σ H) :
    ∃ W : Nat → Nat → L2.St → Hp → Prop, (∃ m, W 0 m σ H) ∧ ∀ i m σ H, W i m σ H →
      (J.stop i H ∧ D.nx σ H) ∨ (J.go i H ∧ ∃ N : L2.St → Hp → Prop, (∀ σ' H', N σ' H' → ∃ m', m' < m ∧ W (i + 1) m' σ' H') ∧ ∀ x H', J.yld i H x H' → gTup K 2 (gCons (gName a) (gCons (gName b) gNil)) x σ H' fun σ2 H2 => tb { D with nx := N, ct := N, bk := D.nx } σ2 H2) :=
  for_it w (fun i σ H => Here (Pv i σ H)) ⟨h0⟩ (fun i σ H hi h => hG i σ H hi h.h) (fun i x σ H H' hi p q => by
    obtain ⟨T, x1, y1, rfl, nT, rfl, e1, e2⟩ := q
    exact ⟨T, [x1, y1], rfl, .inl (.inl upd_same), rfl, x1, [y1], rfl, y1, [], rfl, rfl, hs i x1 y1 σ H _ hi p.h e1 e2 (same_new nT)⟩) fun σ H h => hd σ H h.h
/-- a for with any target -/
theorem loopG {g : TG} {Y : Nat → Hp → V → Hp → Prop} (w : Walk J n G Y) (Pv : Nat → L2.St → Hp → Prop) (h0 : Pv 0 σ H) (hG : ∀ i σ H, i ≤ n → Pv i σ H → G H)
    (hs : ∀ i x σ H H', i < n → Pv i σ H → Y i H x H' → g x σ H' fun σ2 H2 => tb { D with nx := fun σ H => Here (Pv (i + 1) σ H), ct := fun σ H => Here (Pv (i + 1) σ H), bk := D.nx } σ2 H2) (hd : ∀ σ H, Pv n σ H → D.nx σ H) :
    ∃ W : Nat → Nat → L2.St → Hp → Prop, (∃ m, W 0 m σ H) ∧ ∀ i m σ H, W i m σ H →
      (J.stop i H ∧ D.nx σ H) ∨ (J.go i H ∧ ∃ N : L2.St → Hp → Prop, (∀ σ' H', N σ' H' → ∃ m', m' < m ∧ W (i + 1) m' σ' H') ∧ ∀ x H', J.yld i H x H' → g x σ H' fun σ2 H2 => tb { D with nx := N, ct := N, bk := D.nx } σ2 H2) := by
  refine for_it w (fun i σ H => Here (Pv i σ H)) ⟨h0⟩ (fun i σ H hi h => hG i σ H hi h.h) (fun i x σ H H' hi p y => hs i x σ H H' hi p.h y) fun σ H h => hd σ H h.h
/-- while, by a word and a measure -/
theorem loopW {c : TT} (W : Nat → L2.St → Hp → Prop) (m0 : Nat) (h0 : W m0 σ H)
    (hs : ∀ m σ H, W m σ H → c σ H fun b H1 => if b = true then ∃ N : L2.St → Hp → Prop, (∀ σ' H', N σ' H' → ∃ m', m' < m ∧ W m' σ' H') ∧ tb { D with nx := N, ct := N, bk := D.nx } σ H1 else D.nx σ H1) : tWhile c tb D σ H :=
  ⟨W, ⟨m0, h0⟩, hs⟩
/-- a turn's end: the word at a smaller measure -/
theorem turnW {W : Nat → L2.St → Hp → Prop} {m : Nat} {σ : L2.St} {H : Hp} (h : tb { D with nx := fun σ2 H2 => Here (∃ m', m' < m ∧ W m' σ2 H2), ct := fun σ2 H2 => Here (∃ m', m' < m ∧ W m' σ2 H2), bk := D.nx } σ H) :
    ∃ N : L2.St → Hp → Prop, (∀ σ' H', N σ' H' → ∃ m', m' < m ∧ W m' σ' H') ∧ tb { D with nx := N, ct := N, bk := D.nx } σ H := ⟨_, fun _ _ z => z.h, h⟩

/-- the goal of a comprehension's reading behind its source -/
abbrev LcGoal (J : It) (g : TG) (tt : TT) (te : TE) (vs : List Nat) (σ : L2.St) (H1 : Hp) (Q : Addr → Hp → Prop) : Prop := ∀ D, H1 D = none → ∃ W : Nat → Nat → Hp → Prop, (∃ m, W 0 m (upd H1 D (.lst []))) ∧ ∀ i m H, W i m H →
  (J.stop i H ∧ Q D H) ∨ (J.go i H ∧ ∃ Nx : Hp → Prop, (∀ H', Nx H' → ∃ m', m' < m ∧ W (i + 1) m' H') ∧ ∀ x H', J.yld i H x H' → g x (wipe σ vs) H' fun σ2 H2 => wipe σ2 vs = wipe σ vs ∧ tt σ2 H2 fun b H3 =>
    if b = true then te σ2 H3 fun y H4 => ∃ acc, H4 D = some (.lst acc) ∧ acc.length < sizeLine ∧ Nx (upd H4 D (.lst (acc ++ [y]))) else Nx H3)
/-- what is given: v i for the turns of f, in order -/
def givn {α : Type} (f : Nat → Bool) (v : Nat → α) : Nat → List α
  | 0 => []
  | n + 1 => if f n = true then givn f v n ++ [v n] else givn f v n
theorem givn_len {α : Type} {f : Nat → Bool} {v : Nat → α} : ∀ n, (givn f v n).length ≤ n
  | 0 => Nat.le_refl 0
  | n + 1 => by
    have h := givn_len (f := f) (v := v) n
    unfold givn
    split
    · rw [List.length_append]; show _ + 1 ≤ _; omega
    · omega
theorem givn_map {α β : Type} (f : Nat → Bool) (v : Nat → α) (h : α → β) : ∀ n, (givn f v n).map h = givn f (fun i => h (v i)) n
  | 0 => rfl
  | n + 1 => by
    unfold givn
    split
    · rw [List.map_append, givn_map f v h n]; rfl
    · exact givn_map f v h n
/-- over a list: its filter, mapped -/
theorem givn_list {α β : Type} (xs : List α) (p : α → Bool) (g : α → β) (f : Nat → Bool) (v : Nat → β) (hf : ∀ i x, xs[i]? = some x → f i = p x) (hv : ∀ i x, xs[i]? = some x → v i = g x) :
    ∀ n, n ≤ xs.length → givn f v n = ((xs.take n).filter p).map g
  | 0, _ => by simp [givn]
  | n + 1, hn => by
    have h1 : n < xs.length := by omega
    have e : xs[n]? = some xs[n] := List.getElem?_eq_getElem h1
    have ih := givn_list xs p g f v hf hv n (by omega)
    unfold givn
    rw [ih, hf n _ e, hv n _ e, List.take_succ_eq_append_getElem h1, List.filter_append, List.map_append]
    cases hp : p xs[n] with
    | true => simp [hp]
    | false => simp [hp]
theorem givn_all {α : Type} (v : Nat → α) : ∀ n, givn (fun _ => true) v n = (List.range n).map v
  | 0 => rfl
  | n + 1 => by
    unfold givn
    rw [givn_all v n, List.range_succ, List.map_append]
    rfl
theorem givn_listA {α β : Type} (xs : List α) (g : α → β) (v : Nat → β) (hv : ∀ i x, xs[i]? = some x → v i = g x) : givn (fun _ => true) v xs.length = xs.map g := by
  rw [givn_list xs (fun _ => true) g (fun _ => true) v (fun _ _ _ => rfl) hv xs.length (Nat.le_refl _), List.take_length, List.filter_eq_self.mpr (fun _ _ => rfl)]
theorem upd_some_ne {H : Hp} {D b : Addr} {o u : HO} (hb : b ≠ D) (e : H b = some o) : upd H D u b = some o := by rw [upd_ne hb]; exact e
/-- a comprehension whose elements are values told ahead: v i at the turns of f -/
theorem lcF {Y : Nat → Hp → V → Hp → Prop} {te : TE} {vs : List Nat} {Q : Addr → Hp → Prop} {g : TG} {tt : TT} (w : Walk J n G Y) (f : Nat → Bool) (v : Nat → V)
    (hn : n < sizeLine) (hG : ∀ H', Same H H' → G H')
    (hs : ∀ i x H1 H' (F : VK) (F' : Hp → Prop), i < n → Same H H1 → Y i H1 x H' → (f i = true → ∀ H4, Same H1 H4 → F (v i) H4) → (f i = false → ∀ H4, Same H1 H4 → F' H4) →
      g x (wipe σ vs) H' fun σ2 H2 => wipe σ2 vs = wipe σ vs ∧ tt σ2 H2 fun b H3 => if b = true then te σ2 H3 F else F' H3)
    (hq : ∀ p H', H p = none → Same H H' → H' p = some (.lst (givn f v n)) → Q p H') : LcGoal J g tt te vs σ H Q := by
  intro D hD
  refine lc_it w (fun i H' => Same H H' ∧ H' D = some (.lst (givn f v i))) ⟨same_new hD, upd_same⟩ (fun i H' _ h => hG H' h.1) ?_ (fun H' h => hq D H' hD h.1 h.2)
  rintro i x H1 H' hi ⟨e1, e2⟩ y
  have hz : (givn f v i).length < sizeLine := Nat.lt_of_le_of_lt (givn_len i) (by omega)
  refine hs i x H1 H' _ _ hi e1 y (fun hf H4 e4 => ⟨givn f v i, e4 _ _ e2, hz, fun b o ha => ?_, ?_⟩) (fun hf H4 e4 => ⟨e1.trans e4, ?_⟩)
  · exact upd_some_ne (ne_of_none ha hD) ((e1.trans e4) b o ha)
  · rw [upd_same]
    show _ = some (HO.lst (if f i = true then _ else _))
    rw [if_pos hf]
  · rw [e4 _ _ e2]
    show _ = some (HO.lst (if f i = true then _ else _))
    rw [if_neg (by rw [hf]; exact Bool.false_ne_true)]
/-- the same without a test -/
theorem lcA {Y : Nat → Hp → V → Hp → Prop} {te : TE} {vs : List Nat} {Q : Addr → Hp → Prop} {g : TG} (w : Walk J n G Y) (v : Nat → V)
    (hn : n < sizeLine) (hG : ∀ H', Same H H' → G H')
    (hs : ∀ i x H1 H' (F : VK), i < n → Same H H1 → Y i H1 x H' → (∀ H4, Same H1 H4 → F (v i) H4) →
      g x (wipe σ vs) H' fun σ2 H2 => wipe σ2 vs = wipe σ vs ∧ te σ2 H2 F)
    (hq : ∀ p H', H p = none → Same H H' → H' p = some (.lst (givn (fun _ => true) v n)) → Q p H') : LcGoal J g tYes te vs σ H Q :=
  lcF w (fun _ => true) v hn hG (fun i x H1 H' F F' hi e1 y h1 h2 => hs i x H1 H' F hi e1 y (h1 rfl)) hq
/-- a comprehension without a test; what is told of each element holds where the new list grows -/
theorem lcH {Y : Nat → Hp → V → Hp → Prop} {te : TE} {vs : List Nat} {Q : Addr → Hp → Prop} {g : TG} (w : Walk J n G Y) (R : Nat → V → Hp → Prop)
    (hR : ∀ i v H1 H2 D xs, (∀ b o, b ≠ D → H1 b = some o → H2 b = some o) → H1 D = some (.lst xs) → R i v H1 → R i v H2) (hn : n < sizeLine) (hG : ∀ H', Same H H' → G H')
    (hs : ∀ i x H1 H' (F : VK), i < n → Same H H1 → Y i H1 x H' → (∀ v H4, Same H1 H4 → R i v H4 → F v H4) →
      g x (wipe σ vs) H' fun σ2 H2 => wipe σ2 vs = wipe σ vs ∧ te σ2 H2 F)
    (hq : ∀ p H' ys, H p = none → Same H H' → H' p = some (.lst ys) → ys.length = n → (∀ i v, ys[i]? = some v → R i v H') → Q p H') : LcGoal J g tYes te vs σ H Q := by
  intro D hD
  refine lc_it w (fun i H' => Same H H' ∧ ∃ ys, H' D = some (.lst ys) ∧ ys.length = i ∧ ∀ j v, ys[j]? = some v → R j v H') ⟨same_new hD, [], upd_same, rfl, fun j v e => by simp at e⟩ (fun i H' _ h => hG H' h.1) ?_ ?_
  · rintro i x H1 H' hi ⟨e1, ys, eD, hl, hr⟩ y
    refine hs i x H1 H' _ hi e1 y fun v H4 e4 r4 => ?_
    refine ⟨ys, e4 _ _ eD, by omega, fun b o ha => upd_some_ne (ne_of_none ha hD) ((e1.trans e4) b o ha), ys ++ [v], upd_same, by rw [List.length_append, hl]; rfl, fun j u e => ?_⟩
    by_cases hj : j < ys.length
    · rw [List.getElem?_append_left hj] at e
      refine hR j u H1 _ D ys (fun b o hb q => upd_some_ne hb (e4 b o q)) eD (hr j u e)
    · have hj2 : j = i := by
        have := (List.getElem?_eq_some_iff.mp e).1
        rw [List.length_append] at this
        have : [v].length = 1 := rfl
        omega
      subst hj2
      rw [← hl, List.getElem?_concat_length] at e
      cases e
      exact hR j v H4 _ D ys (fun b o hb q => upd_some_ne hb q) (e4 _ _ eD) r4
  · rintro H' ⟨e1, ys, eD, hl, hr⟩
    exact hq D H' ys hD e1 eD hl hr
end

/-! ### more facts of the head -/
inductive Fx where
  | excC (x : Str)
  | kitR (x y : Str) (b : Bool)
  | kitT (x : Str) (n : String) (b : Bool)
  | exm (x y : Str) (b : Bool)
def Fx.ok (K : PySem.W.Frag) : Fx → Bool
  | .excC x => He.eqO (PySem.W.findIn K (.ref (He.ga K x)) "__getattribute__") (some (some (.builtin "BaseException.__getattribute__"))) && (He.eqO (PySem.W.findIn K (.ref (He.ga K x)) "__getattr__") (some none) && (decide (PySem.W.subIn K (.ref (He.ga K x)) (.type "BaseException") = some true) && (PySem.W.hasDictIn K (He.ga K x) &&
      (He.eqO (PySem.W.findIn K (.ref (He.ga K x)) "__class__") (some (some (.builtin "object.__class__"))) && (He.eqO (PySem.W.specialIn K (.builtin "object.__class__") "__get__") (some (some (.builtin "getset_descriptor.__get__"))) && (decide (PySem.W.takesIn K (.builtin "object.__class__") = some true) && decide (PySem.W.mroIn K (He.ga K x) (.type "object") = some true)))))))
  | .kitR x y b => decide (PySem.W.kitOne K (.ref (He.ga K x)) (.ref (He.ga K y)) = some b)
  | .kitT x n b => decide (PySem.W.kitOne K (.ref (He.ga K x)) (.type n) = some b)
  | .exm x y b => decide (PySem.W.exmOne K (.ref (He.ga K x)) (.ref (He.ga K y)) = some b)
theorem Fx.excC_ok {K : PySem.W.Frag} {x : Str} (c : (Fx.excC x).ok K = true) : ExcC K (He.ga K x) := by
  obtain ⟨c1, c⟩ := He.ba c
  obtain ⟨c2, c⟩ := He.ba c
  obtain ⟨c3, c⟩ := He.ba c
  obtain ⟨c4, c⟩ := He.ba c
  obtain ⟨c5, c⟩ := He.ba c
  obtain ⟨c6, c⟩ := He.ba c
  obtain ⟨c7, c8⟩ := He.ba c
  exact ⟨He.eqO_ok c1, He.eqO_ok c2, of_decide_eq_true c3, c4, He.eqO_ok c5, He.eqO_ok c6, of_decide_eq_true c7, of_decide_eq_true c8⟩
theorem Fx.kitR_ok {K : PySem.W.Frag} {x y : Str} {b : Bool} (c : (Fx.kitR x y b).ok K = true) : PySem.W.kitOne K (.ref (He.ga K x)) (.ref (He.ga K y)) = some b := of_decide_eq_true c
theorem Fx.kitT_ok {K : PySem.W.Frag} {x : Str} {n : String} {b : Bool} (c : (Fx.kitT x n b).ok K = true) : PySem.W.kitOne K (.ref (He.ga K x)) (.type n) = some b := of_decide_eq_true c
theorem Fx.exm_ok {K : PySem.W.Frag} {x y : Str} {b : Bool} (c : (Fx.exm x y b).ok K = true) : PySem.W.exmOne K (.ref (He.ga K x)) (.ref (He.ga K y)) = some b := of_decide_eq_true c
abbrev AlX : Type := He.AlD × Bool
def obsX (fa : List He.Fa) (fn : List He.DefD) (fx : List Fx) (K : PySem.W.Frag) : AlX := (He.obsD fa fn K, fx.all fun f => f.ok K)
def valX (fn : List He.DefD) : AlX := (He.valD fn, true)
def SaysX (fa : List He.Fa) (fn : List He.DefD) (fx : List Fx) (K : PySem.W.Frag) : Prop := obsX fa fn fx K = valX fn
theorem SaysX.d {fa : List He.Fa} {fn : List He.DefD} {fx : List Fx} {K : PySem.W.Frag} (c : SaysX fa fn fx K) : He.SaysD fa fn K := congrArg (fun z : AlX => z.1) c
theorem SaysX.x {fa : List He.Fa} {fn : List He.DefD} {fx : List Fx} {K : PySem.W.Frag} (c : SaysX fa fn fx K) (i : Nat) {f : Fx} (h : fx[i]? = some f := by rfl) : f.ok K = true :=
  List.all_eq_true.mp (show (fx.all fun f => f.ok K) = true from congrArg (fun z : AlX => z.2) c) f (List.mem_of_getElem? h)
def obsXG (n : Nat) (fa : List He.Fa) (fn : List He.DefD) (fx : List Fx) (g : Addr → Option Obj) : AlX := obsX fa fn fx (He.frG g (He.asD g n))
def hookX (n : Nat) (fa : List He.Fa) (fn : List He.DefD) (fx : List Fx) : PySem.W.Hook where
  α := AlX
  obs := fun s => obsXG n fa fn fx s.heap.get?
  val := fun _ => valX fn
  says := fun _ h => ∃ K : PySem.W.Frag, K.In h ∧ SaysX fa fn fx K
  of := fun _ _ e => ⟨_, He.frG_in, e⟩
  keeps := fun _ _ _ ⟨K, hK, c⟩ k => ⟨K, PySem.W.Frag.In.keeps hK k, c⟩
theorem obsXG_eq {n : Nat} {fa : List He.Fa} {fn : List He.DefD} {fx : List Fx} {g : Addr → Option Obj} {s : Shared} (h : ∀ a, g a = s.heap.get? a) : obsXG n fa fn fx g = (hookX n fa fn fx).obs s := by
  have e : g = s.heap.get? := funext h
  rw [e] <;> rfl

/-- a def that asks nothing of exceptions lets none out -/
theorem FnOk.to0 {P : Program} {w : World} {K : PySem.W.Frag} {mg : Str → Option Value} {base : Heap} {k : Nat} {f : Addr} {fd : FuncData} {ps : List Str} {sp : Sp} (F : FnOk P w K mg base (L2.CX P w) k f fd ps sp) (h : ∀ vs H Q E E', sp vs H Q E → sp vs H Q E') : FnOk P w K mg base CX0 k f fd ps sp :=
  ⟨F.len, fun A outer s H args us vs Q E hr e0 hb hv hs => codeAny_mono (F.run A outer s H args us vs Q E0 hr e0 hb hv (h _ _ _ _ _ hs)) fun r s' q => by
    cases r with
    | ok fl =>
      cases fl with
      | ret u => exact q
      | next => exact q
      | brk => exact q
      | cont => exact q
    | error e =>
      obtain ⟨_, _, _, _, _, _, _, _, _, _, _, _, z⟩ := (show L2.CX P w outer H s E0 e s' from q)
      exact z.elim⟩
end Mx

set_option Elab.async false
set_option maxRecDepth 100000
set_option maxHeartbeats 4000000
namespace Nt
/-! numbers of a prime: plain mathematics -/
/-- no number from 2 on whose square is not above it divides it -/
def isPr (n : Int) : Bool := decide (2 ≤ n) && (List.range n.toNat).all fun d => decide (d < 2) || decide (n < (d : Int) * d) || decide (n % (d : Int) ≠ 0)
theorem isPr_iff {n : Int} : isPr n = true ↔ 2 ≤ n ∧ ∀ d : Int, 2 ≤ d → d * d ≤ n → n % d ≠ 0 := by
  unfold isPr
  rw [Bool.and_eq_true, decide_eq_true_eq, List.all_eq_true]
  constructor
  · rintro ⟨h2, h⟩
    refine ⟨h2, fun d hd hq => ?_⟩
    have hdn : d ≤ d * d := by
      have : 1 * d ≤ d * d := Int.mul_le_mul_of_nonneg_right (by omega) (by omega)
      omega
    have hlt : d < n := by
      have : 2 * d ≤ d * d := Int.mul_le_mul_of_nonneg_right (by omega) (by omega)
      omega
    have q := h d.toNat (List.mem_range.mpr (by omega))
    have e : (d.toNat : Int) = d := Int.toNat_of_nonneg (by omega)
    rw [e] at q
    simp only [Bool.or_eq_true, decide_eq_true_eq] at q
    rcases q with (q | q) | q
    · omega
    · omega
    · exact q
  · rintro ⟨h2, h⟩
    refine ⟨h2, fun d _ => ?_⟩
    simp only [Bool.or_eq_true, decide_eq_true_eq]
    by_cases h1 : d < 2
    · exact .inl (.inl h1)
    · by_cases h3 : n < (d : Int) * d
      · exact .inl (.inr h3)
      · exact .inr (h d (by omega) (by omega))
theorem isPr_false {n d : Int} (h2 : 2 ≤ d) (h : d * d ≤ n) (h0 : n % d = 0) : isPr n = false := by
  cases e : isPr n with
  | false => rfl
  | true => exact absurd h0 ((isPr_iff.mp e).2 d h2 h)
theorem isPr_small {n : Int} (h : n < 2) : isPr n = false := by
  cases e : isPr n with
  | false => rfl
  | true => exact absurd (isPr_iff.mp e).1 (by omega)
theorem isPr_pos {p : Int} (h : isPr p = true) : 2 ≤ p := (isPr_iff.mp h).1
/-- a prime's divisors -/
theorem pr_dvd {p d : Int} (h : isPr p = true) (h1 : 1 ≤ d) (hd : p % d = 0) : d = 1 ∨ d = p := by
  obtain ⟨h2, hp⟩ := isPr_iff.mp h
  by_cases e1 : d = 1
  · exact .inl e1
  · right
    obtain ⟨k, hk⟩ : ∃ k, p = d * k := Int.dvd_of_emod_eq_zero hd
    have hk0 : 0 < k := by
      rcases Int.lt_trichotomy k 0 with h' | h' | h'
      · have : d * k < 0 := Int.mul_neg_of_pos_of_neg (by omega) h'
        omega
      · rw [h', Int.mul_zero] at hk; omega
      · exact h'
    by_cases hq : d * d ≤ p
    · exact absurd hd (hp d (by omega) hq)
    · have hkd : k < d := by
        by_cases h' : k < d
        · exact h'
        · have : d * d ≤ d * k := Int.mul_le_mul_of_nonneg_left (by omega) (by omega)
          omega
      by_cases k1 : k = 1
      · rw [k1, Int.mul_one] at hk; exact hk.symm
      · have hkk : k * k ≤ p := by
          have : k * k ≤ d * k := Int.mul_le_mul_of_nonneg_right (by omega) (by omega)
          omega
        have : p % k = 0 := Int.emod_eq_zero_of_dvd ⟨d, by rw [hk, Int.mul_comm]⟩
        exact absurd this (hp k (by omega) hkk)
/-- the number that makes 1 with n -/
def inv (p n : Int) : Int := (((List.range p.toNat).find? fun b : Nat => decide ((b : Int) * n % p = 1)).getD 0 : Nat)
theorem inv_range {p n : Int} (hp : 0 < p) : 0 ≤ inv p n ∧ inv p n < p := by
  unfold inv
  cases e : (List.range p.toNat).find? fun b : Nat => decide ((b : Int) * n % p = 1) with
  | none => simp; omega
  | some b =>
    have := List.mem_range.mp (List.mem_of_find?_eq_some e)
    simp only [Option.getD_some]
    omega
theorem inv_of {p n b : Int} (h0 : 0 ≤ b) (hb : b < p) (h : b * n % p = 1) : inv p n * n % p = 1 ∧ b = inv p n := by
  have hp : 0 < p := by omega
  have key : ∀ c : Int, 0 ≤ c → c < p → c * n % p = 1 → c = b := fun c c0 cb hc => by
    -- c = c * (b n) = b * (c n) = b
    have e1 : (c * n * b) % p = b % p := by rw [Int.mul_emod, hc, Int.one_mul, Int.emod_emod]
    have e2 : (b * n * c) % p = c % p := by rw [Int.mul_emod, h, Int.one_mul, Int.emod_emod]
    have e3 : c * n * b = b * n * c := by rw [Int.mul_comm (c * n) b, Int.mul_comm c n, ← Int.mul_assoc]
    rw [e3, e2, Int.emod_eq_of_lt c0 cb, Int.emod_eq_of_lt h0 hb] at e1
    exact e1
  have hex : ∃ b' ∈ List.range p.toNat, (fun b : Nat => decide ((b : Int) * n % p = 1)) b' = true := ⟨b.toNat, List.mem_range.mpr (by omega), by
    show decide (((b.toNat : Nat) : Int) * n % p = 1) = true
    rw [Int.toNat_of_nonneg h0]; exact decide_eq_true h⟩
  cases e : (List.range p.toNat).find? fun b : Nat => decide ((b : Int) * n % p = 1) with
  | none =>
    obtain ⟨b', m, t⟩ := hex
    exact absurd t (by simpa using List.find?_eq_none.mp e b' m)
  | some c =>
    have hc : inv p n = (c : Int) := by unfold inv; rw [e]; rfl
    have c1 : (c : Int) * n % p = 1 := of_decide_eq_true (List.find?_some (p := fun b : Nat => decide ((b : Int) * n % p = 1)) e)
    have c2 := List.mem_range.mp (List.mem_of_find?_eq_some e)
    rw [hc]
    exact ⟨c1, (key c (by omega) (by omega) c1).symm⟩
/-! ### primes by a common divisor with 1000! -/
def fac : Nat → Nat
  | 0 => 1
  | n + 1 => (n + 1) * fac n
theorem dvd_fac : ∀ {n d : Nat}, 1 ≤ d → d ≤ n → d ∣ fac n
  | 0, d, h1, h2 => by omega
  | n + 1, d, h1, h2 => by
    by_cases e : d = n + 1
    · exact ⟨fac n, by rw [e]; rfl⟩
    · obtain ⟨k, hk⟩ := dvd_fac (n := n) h1 (by omega)
      exact ⟨(n + 1) * k, by show (n + 1) * fac n = _; rw [hk, Nat.mul_left_comm]⟩
theorem pr_of_gcd {n : Nat} (h2 : 2 ≤ n) (hn : n ≤ 1000000) (h : Nat.gcd n (fac 1000) = 1) : isPr (n : Int) = true := by
  refine isPr_iff.mpr ⟨by omega, fun d hd hq h0 => ?_⟩
  have hd1000 : d ≤ 1000 := by
    by_cases h' : d ≤ 1000
    · exact h'
    · have : (1001 : Int) * 1001 ≤ d * d := Int.mul_le_mul (by omega) (by omega) (by omega) (by omega)
      omega
  have e : (d.toNat : Int) = d := Int.toNat_of_nonneg (by omega)
  have hdn : d.toNat ∣ n := by
    have : (d.toNat : Int) ∣ (n : Int) := by rw [e]; exact Int.dvd_of_emod_eq_zero h0
    exact Int.natCast_dvd_natCast.mp this
  have := Nat.dvd_gcd hdn (dvd_fac (n := 1000) (d := d.toNat) (by omega) (by omega))
  rw [h] at this
  have := Nat.le_of_dvd (by decide) this
  omega
/-- 1000! -/
def F : Nat := 402387260077093773543702433923003985719374864210714632543799910429938512398629020592044208486969404800479988610197196058631666872994808558901323829669944590997424504087073759918823627727188732519779505950995276120874975462497043601418278094646496291056393887437886487337119181045825783647849977012476632889835955735432513185323958463075557409114262417474349347553428646576611667797396668820291207379143853719588249808126867838374559731746136085379534524221586593201928090878297308431392844403281231558611036976801357304216168747609675871348312025478589320767169132448426236131412508780208000261683151027341827977704784635868170164365024153691398281264810213092761244896359928705114964975419909342221566832572080821333186116811553615836546984046708975602900950537616475847728421889679646244945160765353408198901385442487984959953319101723355556602139450399736280750137837615307127761926849034352625200015888535147331611702103968175921510907788019393178114194545257223865541461062892187960223838971476088506276862967146674697562911234082439208160153780889893964518263243671616762179168909779911903754031274622289988005195444414282012187361745992642956581746628302955570299024324153181617210465832036786906117260158783520751516284225540265170483304226143974286933061690897968482590125458327168226458066526769958652682272807075781391858178889652208164348344825993266043367660176999612831860788386150279465955131156552036093988180612138558600301435694527224206344631797460594682573103790084024432438465657245014402821885252470935190620929023136493273497565513958720559654228749774011413346962715422845862377387538230483865688976461927383814900140767310446640259899490222221765904339901886018566526485061799702356193897017860040811889729918311021171229845901641921068884387121855646124960798722908519296819372388642614839657382291123125024186649353143970137428531926649875337218940694281434118520158014123344828015051399694290153483077644569099073152433278288269864602789864321139083506217095002597389863554277196742822248757586765752344220207573630569498825087968928162753848863396909959826280956121450994871701244516461260379029309120889086942028510640182154399457156805941872748998094254742173582401063677404595741785160829230135358081840096996372524230560855903700624271243416909004153690105933983835777939410970027753472000000000000000000000000000000000000000000000000000000000000000000000000000000000000000000000000000000000000000000000000000000000000000000000000000000000000000000000000000000000000000000000000000000000000000000000000000000000000000000000000000000000
theorem F_eq : F = fac 1000 := by decide +kernel
/-- one of 100 j + 1, 100 j + 3, .. below 100 j + 2 k that has no common divisor with it -/
def some1 (j : Nat) : Nat → Bool
  | 0 => false
  | k + 1 => bif Nat.beq (Nat.gcd (100 * j + (2 * k + 1)) F) 1 then true else some1 j k
theorem some1_ok {j : Nat} : ∀ {k : Nat}, some1 j k = true → ∃ o, o < 2 * k ∧ Nat.gcd (100 * j + o) (fac 1000) = 1
  | 0, h => by cases h
  | k + 1, h => by
    cases e : Nat.beq (Nat.gcd (100 * j + (2 * k + 1)) F) 1 with
    | true =>
      refine ⟨2 * k + 1, by omega, ?_⟩
      rw [← F_eq]
      exact Nat.eq_of_beq_eq_true e
    | false =>
      have q : (bif Nat.beq (Nat.gcd (100 * j + (2 * k + 1)) F) 1 then true else some1 j k) = true := h
      rw [e] at q
      obtain ⟨o, h1, h2⟩ := some1_ok (k := k) q
      exact ⟨o, by omega, h2⟩
def all1 : Nat → Nat → Bool
  | 0, j => Nat.ble j 9 || (Nat.ble 9992 j || some1 j 50)
  | d + 1, j => all1 d (2 * j) && all1 d (2 * j + 1)
theorem all1_ok : ∀ {d j : Nat}, all1 d j = true → ∀ i, j * 2 ^ d ≤ i → i < (j + 1) * 2 ^ d → 10 ≤ i → i ≤ 9991 → some1 i 50 = true
  | 0, j, h, i, h1, h2, h3, h4 => by
    have e : i = j := by simp at h1 h2; omega
    subst e
    have q : (Nat.ble i 9 || (Nat.ble 9992 i || some1 i 50)) = true := h
    rw [Bool.or_eq_true, Bool.or_eq_true] at q
    rcases q with q | q | q
    · have := Nat.le_of_ble_eq_true q; omega
    · have := Nat.le_of_ble_eq_true q; omega
    · exact q
  | d + 1, j, h, i, h1, h2, h3, h4 => by
    obtain ⟨a, b⟩ := Bool.and_eq_true_iff.mp (show (all1 d (2 * j) && all1 d (2 * j + 1)) = true from h)
    have e1 : j * 2 ^ (d + 1) = (2 * j) * 2 ^ d := by rw [Nat.pow_succ, Nat.mul_comm 2 j, Nat.mul_assoc, Nat.mul_comm 2]
    have e2 : (j + 1) * 2 ^ (d + 1) = (2 * j + 1 + 1) * 2 ^ d := by rw [Nat.pow_succ, show 2 * j + 1 + 1 = 2 * (j + 1) by omega, Nat.mul_comm 2 (j + 1), Nat.mul_assoc, Nat.mul_comm 2]
    rw [e1] at h1
    rw [e2] at h2
    by_cases c : i < (2 * j + 1) * 2 ^ d
    · exact all1_ok a i h1 c h3 h4
    · exact all1_ok b i (by omega) h2 h3 h4
theorem all1_run : all1 14 0 = true := by decide +kernel
theorem few_run : ([199, 397, 593, 787, 983] : List Int).all isPr = true := by decide +kernel
theorem gap (n : Int) (h2 : 2 ≤ n) (hn : n ≤ 999001) : ∃ k : Nat, k < 200 ∧ isPr (n + (k : Nat)) = true := by
  have few : ∀ q : Int, q ∈ ([199, 397, 593, 787, 983] : List Int) → n ≤ q → q < n + 200 → ∃ k : Nat, k < 200 ∧ isPr (n + (k : Nat)) = true := fun q hq a b => by
    have := List.all_eq_true.mp few_run q hq
    refine ⟨(q - n).toNat, by omega, ?_⟩
    have e : n + ((q - n).toNat : Int) = q := by omega
    rw [e]; exact this
  by_cases a1 : n ≤ 199
  · exact few 199 (by simp) a1 (by omega)
  by_cases a2 : n ≤ 397
  · exact few 397 (by simp) a2 (by omega)
  by_cases a3 : n ≤ 593
  · exact few 593 (by simp) a3 (by omega)
  by_cases a4 : n ≤ 787
  · exact few 787 (by simp) a4 (by omega)
  by_cases a5 : n ≤ 983
  · exact few 983 (by simp) a5 (by omega)
  have e : (n.toNat : Int) = n := Int.toNat_of_nonneg (by omega)
  generalize hm : n.toNat = m at *
  have hj : 10 ≤ m / 100 + 1 ∧ m / 100 + 1 ≤ 9991 := by omega
  have h14 : (0 + 1) * 2 ^ 14 = 16384 := by decide
  obtain ⟨o, ho, hg⟩ := some1_ok (k := 50) (all1_ok (d := 14) (j := 0) all1_run (m / 100 + 1) (by simp) (by omega) hj.1 hj.2)
  refine ⟨100 * (m / 100 + 1) + o - m, by omega, ?_⟩
  have e2 : n + ((100 * (m / 100 + 1) + o - m : Nat) : Int) = ((100 * (m / 100 + 1) + o : Nat) : Int) := by omega
  rw [e2]
  exact pr_of_gcd (by omega) (by omega) hg
theorem some_run : ([2, 3, 5, 7, 11, 13, 17, 19, 23, 29, 31, 37, 41, 43, 47, 53, 59, 61, 67, 71, 97, 101, 257] : List Int).all isPr = true := by decide +kernel
theorem big_run : isPr 999983 = true := pr_of_gcd (n := 999983) (by decide) (by decide) (by rw [← F_eq]; decide +kernel)
/-! ### Euclid -/
theorem euc_step {p n left right one other : Int} (h1 : (one * n - left) % p = 0) (h2 : (other * n - right) % p = 0) : ((one - left / right * other) * n - left % right) % p = 0 := by
  have e : (one - left / right * other) * n - left % right = (one * n - left) - left / right * (other * n - right) := by
    have q := Int.mul_ediv_add_emod left right
    have q2 : left / right * right = left - left % right := by rw [Int.mul_comm]; omega
    rw [Int.sub_mul, Int.mul_sub, Int.mul_assoc, q2]
    omega
  rw [e]
  have d1 := Int.dvd_of_emod_eq_zero h1
  have d2 := Int.dvd_of_emod_eq_zero h2
  exact Int.emod_eq_zero_of_dvd (Int.dvd_sub d1 (Int.dvd_mul_of_dvd_right d2))
end Nt

set_option Elab.async false
set_option linter.all false
set_option maxRecDepth 100000
set_option maxHeartbeats 4000000
namespace Mx
open PySem PySem.Spec PyProof.Rows L2 Nt
local macro_rules | `(tactic| walk_at "side") => `(tactic| first
  | assumption
  | rfl
  | exact upd_same
  | exact sqL_new
  | exact ⟨_, sqL_new⟩
  | exact ⟨_, by assumption⟩
  | exact sqT_new
  | exact sqL_upd (by assumption) (by assumption)
  | (refine upd_at ?_ ?_ <;> assumption)
  | omega
  | exact Nat.le_of_ble_eq_true rfl
  | decide)
local macro_rules | `(tactic| walk_at "go1") => `(tactic| first
  | (fail_if_success (show ∃ W : Nat → Nat → L2.St → Hp → Prop, _)
     fail_if_success (show ∃ W : Nat → L2.St → Hp → Prop, _)
     fail_if_success (show ∃ W : L2.St → Hp → Prop, _)
     apply Exists.intro)
  | (refine And.intro ?_ ?_; (walk_at "side")))
local macro_rules | `(tactic| walk_at "nrm") => `(tactic| dsimp only [tSeq, tAsg, tC, gName, tNext, tIfS, tRet, tDrop, tTest, tB, L2.start, List.map, List.length, List.replicate, List.cons_append, List.nil_append, List.set_cons_zero, List.set_cons_succ])
local macro_rules | `(tactic| walk_at "go") => `(tactic| repeat (walk_at "go1"))
/-! ### is_prime -/
def sp_is_prime (K : PySem.W.Frag) : Sp := fun vs H Q _ => vs.length = 1 ∧ ∃ n, vs = [.int n] ∧ n < 2 ^ 60 ∧ Q (.bl (isPr n)) H
def t_is_prime_1 (K : PySem.W.Frag) : TS := (tSeq (tIfS (tTest (tOp rEq (tOp oMod (tVar 0) (tVar 1)) (tC (.int 0)))) (tRet (tC (.bl false))) tNext) (tAug 1 (tC (.int 1)) (ipI fun i j => i + j)))
def t_is_prime_2 (K : PySem.W.Frag) : TS := (tRet (tC (.bl true)))
def t_is_prime (K : PySem.W.Frag) : TS := (tSeq (tIfS (tTest (tOp oLt (tVar 0) (tC (.int 2)))) (tRet (tC (.bl false))) tNext) (tSeq (tAsg (tC (.int 2)) (gName 1)) (tSeq (tWhile (tTest (tOp oLe (tOp oMul (tVar 1) (tVar 1)) (tVar 0))) (t_is_prime_1 K)) (t_is_prime_2 K))))
theorem pu_is_prime {K : PySem.W.Frag} (vs : List V) (H : Hp) (Q : VK) (E : XK) (h : ∃ n, vs = [.int n] ∧ n < 2 ^ 60 ∧ Q (.bl (isPr n)) H) : t_is_prime K { nx := fun _ H' => Q .non H', rt := Q } (start ["number", "by"] vs) H := by
  obtain ⟨n, rfl, hn, q⟩ := h
  walk_at "go"
  refine iteD (fun c => ?_) (fun c => ?_)
  · rw [isPr_small c] at q
    exact q
  · walk_at "nrm"
    refine loopW (fun m σ H' => H' = H ∧ ∃ b : Int, σ = [some (.int n), some (.int b)] ∧ 2 ≤ b ∧ b ≤ n + 1 ∧ m = (n + 1 - b).toNat ∧ ∀ d : Int, 2 ≤ d → d < b → n % d ≠ 0) (n + 1 - 2).toNat ⟨rfl, 2, rfl, by omega, by omega, rfl, fun d h1 h2 => by omega⟩ ?_
    rintro m σ _ ⟨rfl, b, rfl, h2, hb, rfl, hd⟩
    have hm : CMul b b := .inl ⟨by omega, by omega⟩
    walk_at "go"
    refine iteD (fun c1 => turnW ?_) (fun c1 => ?_)
    · walk_at "go"
      refine iteEq (fun c2 => ?_) (fun c2 => ?_)
      · rw [isPr_false h2 c1 c2] at q
        exact q
      · have hbn : b ≤ n := by
          have : 1 * b ≤ b * b := Int.mul_le_mul_of_nonneg_right (by omega) (by omega)
          omega
        walk_at "go"
        refine ⟨⟨_, ?_, rfl, b + 1, rfl, by omega, by omega, rfl, fun d h1 h3 => ?_⟩⟩
        · omega
        · by_cases e : d = b
          · rw [e]; exact c2
          · exact hd d h1 (by omega)
    · have e : isPr n = true := isPr_iff.mpr ⟨by omega, fun d h1 h3 => hd d h1 (by
        by_cases z : d < b
        · exact z
        · have : b * b ≤ d * d := Int.mul_le_mul (by omega) (by omega) (by omega) (by omega)
          omega)⟩
      rw [e] at q
      exact q
/-! ### the field -/
def IsF (K : PySem.W.Frag) (H : Hp) (f : Addr) (p : Int) : Prop := ∃ dx, H f = some (.ins (He.ga K "Field") dx [("prime", .int p)]) ∧ isPr p = true ∧ p ≤ 1000000
theorem IsF.mono {K : PySem.W.Frag} {H H' : Hp} {f : Addr} {p : Int} (h : IsF K H f p) (e : Same H H') : IsF K H' f p := let ⟨dx, a, b⟩ := h; ⟨dx, e _ _ a, b⟩
theorem IsF.pos {K : PySem.W.Frag} {H : Hp} {f : Addr} {p : Int} (h : IsF K H f p) : 2 ≤ p ∧ p ≤ 1000000 := let ⟨_, _, b, c⟩ := h; ⟨isPr_pos b, c⟩
def sp_Field___init__ (K : PySem.W.Frag) : Sp := fun vs H Q E => vs.length = 2 ∧ ∃ x dx n, vs = [.ref x, .int n] ∧ H x = some (.ins (He.ga K "Field") dx []) ∧ n < 2 ^ 60 ∧
  ((n ≤ 1000000 ∧ isPr n = true → Q .non (upd H x (.ins (He.ga K "Field") dx [("prime", .int n)]))) ∧ (¬ (n ≤ 1000000 ∧ isPr n = true) → E (.ref (He.ga K "NoPrime")) none H))
def t_Field___init__ (K : PySem.W.Frag) (E : XK) : TS := (tSeq (tIfS (tOr (tTest (tOp oGt (tVar 1) (tC (.int 1000000)))) (tNot (tB (tCallSD (sp_is_prime K) [] (fun _ => E) (tCons (tVar 1) tNil))))) (xRaise (He.ga K "NoPrime") E) tNext) (xsFld (He.ga K "Field") (tVar 0) (tVar 1) "prime"))
theorem pu_Field___init__ {K : PySem.W.Frag} (vs : List V) (H : Hp) (Q : VK) (E : XK) (h : ∃ x dx n, vs = [.ref x, .int n] ∧ H x = some (.ins (He.ga K "Field") dx []) ∧ n < 2 ^ 60 ∧
  ((n ≤ 1000000 ∧ isPr n = true → Q .non (upd H x (.ins (He.ga K "Field") dx [("prime", .int n)]))) ∧ (¬ (n ≤ 1000000 ∧ isPr n = true) → E (.ref (He.ga K "NoPrime")) none H))) :
    t_Field___init__ K E { nx := fun _ H' => Q .non H', rt := Q } (start ["self", "prime"] vs) H := by
  obtain ⟨x, dx, n, rfl, hx, hn, q1, q2⟩ := h
  walk_at "go"
  refine iteD (fun c => ?_) (fun c => ?_)
  · refine iteT ?_
    exact q2 fun z => by omega
  · walk_at "go"
    cases e : isPr n with
    | false =>
      refine iteT ?_
      exact q2 fun z => by rw [e] at z; exact Bool.false_ne_true z.2
    | true =>
      refine iteF ?_
      walk_at "go"
      exact q1 ⟨by omega, e⟩
/-- Field(n), n a prime -/
theorem use_Field {K : PySem.W.Frag} {H : Hp} {Q : VK} {E : XK} {n : Int} (hn : isPr n = true) (h6 : n ≤ 1000000) (q : ∀ f H', H f = none → Same H H' → IsF K H' f n → Q (.ref f) H') :
    ∀ x dx, H x = none → H dx = none → dx ≠ x → sp_Field___init__ K (.ref x :: ([.int n] ++ [])) (upd (upd H dx (.own x)) x (.ins (He.ga K "Field") dx [])) (fun v H2 => v = .non ∧ Q (.ref x) H2) E := by
  intro x dx nx nd ne
  refine ⟨rfl, x, dx, n, rfl, upd_same, by omega, fun _ => ⟨rfl, ?_⟩, fun z => absurd ⟨h6, hn⟩ z⟩
  refine q x _ nx ?_ ⟨dx, upd_same, hn, h6⟩
  exact same_mut (same_mut (same_new nd) nx) nx
/-- Field(n), n any -/
theorem use_FieldX {K : PySem.W.Frag} {H : Hp} {Q : VK} {E : XK} {n : Int} (hn : n < 2 ^ 60) (q : isPr n = true → n ≤ 1000000 → ∀ f H', H f = none → Same H H' → IsF K H' f n → Q (.ref f) H') (qe : ¬ (n ≤ 1000000 ∧ isPr n = true) → ∀ H', Same H H' → E (.ref (He.ga K "NoPrime")) none H') :
    ∀ x dx, H x = none → H dx = none → dx ≠ x → sp_Field___init__ K (.ref x :: ([.int n] ++ [])) (upd (upd H dx (.own x)) x (.ins (He.ga K "Field") dx [])) (fun v H2 => v = .non ∧ Q (.ref x) H2) E := by
  intro x dx nx nd ne
  refine ⟨rfl, x, dx, n, rfl, upd_same, hn, fun z => ⟨rfl, ?_⟩, fun z => qe z _ (same_mut (same_new nd) nx)⟩
  refine q z.2 z.1 x _ nx ?_ ⟨dx, upd_same, z.2, z.1⟩
  exact same_mut (same_mut (same_new nd) nx) nx
def sp_Field_fit (K : PySem.W.Frag) : Sp := fun vs H Q _ => vs.length = 2 ∧ ∃ f n p, vs = [.ref f, .int n] ∧ IsF K H f p ∧ Q (.int (n % p)) H
def t_Field_fit (K : PySem.W.Frag) : TS := (tRet (tOp oMod (tVar 1) (xFld (He.ga K "Field") (tVar 0) "prime")))
theorem pu_Field_fit {K : PySem.W.Frag} (vs : List V) (H : Hp) (Q : VK) (E : XK) (h : ∃ f n p, vs = [.ref f, .int n] ∧ IsF K H f p ∧ Q (.int (n % p)) H) :
    t_Field_fit K { nx := fun _ H' => Q .non H', rt := Q } (start ["self", "number"] vs) H := by
  obtain ⟨f, n, p, rfl, hf, q⟩ := h
  have hp := hf.pos
  obtain ⟨dx, h1, _⟩ := hf
  walk_at "go"
  exact q
def sp_Field_plus (K : PySem.W.Frag) : Sp := fun vs H Q _ => vs.length = 3 ∧ ∃ f a b p, vs = [.ref f, .int a, .int b] ∧ IsF K H f p ∧ Q (.int ((a + b) % p)) H
def t_Field_plus (K : PySem.W.Frag) : TS := (tRet (xMeth (He.ga K "Field") "fit" (sp_Field_fit K) [] (fun _ => E0) (tVar 0) (tCons (tOp oAdd (tVar 1) (tVar 2)) tNil)))
theorem pu_Field_plus {K : PySem.W.Frag} (vs : List V) (H : Hp) (Q : VK) (E : XK) (h : ∃ f a b p, vs = [.ref f, .int a, .int b] ∧ IsF K H f p ∧ Q (.int ((a + b) % p)) H) :
    t_Field_plus K { nx := fun _ H' => Q .non H', rt := Q } (start ["self", "one", "other"] vs) H := by
  obtain ⟨f, a, b, p, rfl, hf, q⟩ := h
  have hf' := hf
  obtain ⟨dx, h1, _⟩ := hf'
  walk_at "go"
  exact q
def sp_Field_minus (K : PySem.W.Frag) : Sp := fun vs H Q _ => vs.length = 3 ∧ ∃ f a b p, vs = [.ref f, .int a, .int b] ∧ IsF K H f p ∧ Q (.int ((a - b) % p)) H
def t_Field_minus (K : PySem.W.Frag) : TS := (tRet (xMeth (He.ga K "Field") "fit" (sp_Field_fit K) [] (fun _ => E0) (tVar 0) (tCons (tOp oSub (tVar 1) (tVar 2)) tNil)))
theorem pu_Field_minus {K : PySem.W.Frag} (vs : List V) (H : Hp) (Q : VK) (E : XK) (h : ∃ f a b p, vs = [.ref f, .int a, .int b] ∧ IsF K H f p ∧ Q (.int ((a - b) % p)) H) :
    t_Field_minus K { nx := fun _ H' => Q .non H', rt := Q } (start ["self", "one", "other"] vs) H := by
  obtain ⟨f, a, b, p, rfl, hf, q⟩ := h
  have hf' := hf
  obtain ⟨dx, h1, _⟩ := hf'
  walk_at "go"
  exact q
def sp_Field_times (K : PySem.W.Frag) : Sp := fun vs H Q _ => vs.length = 3 ∧ ∃ f a b p, vs = [.ref f, .int a, .int b] ∧ IsF K H f p ∧ CMul a b ∧ Q (.int (a * b % p)) H
def t_Field_times (K : PySem.W.Frag) : TS := (tRet (xMeth (He.ga K "Field") "fit" (sp_Field_fit K) [] (fun _ => E0) (tVar 0) (tCons (tOp oMul (tVar 1) (tVar 2)) tNil)))
theorem pu_Field_times {K : PySem.W.Frag} (vs : List V) (H : Hp) (Q : VK) (E : XK) (h : ∃ f a b p, vs = [.ref f, .int a, .int b] ∧ IsF K H f p ∧ CMul a b ∧ Q (.int (a * b % p)) H) :
    t_Field_times K { nx := fun _ H' => Q .non H', rt := Q } (start ["self", "one", "other"] vs) H := by
  obtain ⟨f, a, b, p, rfl, hf, hc, q⟩ := h
  have hf' := hf
  obtain ⟨dx, h1, _⟩ := hf'
  walk_at "go"
  exact q
/-- numbers of the field -/
abbrev Fd (p n : Int) : Prop := 0 ≤ n ∧ n < p
def sp_Field_back (K : PySem.W.Frag) : Sp := fun vs H Q E => vs.length = 2 ∧ ∃ f n p, vs = [.ref f, .int n] ∧ IsF K H f p ∧ Fd p n ∧
  (n = 0 → E (.ref (He.ga K "NoBack")) none H) ∧ (n ≠ 0 → inv p n * n % p = 1 → ∀ H', Same H H' → Q (.int (inv p n)) H')
def t_Field_back_1 (K : PySem.W.Frag) (E : XK) : TS := (tSeq (tAsg (tCB oDivmod (tCons (tVar 2) (tCons (tVar 3) tNil))) (gTup K 2 (gCons (gName 6) (gCons (gName 7) gNil)))) (tSeq (tPar 2 3 (tCons (tVar 3) (tCons (tVar 7) tNil))) (tPar 4 5 (tCons (tVar 5) (tCons (tOp oSub (tVar 4) (tOp oMul (tVar 6) (tVar 5))) tNil)))))
def t_Field_back_2 (K : PySem.W.Frag) (E : XK) : TS := (tRet (xMeth (He.ga K "Field") "fit" (sp_Field_fit K) [] (fun _ => E) (tVar 0) (tCons (tVar 4) tNil)))
def t_Field_back (K : PySem.W.Frag) (E : XK) : TS := (tSeq (tIfS (tTest (tOp rEq (tVar 1) (tC (.int 0)))) (xRaise (He.ga K "NoBack") E) tNext) (tSeq (tAsg (xFld (He.ga K "Field") (tVar 0) "prime") (gName 2)) (tSeq (tAsg (tVar 1) (gName 3)) (tSeq (tAsg (tC (.int 0)) (gName 4)) (tSeq (tAsg (tC (.int 1)) (gName 5)) (tSeq (tWhile (tTest (tOp oGt (tVar 3) (tC (.int 0)))) (t_Field_back_1 K E)) (t_Field_back_2 K E)))))))
theorem pu_Field_back {K : PySem.W.Frag} (vs : List V) (H : Hp) (Q : VK) (E : XK) (h : ∃ f n p, vs = [.ref f, .int n] ∧ IsF K H f p ∧ Fd p n ∧
  (n = 0 → E (.ref (He.ga K "NoBack")) none H) ∧ (n ≠ 0 → inv p n * n % p = 1 → ∀ H', Same H H' → Q (.int (inv p n)) H')) :
    t_Field_back K E { nx := fun _ H' => Q .non H', rt := Q } (start ["self", "number", "left", "right", "one", "other", "many", "rest"] vs) H := by
  obtain ⟨f, n, p, rfl, hf, hn, q0, q1⟩ := h
  have hp := hf.pos
  have hf' := hf
  obtain ⟨dx, h1, hpr, _⟩ := hf'
  walk_at "go"
  refine iteEq (fun c => q0 c) (fun c => ?_)
  walk_at "go"
  walk_at "nrm"
  refine loopW (fun m σ H' => Same H H' ∧ ∃ (l r o t : Int) (x y : Option V), σ = [some (.ref f), some (.int n), some (.int l), some (.int r), some (.int o), some (.int t), x, y] ∧ 0 ≤ r ∧ r < l ∧ l ≤ p ∧ m = r.toNat ∧
    (o * n - l) % p = 0 ∧ (t * n - r) % p = 0 ∧ ∀ d : Int, 1 ≤ d → l % d = 0 → r % d = 0 → p % d = 0 ∧ n % d = 0) n.toNat ⟨Same.refl H, p, n, 0, 1, none, none, rfl, hn.1, hn.2, Int.le_refl p, rfl, by rw [Int.zero_mul, Int.zero_sub]; exact Int.emod_eq_zero_of_dvd (Int.dvd_neg.mpr (Int.dvd_refl p)), by rw [Int.one_mul, Int.sub_self, Int.zero_emod], fun d _ a b => ⟨a, b⟩⟩ ?_
  rintro m σ H' ⟨hs, l, r, o, t, x, y, rfl, r0, rl, lp, rfl, e1, e2, hd⟩
  walk_at "go"
  refine iteD (fun c1 => turnW ?_) (fun c1 => ?_)
  · have hdm : CDivP l r := divp_ok c1 (by
      have h1 : Builtin.Int.intBits l ≤ 64 := Nat.le_trans (intBits_le_64 (by omega) (by omega)) (by decide : 64 ≤ 64)
      omega)
    have hlr : l / r < 2 ^ 64 ∧ 0 ≤ l / r := ⟨Int.lt_of_le_of_lt (Int.ediv_le_self r (by omega)) (by omega), Int.ediv_nonneg (by omega) r0⟩
    have hcm : CMul (l / r) t := .inl ⟨by omega, hlr.1⟩
    walk_at "go"
    intro T nT
    walk_at "go"
    have m0 := Int.emod_nonneg l (show r ≠ 0 by omega)
    have m1 := Int.emod_lt_of_pos l c1
    refine ⟨⟨_, ?_, hs.trans (same_new nT), r, l % r, t, o - l / r * t, _, _, rfl, m0, m1, by omega, rfl, e2, euc_step e1 e2, fun d d1 a b => ?_⟩⟩
    · omega
    · refine hd d d1 ?_ a
      have q := Int.mul_ediv_add_emod l r
      rw [← q]
      exact Int.emod_eq_zero_of_dvd (Int.dvd_add (Int.dvd_mul_of_dvd_left (Int.dvd_of_emod_eq_zero a)) (Int.dvd_of_emod_eq_zero b))
  · have r00 : r = 0 := by omega
    subst r00
    have hl : l = 1 := by
      obtain ⟨a, b⟩ := hd l (by omega) (by rw [Int.emod_self]) (by rw [Int.zero_emod])
      rcases pr_dvd hpr (by omega) a with z | z
      · exact z
      · rw [z] at b
        rw [Int.emod_eq_of_lt hn.1 hn.2] at b
        exact absurd b c
    subst hl
    have key : o % p * n % p = 1 := by
      have d1 := Int.dvd_of_emod_eq_zero e1
      have : (o * n) % p = 1 % p := Int.emod_eq_emod_iff_emod_sub_eq_zero.mpr e1
      rw [Int.mul_emod, Int.emod_emod, ← Int.mul_emod, this]
      exact Int.emod_eq_of_lt (by omega) (by omega)
    obtain ⟨k1, k2⟩ := inv_of (Int.emod_nonneg o (by omega)) (Int.emod_lt_of_pos o (by omega)) key
    have hf2 := hf.mono hs
    have h12 := hs _ _ h1
    walk_at "nrm"
    unfold t_Field_back_2
    walk_at "go"
    rw [k2]
    exact q1 c k1 H' hs
def sp_Field_over (K : PySem.W.Frag) : Sp := fun vs H Q E => vs.length = 3 ∧ ∃ f a n p, vs = [.ref f, .int a, .int n] ∧ IsF K H f p ∧ Fd p a ∧ Fd p n ∧
  (n = 0 → E (.ref (He.ga K "NoBack")) none H) ∧ (n ≠ 0 → inv p n * n % p = 1 → ∀ H', Same H H' → Q (.int (a * inv p n % p)) H')
def t_Field_over (K : PySem.W.Frag) (E : XK) : TS := (tRet (xMeth (He.ga K "Field") "times" (sp_Field_times K) [] (fun _ => E) (tVar 0) (tCons (tVar 1) (tCons (xMeth (He.ga K "Field") "back" (sp_Field_back K) [] (fun _ => E) (tVar 0) (tCons (tVar 2) tNil)) tNil))))
theorem pu_Field_over {K : PySem.W.Frag} (vs : List V) (H : Hp) (Q : VK) (E : XK) (h : ∃ f a n p, vs = [.ref f, .int a, .int n] ∧ IsF K H f p ∧ Fd p a ∧ Fd p n ∧
  (n = 0 → E (.ref (He.ga K "NoBack")) none H) ∧ (n ≠ 0 → inv p n * n % p = 1 → ∀ H', Same H H' → Q (.int (a * inv p n % p)) H')) :
    t_Field_over K E { nx := fun _ H' => Q .non H', rt := Q } (start ["self", "one", "other"] vs) H := by
  obtain ⟨f, a, n, p, rfl, hf, ha, hn, q0, q1⟩ := h
  have hp := hf.pos
  have hf' := hf
  obtain ⟨dx, h1, hpr, _⟩ := hf'
  walk_at "go"
  intro c k H' hs
  have hf2 := hf.mono hs
  have hc : CMul a (inv p n) := .inl ⟨by omega, by omega⟩
  walk_at "go"
  exact q1 c k H' hs
end Mx

set_option Elab.async false
set_option linter.all false
set_option maxRecDepth 100000
set_option maxHeartbeats 4000000
namespace Mx
open PySem PySem.Spec PyProof.Rows L2 Nt
local macro_rules | `(tactic| walk_at "side") => `(tactic| first
  | assumption
  | rfl
  | exact upd_same
  | exact sqL_new
  | exact ⟨_, sqL_new⟩
  | exact ⟨_, by assumption⟩
  | exact sqT_new
  | exact sqL_upd (by assumption) (by assumption)
  | (refine upd_at ?_ ?_ <;> assumption)
  | omega
  | exact Nat.le_of_ble_eq_true rfl
  | decide)
local macro_rules | `(tactic| walk_at "go1") => `(tactic| first
  | (fail_if_success (show ∃ W : Nat → Nat → L2.St → Hp → Prop, _)
     fail_if_success (show ∃ W : Nat → L2.St → Hp → Prop, _)
     fail_if_success (show ∃ W : L2.St → Hp → Prop, _)
     apply Exists.intro)
  | (refine And.intro ?_ ?_; (walk_at "side")))
local macro_rules | `(tactic| walk_at "nrm") => `(tactic| dsimp only [tSeq, tAsg, tC, gName, tNext, tIfS, tRet, tDrop, tTest, tB, L2.start, List.map, List.length, List.replicate, List.cons_append, List.nil_append, List.set_cons_zero, List.set_cons_succ])
local macro_rules | `(tactic| walk_at "go") => `(tactic| repeat (walk_at "go1"))
def sp_law_cell_at (K : PySem.W.Frag) : Sp := fun vs H Q _ => vs.length = 2 ∧ ∃ (a : Addr) (ns : List Int) (k : Int), vs = [.ref a, .int k] ∧ SqL K H a (ns.map V.int) ∧ 0 ≤ k ∧ ∀ n, Q (.int n) H
def t_law_cell_at (K : PySem.W.Frag) : TS := (tSeq (tIfS (tTest (tOp oLt (tVar 1) (tCB (oLen K) (tCons (tVar 0) tNil)))) (tRet (tOp (rIxL K) (tVar 0) (tVar 1))) tNext) (tRet (tC (.int 0))))
theorem pu_law_cell_at {K : PySem.W.Frag} (vs : List V) (H : Hp) (Q : VK) (E : XK) (h : ∃ (a : Addr) (ns : List Int) (k : Int), vs = [.ref a, .int k] ∧ SqL K H a (ns.map V.int) ∧ 0 ≤ k ∧ ∀ n, Q (.int n) H) :
    t_law_cell_at K { nx := fun _ H' => Q .non H', rt := Q } (start ["script", "k"] vs) H := by
  obtain ⟨a, ns, k, rfl, hs, hk, q⟩ := h
  have hs' : SqL K H a (ns.map V.int) ∨ SqT K H a (ns.map V.int) := .inl hs
  walk_at "go"
  refine iteD (fun c => ?_) (fun c => ?_)
  · rw [List.length_map] at c
    have e : (ns.map V.int)[k.toNat]? = some (.int (ns[k.toNat]'(by omega))) := by
      rw [List.getElem?_map, List.getElem?_eq_getElem (by omega)]; rfl
    have e2 : atI (ns.map V.int) k = some (.int (ns[k.toNat]'(by omega))) := at_of (Int.toNat_of_nonneg hk).symm e
    walk_at "go"
    exact q _
  · walk_at "nrm"
    exact q _
def sp_law_mixed (K : PySem.W.Frag) : Sp := fun vs H Q _ => vs.length = 2 ∧ ∃ c k, vs = [.int c, .int k] ∧ 0 ≤ k ∧ k < 100 ∧ ∀ n, 0 ≤ n → n < 2147483647 → Q (.int n) H
def t_law_mixed (K : PySem.W.Frag) : TS := (tSeq (tAsg (tOp oMod (tOp oMul (tOp oAdd (tOp oAdd (tVar 0) (tOp oMul (tC (.int 7919)) (tVar 1))) (tC (.int 1))) (tC (.int 48271))) (tC (.int 2147483647))) (gName 2)) (tRet (tOp oMod (tOp oMul (tVar 2) (tOp oAdd (tOp oFdv (tVar 2) (tC (.int 1009))) (tC (.int 69621)))) (tC (.int 2147483647)))))
theorem pu_law_mixed {K : PySem.W.Frag} (vs : List V) (H : Hp) (Q : VK) (E : XK) (h : ∃ c k, vs = [.int c, .int k] ∧ 0 ≤ k ∧ k < 100 ∧ ∀ n, 0 ≤ n → n < 2147483647 → Q (.int n) H) :
    t_law_mixed K { nx := fun _ H' => Q .non H', rt := Q } (start ["cell", "k", "number"] vs) H := by
  obtain ⟨c, k, rfl, h0, h1, q⟩ := h
  have m1 : CMul 7919 k := .inl (by decide)
  have m2 : ∀ z : Int, CMul z 48271 := fun z => .inr (by decide)
  have m2 := m2 (c + 7919 * k + 1)
  have b0 := Int.emod_nonneg ((c + 7919 * k + 1) * 48271) (show (2147483647 : Int) ≠ 0 by decide)
  have b1 := Int.emod_lt_of_pos ((c + 7919 * k + 1) * 48271) (show (0 : Int) < 2147483647 by decide)
  have d1 : CDivW ((c + 7919 * k + 1) * 48271 % 2147483647) 1009 := ⟨by decide, by decide⟩
  have m3 : CMul ((c + 7919 * k + 1) * 48271 % 2147483647) ((c + 7919 * k + 1) * 48271 % 2147483647 / 1009 + 69621) := .inl ⟨by omega, by omega⟩
  walk_at "go"
  exact q _ (Int.emod_nonneg _ (by decide)) (Int.emod_lt_of_pos _ (by decide))
def sp_law_prime (K : PySem.W.Frag) : Sp := fun vs H Q _ => vs.length = 1 ∧ ∃ c, vs = [.int c] ∧ ∀ p H', Same H H' → isPr p = true → p ≤ 1000000 → Q (.int p) H'
def t_law_prime_1 (K : PySem.W.Frag) : TS := (tIfS (tB (tCallSD (sp_is_prime K) [] (fun _ => E0) (tCons (tOp oAdd (tVar 2) (tVar 3)) tNil))) (tRet (tOp oAdd (tVar 2) (tVar 3))) tNext)
def t_law_prime_2 (K : PySem.W.Frag) : TS := (tRet (tC (.int 0)))
def t_law_prime (K : PySem.W.Frag) : TS := (tSeq (tAsg (tLst (tCons (tC (.int 2)) (tCons (tC (.int 3)) (tCons (tC (.int 5)) (tCons (tC (.int 7)) (tCons (tC (.int 11)) (tCons (tC (.int 13)) (tCons (tC (.int 17)) (tCons (tC (.int 19)) (tCons (tC (.int 23)) (tCons (tC (.int 29)) (tCons (tC (.int 31)) (tCons (tC (.int 37)) (tCons (tC (.int 41)) (tCons (tC (.int 43)) (tCons (tC (.int 47)) (tCons (tC (.int 53)) (tCons (tC (.int 59)) (tCons (tC (.int 61)) (tCons (tC (.int 67)) (tCons (tC (.int 71)) (tCons (tC (.int 97)) (tCons (tC (.int 101)) (tCons (tC (.int 257)) (tCons (tC (.int 999983)) tNil))))))))))))))))))))))))) (gName 1)) (tSeq (tIfS (tTest (tOp oGt (tOp oMod (tVar 0) (tC (.int 3))) (tC (.int 0)))) (tRet (tOp (rIxL K) (tVar 1) (tOp oMod (tOp oFdv (tVar 0) (tC (.int 3))) (tC (.int 24))))) tNext) (tSeq (tAsg (tOp oAdd (tC (.int 2)) (tOp oMod (tOp oFdv (tVar 0) (tC (.int 3))) (tC (.int 999000)))) (gName 2)) (tSeq (tFor (iRng1 (tCons (tC (.int 200)) tNil)) (gName 3) (t_law_prime_1 K)) (t_law_prime_2 K)))))
theorem pu_law_prime {K : PySem.W.Frag} (vs : List V) (H : Hp) (Q : VK) (E : XK) (h : ∃ c, vs = [.int c] ∧ ∀ p H', Same H H' → isPr p = true → p ≤ 1000000 → Q (.int p) H') :
    t_law_prime K { nx := fun _ H' => Q .non H', rt := Q } (start ["cell", "some", "number", "more"] vs) H := by
  obtain ⟨c, rfl, q⟩ := h
  have d3 : CDivW c 3 := ⟨by decide, by decide⟩
  walk_at "go"
  intro l nl
  walk_at "go"
  refine iteD (fun c1 => ?_) (fun c1 => ?_)
  · have b0 := Int.emod_nonneg (c / 3) (show (24 : Int) ≠ 0 by decide)
    have b1 := Int.emod_lt_of_pos (c / 3) (show (0 : Int) < 24 by decide)
    have hex : ∃ p : Int, ([2, 3, 5, 7, 11, 13, 17, 19, 23, 29, 31, 37, 41, 43, 47, 53, 59, 61, 67, 71, 97, 101, 257, 999983] : List Int)[(c / 3 % 24).toNat]? = some p := by
      refine ⟨_, List.getElem?_eq_getElem ?_⟩
      show (c / 3 % 24).toNat < 24
      omega
    obtain ⟨p, hp⟩ := hex
    have e : (([2, 3, 5, 7, 11, 13, 17, 19, 23, 29, 31, 37, 41, 43, 47, 53, 59, 61, 67, 71, 97, 101, 257, 999983] : List Int).map V.int)[(c / 3 % 24).toNat]? = some (.int p) := by
      rw [List.getElem?_map, hp]; rfl
    have e2 : atI ([.int 2, .int 3, .int 5, .int 7, .int 11, .int 13, .int 17, .int 19, .int 23, .int 29, .int 31, .int 37, .int 41, .int 43, .int 47, .int 53, .int 59, .int 61, .int 67, .int 71, .int 97, .int 101, .int 257, .int 999983] : List V) (c / 3 % 24) = some (.int p) := at_of (Int.toNat_of_nonneg b0).symm e
    walk_at "go"
    have hm := List.mem_of_getElem? hp
    have all : ∀ p ∈ ([2, 3, 5, 7, 11, 13, 17, 19, 23, 29, 31, 37, 41, 43, 47, 53, 59, 61, 67, 71, 97, 101, 257, 999983] : List Int), isPr p = true ∧ p ≤ 1000000 := by
      intro p hp
      have h1 := List.all_eq_true.mp some_run
      by_cases z : p = 999983
      · rw [z]; exact ⟨big_run, by decide⟩
      · have : p ∈ ([2, 3, 5, 7, 11, 13, 17, 19, 23, 29, 31, 37, 41, 43, 47, 53, 59, 61, 67, 71, 97, 101, 257] : List Int) := by
          simp only [List.mem_cons, List.not_mem_nil, or_false] at hp ⊢
          omega
        refine ⟨h1 p this, ?_⟩
        simp only [List.mem_cons, List.not_mem_nil, or_false] at this
        omega
    exact q p _ (same_new nl) (all p hm).1 (all p hm).2
  · walk_at "go"
    have b0 := Int.emod_nonneg (c / 3) (show (999000 : Int) ≠ 0 by decide)
    have b1 := Int.emod_lt_of_pos (c / 3) (show (0 : Int) < 999000 by decide)
    obtain ⟨k, hk, hp⟩ := gap (2 + c / 3 % 999000) (by omega) (by omega)
    refine loop1 walk_range 3 (fun i σ H' => H' = upd H l (.lst [.int 2, .int 3, .int 5, .int 7, .int 11, .int 13, .int 17, .int 19, .int 23, .int 29, .int 31, .int 37, .int 41, .int 43, .int 47, .int 53, .int 59, .int 61, .int 67, .int 71, .int 97, .int 101, .int 257, .int 999983]) ∧ ∃ y, σ = [some (.int c), some (.ref l), some (.int (2 + c / 3 % 999000)), y] ∧ ∀ j : Nat, j < i → isPr (2 + c / 3 % 999000 + (j : Nat)) = false) ⟨rfl, none, rfl, fun j hj => by omega⟩ (fun _ _ _ _ _ => trivial) ?_ ?_
    · rintro i x σ _ H' hi ⟨rfl, y, rfl, hj⟩ ⟨rfl, rfl⟩
      unfold t_law_prime_1
      have hi : i < 200 := hi
      walk_at "go"
      cases e : isPr (2 + c / 3 % 999000 + (0 + (i : Int))) with
      | true =>
        refine iteT ?_
        walk_at "go"
        exact q _ _ (same_new nl) e (by omega)
      | false =>
        refine iteF ⟨⟨rfl, _, rfl, fun j hj' => ?_⟩⟩
        by_cases z : j = i
        · rw [z, ← Int.zero_add (i : Int)]; exact e
        · exact hj j (by omega)
    · rintro σ _ ⟨rfl, y, rfl, hj⟩
      have := hj k hk
      rw [hp] at this
      cases this
def sp_law_one (K : PySem.W.Frag) : Sp := fun vs H Q _ => vs.length = 2 ∧ ∃ c p, vs = [.int c, .int p] ∧ 2 ≤ p ∧ p ≤ 1000000 ∧ ∀ n H', Same H H' → Fd p n → Q (.int n) H'
def t_law_one (K : PySem.W.Frag) : TS := (tRet (tOp (rIxL K) (tLst (tCons (tC (.int 0)) (tCons (tC (.int 1)) (tCons (tOp oSub (tVar 1) (tC (.int 1))) (tCons (tOp oMod (tOp oFdv (tVar 0) (tC (.int 8))) (tVar 1)) tNil))))) (tCB oMin2 (tCons (tC (.int 3)) (tCons (tOp oMod (tVar 0) (tC (.int 8))) tNil)))))
theorem pu_law_one {K : PySem.W.Frag} (vs : List V) (H : Hp) (Q : VK) (E : XK) (h : ∃ c p, vs = [.int c, .int p] ∧ 2 ≤ p ∧ p ≤ 1000000 ∧ ∀ n H', Same H H' → Fd p n → Q (.int n) H') :
    t_law_one K { nx := fun _ H' => Q .non H', rt := Q } (start ["cell", "prime"] vs) H := by
  obtain ⟨c, p, rfl, h2, h6, q⟩ := h
  have d8 : CDivW c 8 := ⟨by decide, by decide⟩
  walk_at "go"
  intro l nl
  have b0 := Int.emod_nonneg c (show (8 : Int) ≠ 0 by decide)
  have b1 := Int.emod_nonneg (c / 8) (show p ≠ 0 by omega)
  have b2 := Int.emod_lt_of_pos (c / 8) (show 0 < p by omega)
  have hx : ∃ r : Int, atI ([.int 0, .int 1, .int (p - 1), .int (c / 8 % p)] : List V) (if c % 8 < 3 then c % 8 else 3) = some (.int r) ∧ Fd p r := by
    generalize c % 8 = k at b0
    by_cases k0 : k = 0
    · subst k0; exact ⟨_, rfl, by omega, by omega⟩
    by_cases k1 : k = 1
    · subst k1; exact ⟨_, rfl, by omega, by omega⟩
    by_cases k2 : k = 2
    · subst k2; exact ⟨_, rfl, by omega, by omega⟩
    rw [if_neg (show ¬ k < 3 by omega)]
    exact ⟨_, rfl, b1, b2⟩
  obtain ⟨r, hr1, hr⟩ := hx
  walk_at "go"
  exact q _ _ (same_new nl) hr
def sp_law_in (K : PySem.W.Frag) : Sp := fun vs H Q _ => vs.length = 2 ∧ ∃ n p, vs = [.int n, .int p] ∧ Fd p n ∧ Q (.bl true) H
def t_law_in (K : PySem.W.Frag) : TS := (tRet (tAndV (tCB xIsT (tCons (tVar 0) (tCons (tC (.ty "int")) tNil))) (tAndV (tNotV (tCB xIsT (tCons (tVar 0) (tCons (tC (.ty "bool")) tNil)))) (tChain oLe oLt (tC (.int 0)) (tVar 0) (tVar 1)))))
theorem pu_law_in {K : PySem.W.Frag} (vs : List V) (H : Hp) (Q : VK) (E : XK) (h : ∃ n p, vs = [.int n, .int p] ∧ Fd p n ∧ Q (.bl true) H) :
    t_law_in K { nx := fun _ H' => Q .non H', rt := Q } (start ["found", "prime"] vs) H := by
  obtain ⟨n, p, rfl, ⟨h0, h1⟩, q⟩ := h
  walk_at "go"
  rw [decide_eq_true h0]
  refine iteT ?_
  walk_at "go"
  show Q (.bl (decide (n < p))) H
  rw [decide_eq_true h1]
  exact q
/-- what the law's look at a refusal leans on -/
structure ExT (K : PySem.W.Frag) : Prop where
  c : ExcC K (He.ga K "NoBack")
  k1 : PySem.W.kitOne K (.ref (He.ga K "NoBack")) (.ref (He.ga K "PostError")) = some true
  k2 : PySem.W.kitOne K (.ref (He.ga K "NoBack")) (.type "ValueError") = some true
  k3 : PySem.W.kitOne K (.ref (He.ga K "NoBack")) (.ref (He.ga K "NoPrime")) = some false
  m : PySem.W.exmOne K (.ref (He.ga K "NoBack")) (.ref (He.ga K "NoBack")) = some true
def sp_law_refused (K : PySem.W.Frag) : Sp := fun vs H Q _ => vs.length = 3 ∧ ∃ f a w p, vs = [.ref f, .int a, .int w] ∧ IsF K H f p ∧ Fd p a ∧ Q (.bl true) H
def t_law_refused_s1 (K : PySem.W.Frag) (a : Addr) (cls : Value) (d : Option Addr) : TS := (tAsg (tAndV (tCB (xIsE K cls d a) (tCons (tVar 4) (tCons (tC (.ref (He.ga K "PostError"))) tNil))) (tAndV (tCB (xIsE K cls d a) (tCons (tVar 4) (tCons (tC (.ty "ValueError")) tNil))) (tNotV (tCB (xIsE K cls d a) (tCons (tVar 4) (tCons (tC (.ref (He.ga K "NoPrime"))) tNil)))))) (gName 3))
def t_law_refused_b1 (K : PySem.W.Frag) (W : WX) : TS := (tIfS (tTest (tOp rEq (tVar 2) (tC (.int 0)))) (tDrop (xMeth (He.ga K "Field") "back" (sp_Field_back K) [] (WE W) (tVar 0) (tCons (tC (.int 0)) tNil))) (tDrop (xMeth (He.ga K "Field") "over" (sp_Field_over K) [] (WE W) (tVar 0) (tCons (tVar 1) (tCons (tC (.int 0)) tNil)))))
def t_law_refused (K : PySem.W.Frag) : TS := (tSeq (tAsg (tC (.bl false)) (gName 3)) (tSeq (fun D σ H => t_law_refused_b1 K (wAs K (.ref (He.ga K "NoBack")) 4 (t_law_refused_s1 K) (fun _ _ _ _ => False) D) D σ H) (tRet (tVar 3))))
theorem is_ref {K : PySem.W.Frag} {a : Addr} {D C : Addr} {b : Bool} {H : Hp} {Q : VK} (c : ExcC K D) (k : PySem.W.kitOne K (.ref D) (.ref C) = some b) (q : Q (.bl b) H) : xIsE K (.ref D) none a [.ref a, .ref C] H Q :=
  ⟨D, rfl, rfl, c, .ref C, .ref C, b, rfl, fun u r => r, k, q⟩
theorem is_ty {K : PySem.W.Frag} {a : Addr} {D : Addr} {n : String} {b : Bool} {H : Hp} {Q : VK} (c : ExcC K D) (k : PySem.W.kitOne K (.ref D) (.type n) = some b) (q : Q (.bl b) H) : xIsE K (.ref D) none a [.ref a, .ty n] H Q :=
  ⟨D, rfl, rfl, c, .ty n, .type n, b, rfl, fun u r => r, k, q⟩
theorem pu_law_refused {K : PySem.W.Frag} (T : ExT K) (vs : List V) (H : Hp) (Q : VK) (E : XK) (h : ∃ f a w p, vs = [.ref f, .int a, .int w] ∧ IsF K H f p ∧ Fd p a ∧ Q (.bl true) H) :
    t_law_refused K { nx := fun _ H' => Q .non H', rt := Q } (start ["field", "one", "way", "found", "e"] vs) H := by
  obtain ⟨f, a, w, p, rfl, hf, ha, q⟩ := h
  have hp := hf.pos
  have hf' := hf
  obtain ⟨dx, h1, hpr, _⟩ := hf'
  have suite : ∀ (D : Ends) (x y : Option V) (a0 : Addr), D.nx [some (.ref f), some (.int a), some (.int w), some (.bl true), some (.ref a0)] H → t_law_refused_s1 K a0 (.ref (He.ga K "NoBack")) none D [some (.ref f), some (.int a), some (.int w), x, some (.ref a0)] H := by
    intro D x y a0 hq
    unfold t_law_refused_s1
    refine ⟨.ref a0, rfl, is_ref T.c T.k1 ⟨true, rfl, iteT ?_⟩⟩
    refine ⟨.ref a0, rfl, is_ty T.c T.k2 ⟨true, rfl, iteT ?_⟩⟩
    refine ⟨.ref a0, rfl, is_ref T.c T.k3 ⟨false, rfl, ?_⟩⟩
    exact hq
  walk_at "nrm"
  unfold t_law_refused
  walk_at "nrm"
  unfold t_law_refused_b1
  walk_at "go"
  refine iteEq (fun c => ?_) (fun c => ?_)
  · walk_at "go"
    refine ⟨fun _ => ?_, fun z => absurd rfl z⟩
    refine ⟨true, T.m, fun _ a0 _ => ?_, fun z => by cases z⟩
    refine suite _ _ none a0 ?_
    walk_at "go"
    exact q
  · walk_at "go"
    refine ⟨fun _ => ?_, fun z => absurd rfl z⟩
    refine ⟨true, T.m, fun _ a0 _ => ?_, fun z => by cases z⟩
    refine suite _ _ none a0 ?_
    walk_at "go"
    exact q
def sp_law_sums (K : PySem.W.Frag) : Sp := fun vs H Q _ => vs.length = 4 ∧ ∃ f p a b, vs = [.ref f, .int p, .int a, .int b] ∧ IsF K H f p ∧ Fd p a ∧ Fd p b ∧ ∀ H', Same H H' → Q (.bl true) H'
def t_law_sums_1 (K : PySem.W.Frag) : TS := (tIfS (tOr (tNot (tB (tCallSD (sp_law_in K) [] (fun _ => E0) (tCons (tVar 4) (tCons (tVar 1) tNil))))) (tTest (tOp rNe (tOp oMod (tOp oSub (tVar 4) (tVar 5)) (tVar 1)) (tC (.int 0))))) (tRet (tC (.bl false))) tNext)
def t_law_sums_2 (K : PySem.W.Frag) : TS := (tSeq (tAsg (xMeth (He.ga K "Field") "times" (sp_Field_times K) [] (fun _ => E0) (tVar 0) (tCons (tVar 2) (tCons (tVar 3) tNil))) (gName 4)) (tRet (tAndV (tCallSD (sp_law_in K) [] (fun _ => E0) (tCons (tVar 4) (tCons (tVar 1) tNil))) (tOp rEq (tOp oMod (tOp oSub (tVar 4) (tOp oMul (tVar 2) (tVar 3))) (tVar 1)) (tC (.int 0))))))
def t_law_sums (K : PySem.W.Frag) : TS := (tSeq (tFor (iList K (tLst (tCons (tTup (tCons (xMeth (He.ga K "Field") "plus" (sp_Field_plus K) [] (fun _ => E0) (tVar 0) (tCons (tVar 2) (tCons (tVar 3) tNil))) (tCons (tOp oAdd (tVar 2) (tVar 3)) tNil))) (tCons (tTup (tCons (xMeth (He.ga K "Field") "minus" (sp_Field_minus K) [] (fun _ => E0) (tVar 0) (tCons (tVar 2) (tCons (tVar 3) tNil))) (tCons (tOp oSub (tVar 2) (tVar 3)) tNil))) tNil)))) (gTup K 2 (gCons (gName 4) (gCons (gName 5) gNil))) (t_law_sums_1 K)) (t_law_sums_2 K))
theorem pu_law_sums {K : PySem.W.Frag} (vs : List V) (H : Hp) (Q : VK) (E : XK) (h : ∃ f p a b, vs = [.ref f, .int p, .int a, .int b] ∧ IsF K H f p ∧ Fd p a ∧ Fd p b ∧ ∀ H', Same H H' → Q (.bl true) H') :
    t_law_sums K { nx := fun _ H' => Q .non H', rt := Q } (start ["field", "prime", "one", "other", "found", "due"] vs) H := by
  obtain ⟨f, p, a, b, rfl, hf, ha, hb, q⟩ := h
  have hp := hf.pos
  have hf' := hf
  obtain ⟨dx, h1, hpr, _⟩ := hf'
  have m0 : ∀ z : Int, Fd p (z % p) := fun z => ⟨Int.emod_nonneg z (by omega), Int.emod_lt_of_pos z (by omega)⟩
  have m1 : ∀ z : Int, (z % p - z) % p = 0 := fun z => by rw [Int.sub_emod, Int.emod_emod, Int.sub_self, Int.zero_emod]
  walk_at "go"
  intro t1 n1
  have hf2 := hf.mono (same_new (o := .tup [.int ((a + b) % p), .int (a + b)]) n1)
  have h12 := same_new (o := .tup [.int ((a + b) % p), .int (a + b)]) n1 _ _ h1
  walk_at "go"
  intro t2 n2
  walk_at "go"
  intro l nl
  have s3 := ((same_new n1).trans (same_new n2)).trans (same_new (o := .lst [.ref t1, .ref t2]) nl)
  have e1 := sqT_upd (K := K) (u := .lst [.ref t1, .ref t2]) nl (sqT_upd n2 (sqT_new (H := H) (a := t1)))
  have e2 := sqT_upd (K := K) (u := .lst [.ref t1, .ref t2]) nl (sqT_new (a := t2))
  walk_at "go"
  generalize hH3 : upd _ l _ = H3 at *
  have hf3 := hf.mono s3
  have h13 := s3 _ _ h1
  have el : SqL K H3 l [.ref t1, .ref t2] := by rw [← hH3]; exact sqL_new
  have mm : CMul a b := .inl ⟨by omega, by omega⟩
  refine loopG (walk_list (xs := [.ref t1, .ref t2])) (fun i σ H' => H' = H3 ∧ ∃ y1 y2, σ = [some (.ref f), some (.int p), some (.int a), some (.int b), y1, y2]) ⟨rfl, none, none, rfl⟩ (fun i σ H' _ h => by rw [h.1]; exact el) ?_ ?_
  · rintro i x σ _ _ hi ⟨rfl, y1, y2, rfl⟩ ⟨rfl, hx⟩
    unfold t_law_sums_1
    match i, hi, hx with
    | 0, _, hx =>
      cases hx
      walk_at "go"
      refine ⟨m0 _, ?_⟩
      walk_at "go"
      refine iteNe (fun z => absurd (m1 _) z) (fun _ => ⟨rfl, _, _, rfl⟩)
    | 1, _, hx =>
      cases hx
      walk_at "go"
      refine ⟨m0 _, ?_⟩
      walk_at "go"
      refine iteNe (fun z => absurd (m1 _) z) (fun _ => ⟨rfl, _, _, rfl⟩)
  · rintro σ _ ⟨rfl, y1, y2, rfl⟩
    unfold t_law_sums_2
    walk_at "go"
    refine ⟨m0 _, ?_⟩
    walk_at "go"
    show Q (.bl (decide (V.int ((a * b % p - a * b) % p) = V.int 0))) _
    rw [show decide (V.int ((a * b % p - a * b) % p) = V.int 0) = true from decide_eq_true (by rw [m1])]
    exact q _ s3
def sp_law_backs (K : PySem.W.Frag) : Sp := fun vs H Q _ => vs.length = 4 ∧ ∃ f p a b, vs = [.ref f, .int p, .int a, .int b] ∧ IsF K H f p ∧ Fd p a ∧ Fd p b ∧ ∀ H', Same H H' → Q (.bl true) H'
def t_law_backs (K : PySem.W.Frag) : TS := (tSeq (tIfS (tTest (tOp rEq (tVar 3) (tC (.int 0)))) (tRet (tAndV (tCallSD (sp_law_refused K) [] (fun _ => E0) (tCons (tVar 0) (tCons (tVar 2) (tCons (tC (.int 0)) tNil)))) (tCallSD (sp_law_refused K) [] (fun _ => E0) (tCons (tVar 0) (tCons (tVar 2) (tCons (tC (.int 1)) tNil)))))) tNext) (tSeq (tAsg (xMeth (He.ga K "Field") "back" (sp_Field_back K) [] (fun _ => E0) (tVar 0) (tCons (tVar 3) tNil)) (gName 4)) (tSeq (tIfS (tOr (tNot (tB (tCallSD (sp_law_in K) [] (fun _ => E0) (tCons (tVar 4) (tCons (tVar 1) tNil))))) (tTest (tOp rNe (tOp oMod (tOp oMul (tVar 4) (tVar 3)) (tVar 1)) (tOp oMod (tC (.int 1)) (tVar 1))))) (tRet (tC (.bl false))) tNext) (tSeq (tAsg (xMeth (He.ga K "Field") "over" (sp_Field_over K) [] (fun _ => E0) (tVar 0) (tCons (tVar 2) (tCons (tVar 3) tNil))) (gName 5)) (tRet (tAndV (tCallSD (sp_law_in K) [] (fun _ => E0) (tCons (tVar 5) (tCons (tVar 1) tNil))) (tOp rEq (tOp oMod (tOp oMul (tVar 5) (tVar 3)) (tVar 1)) (tVar 2))))))))
theorem pu_law_backs {K : PySem.W.Frag} (vs : List V) (H : Hp) (Q : VK) (E : XK) (h : ∃ f p a b, vs = [.ref f, .int p, .int a, .int b] ∧ IsF K H f p ∧ Fd p a ∧ Fd p b ∧ ∀ H', Same H H' → Q (.bl true) H') :
    t_law_backs K { nx := fun _ H' => Q .non H', rt := Q } (start ["field", "prime", "one", "other", "back", "found"] vs) H := by
  obtain ⟨f, p, a, b, rfl, hf, ha, hb, q⟩ := h
  have hp := hf.pos
  have hf' := hf
  obtain ⟨dx, h1, hpr, _⟩ := hf'
  have r1 : (1 : Int) % p = 1 := Int.emod_eq_of_lt (by omega) (by omega)
  walk_at "go"
  refine iteEq (fun c => ?_) (fun c => ?_)
  · walk_at "go"
    exact q H (Same.refl H)
  · walk_at "go"
    intro _ k H1 s1
    have hf1 := hf.mono s1
    have h11 := s1 _ _ h1
    have hr := inv_range (p := p) (n := b) (by omega)
    have mm : CMul (inv p b) b := .inl ⟨by omega, by omega⟩
    walk_at "go"
    refine iteNe (fun z => absurd (k.trans r1.symm) z) (fun _ => ?_)
    walk_at "go"
    intro _ k H2 s2
    have m0 : Fd p (a * inv p b % p) := ⟨Int.emod_nonneg _ (by omega), Int.emod_lt_of_pos _ (by omega)⟩
    have m3 : CMul (a * inv p b % p) b := .inl ⟨by omega, by omega⟩
    walk_at "go"
    have e : a * inv p b % p * b % p = a := by
      rw [Int.mul_emod, Int.emod_emod, ← Int.mul_emod, Int.mul_assoc, Int.mul_emod, k, Int.mul_one, Int.emod_emod, Int.emod_eq_of_lt ha.1 ha.2]
    show Q (.bl (decide (V.int (a * inv p b % p * b % p) = V.int a))) _
    rw [show decide (V.int (a * inv p b % p * b % p) = V.int a) = true from decide_eq_true (by rw [e])]
    exact q _ (s1.trans s2)
def sp_law_is_prime (K : PySem.W.Frag) : Sp := fun vs H Q _ => vs.length = 1 ∧ ∃ n, vs = [.int n] ∧ n < 2 ^ 60 ∧ Q (.bl (isPr n)) H
def t_law_is_prime_1 (K : PySem.W.Frag) : TS := (tSeq (tIfS (tTest (tOp rEq (tOp oMod (tVar 0) (tVar 1)) (tC (.int 0)))) (tRet (tC (.bl false))) tNext) (tAsg (tOp oAdd (tVar 1) (tC (.int 1))) (gName 1)))
def t_law_is_prime_2 (K : PySem.W.Frag) : TS := (tRet (tC (.bl true)))
def t_law_is_prime (K : PySem.W.Frag) : TS := (tSeq (tIfS (tTest (tOp oLt (tVar 0) (tC (.int 2)))) (tRet (tC (.bl false))) tNext) (tSeq (tAsg (tC (.int 2)) (gName 1)) (tSeq (tWhile (tTest (tOp oLe (tOp oMul (tVar 1) (tVar 1)) (tVar 0))) (t_law_is_prime_1 K)) (t_law_is_prime_2 K))))
theorem pu_law_is_prime {K : PySem.W.Frag} (vs : List V) (H : Hp) (Q : VK) (E : XK) (h : ∃ n, vs = [.int n] ∧ n < 2 ^ 60 ∧ Q (.bl (isPr n)) H) : t_law_is_prime K { nx := fun _ H' => Q .non H', rt := Q } (start ["number", "by"] vs) H := by
  obtain ⟨n, rfl, hn, q⟩ := h
  walk_at "go"
  refine iteD (fun c => ?_) (fun c => ?_)
  · rw [isPr_small c] at q
    exact q
  · walk_at "nrm"
    refine loopW (fun m σ H' => H' = H ∧ ∃ b : Int, σ = [some (.int n), some (.int b)] ∧ 2 ≤ b ∧ b ≤ n + 1 ∧ m = (n + 1 - b).toNat ∧ ∀ d : Int, 2 ≤ d → d < b → n % d ≠ 0) (n + 1 - 2).toNat ⟨rfl, 2, rfl, by omega, by omega, rfl, fun d h1 h2 => by omega⟩ ?_
    rintro m σ _ ⟨rfl, b, rfl, h2, hb, rfl, hd⟩
    have hm : CMul b b := .inl ⟨by omega, by omega⟩
    walk_at "go"
    refine iteD (fun c1 => turnW ?_) (fun c1 => ?_)
    · walk_at "go"
      refine iteEq (fun c2 => ?_) (fun c2 => ?_)
      · rw [isPr_false h2 c1 c2] at q
        exact q
      · have hbn : b ≤ n := by
          have : 1 * b ≤ b * b := Int.mul_le_mul_of_nonneg_right (by omega) (by omega)
          omega
        walk_at "go"
        refine ⟨⟨_, ?_, rfl, b + 1, rfl, by omega, by omega, rfl, fun d h1 h3 => ?_⟩⟩
        · omega
        · by_cases e : d = b
          · rw [e]; exact c2
          · exact hd d h1 (by omega)
    · have e : isPr n = true := isPr_iff.mpr ⟨by omega, fun d h1 h3 => hd d h1 (by
        by_cases z : d < b
        · exact z
        · have : b * b ≤ d * d := Int.mul_le_mul (by omega) (by omega) (by omega) (by omega)
          omega)⟩
      rw [e] at q
      exact q
def sp_law (K : PySem.W.Frag) : Sp := fun vs H Q _ => vs.length = 1 ∧ ∃ (a : Addr) (ns : List Int), vs = [.ref a] ∧ SqL K H a (ns.map V.int) ∧ ns.length ≤ 63 ∧ ∀ H', Q (.bl true) H'
def t_law_1 (K : PySem.W.Frag) : TS := (tSeq (tAsg (tLc (iRng1 (tCons (tC (.int 6)) tNil)) (gName 13) tYes (tCallSD (sp_law_mixed K) [] (fun _ => E0) (tCons (tVar 4) (tCons (tVar 13) tNil))) [12, 13]) (gName 5)) (tSeq (tAsg (tOp oMod (tOp (rIxL K) (tVar 5) (tC (.int 0))) (tC (.int 3))) (gName 6)) (tSeq (tPar 7 2 (tCons (tOp (rIxL K) (tVar 3) (tVar 6)) (tCons (tOp (rIxL K) (tVar 1) (tVar 6)) tNil))) (tSeq (tAsg (tOp oSub (tOp oMul (tOp (rIxL K) (tVar 5) (tC (.int 1))) (tOp oPow (tOp oAdd (tOp (rIxL K) (tVar 5) (tC (.int 2))) (tC (.int 1))) (tC (.int 3)))) (tOp oMod (tOp oPow (tOp (rIxL K) (tVar 5) (tC (.int 3))) (tC (.int 4))) (tOp oPow (tC (.int 10)) (tC (.int 39))))) (gName 8)) (tSeq (tAsg (xMeth (He.ga K "Field") "fit" (sp_Field_fit K) [] (fun _ => E0) (tVar 7) (tCons (tVar 8) tNil)) (gName 9)) (tSeq (tIfS (tNot (tB (tCallSD (sp_law_in K) [] (fun _ => E0) (tCons (tVar 9) (tCons (tVar 2) tNil))))) (tRet (tC (.bl false))) tNext) (tSeq (tIfS (tTest (tOp rNe (tOp oMod (tOp oSub (tVar 8) (tVar 9)) (tVar 2)) (tC (.int 0)))) (tRet (tC (.bl false))) tNext) (tSeq (tIfS (tTest (tOp rNe (xFld (He.ga K "Field") (tVar 7) "prime") (tVar 2))) (tRet (tC (.bl false))) tNext) (tSeq (tAsg (tCallSD (sp_law_one K) [] (fun _ => E0) (tCons (tOp (rIxL K) (tVar 5) (tC (.int 4))) (tCons (tVar 2) tNil))) (gName 10)) (tSeq (tAsg (tCallSD (sp_law_one K) [] (fun _ => E0) (tCons (tOp (rIxL K) (tVar 5) (tC (.int 5))) (tCons (tVar 2) tNil))) (gName 11)) (tSeq (tIfS (tNot (tB (tCallSD (sp_law_sums K) [] (fun _ => E0) (tCons (tVar 7) (tCons (tVar 2) (tCons (tVar 10) (tCons (tVar 11) tNil))))))) (tRet (tC (.bl false))) tNext) (tSeq (tIfS (tNot (tB (tCallSD (sp_law_backs K) [] (fun _ => E0) (tCons (tVar 7) (tCons (tVar 2) (tCons (tVar 10) (tCons (tVar 11) tNil))))))) (tRet (tC (.bl false))) tNext) (tIfS (tTest (tOp rNe (tCallSD (sp_is_prime K) [] (fun _ => E0) (tCons (tOp oMod (tOp (rIxL K) (tVar 5) (tC (.int 2))) (tC (.int 2000))) tNil)) (tCallSD (sp_law_is_prime K) [] (fun _ => E0) (tCons (tOp oMod (tOp (rIxL K) (tVar 5) (tC (.int 2))) (tC (.int 2000))) tNil)))) (tRet (tC (.bl false))) tNext)))))))))))))
def t_law_2 (K : PySem.W.Frag) : TS := (tRet (tC (.bl true)))
def t_law (K : PySem.W.Frag) : TS := (tSeq (tAsg (tLc (iRng1 (tCons (tC (.int 3)) tNil)) (gName 13) tYes (tCallSD (sp_law_prime K) [] (fun _ => E0) (tCons (tOp oAdd (tCallSD (sp_law_cell_at K) [] (fun _ => E0) (tCons (tVar 0) (tCons (tVar 13) tNil))) (tOp oMul (tC (.int 7)) (tVar 13))) tNil)) [12, 13]) (gName 1)) (tSeq (tIfS (tTest (tOp (rIn K false) (tC (.int 0)) (tVar 1))) (tRet (tC (.bl false))) tNext) (tSeq (tAsg (tLc (iList K (tVar 1)) (gName 2) tYes (xMake (He.ga K "Field") (sp_Field___init__ K) [] (fun _ => E0) (tCons (tVar 2) tNil)) [12, 2]) (gName 3)) (tSeq (tFor (iList K (tOp rCat (tSl (rSlL K) (tVar 0) (tPart (tC (.int 3))) (tPart (tC (.int 15)))) (tLst (tCons (tC (.int 4)) (tCons (tC (.int 5)) tNil))))) (gName 4) (t_law_1 K)) (t_law_2 K)))))
theorem pu_law {K : PySem.W.Frag} (vs : List V) (H : Hp) (Q : VK) (E : XK) (h : ∃ (a : Addr) (ns : List Int), vs = [.ref a] ∧ SqL K H a (ns.map V.int) ∧ ns.length ≤ 63 ∧ ∀ H', Q (.bl true) H') :
    t_law K { nx := fun _ H' => Q .non H', rt := Q } (start ["script", "primes", "prime", "fields", "cell", "xs", "which", "field", "far", "found", "one", "other", ".0", "k"] vs) H := by
  obtain ⟨a, ns, rfl, hs, hl, q⟩ := h
  walk_at "go"
  refine lcH walk_range (fun i v _ => ∃ p : Int, v = .int p ∧ isPr p = true ∧ p ≤ 1000000) (fun i v H1 H2 D xs _ _ h => h) (show 3 < sizeLine by decide) (fun _ _ => trivial) ?_ ?_
  · rintro i x H1 _ F hi s1 ⟨rfl, rfl⟩ hF
    refine ⟨rfl, ?_⟩
    have hs1 := s1.seq hs
    have hi : i < 3 := hi
    walk_at "go"
    intro n
    have m1 : CMul 7 (0 + (i : Int)) := .inl (by decide)
    walk_at "go"
    intro p H' s2 h1 h2
    exact hF _ _ s2 ⟨p, rfl, h1, h2⟩
  intro p H1 ys np s1 ep hy hp
  obtain ⟨p0, p1, p2, rfl, a0, b0, a1, b1, a2, b2⟩ : ∃ p0 p1 p2 : Int, ys = [.int p0, .int p1, .int p2] ∧ isPr p0 = true ∧ p0 ≤ 1000000 ∧ isPr p1 = true ∧ p1 ≤ 1000000 ∧ isPr p2 = true ∧ p2 ≤ 1000000 := by
    match ys, hy, hp with
    | [x, y, z], _, hp =>
      obtain ⟨p0, rfl, a0, b0⟩ := hp 0 x rfl
      obtain ⟨p1, rfl, a1, b1⟩ := hp 1 y rfl
      obtain ⟨p2, rfl, a2, b2⟩ := hp 2 z rfl
      exact ⟨p0, p1, p2, rfl, a0, b0, a1, b1, a2, b2⟩
  have q0 := isPr_pos a0
  have q1 := isPr_pos a1
  have q2 := isPr_pos a2
  have el : SqL K H1 p [.int p0, .int p1, .int p2] := SqL.of ep
  have elo : SqL K H1 p [.int p0, .int p1, .int p2] ∨ SqT K H1 p [.int p0, .int p1, .int p2] := .inl el
  walk_at "go"
  have hin : inV (.int 0) [.int p0, .int p1, .int p2] = false := by
    simp only [inV, List.any_cons, List.any_nil, eqV]
    simp
    omega
  refine iteB (fun z => by rw [hin] at z; cases z) (fun _ => ?_)
  walk_at "go"
  refine lcH (walk_list (xs := [.int p0, .int p1, .int p2])) (fun i v H => ∃ f p, v = .ref f ∧ ([p0, p1, p2] : List Int)[i]? = some p ∧ IsF K H f p) ?_ (show 3 < sizeLine by decide) (fun _ s => s.seq el) ?_ ?_
  · rintro i v H1 H2 D xs hb hD ⟨f, p, rfl, e, dx, h1, h2⟩
    refine ⟨f, p, rfl, e, dx, hb _ _ (fun z => ?_) h1, h2⟩
    rw [z, hD] at h1
    cases h1
  · rintro i x H2 _ F hi s2 ⟨rfl, hx⟩ hF
    refine ⟨rfl, ?_⟩
    have hi : i < 3 := hi
    obtain ⟨r, rfl, hr, hr1, hr2⟩ : ∃ r, x = .int r ∧ ([p0, p1, p2] : List Int)[i]? = some r ∧ isPr r = true ∧ r ≤ 1000000 := by
      match i, hi, hx with
      | 0, _, hx => cases hx; exact ⟨p0, rfl, rfl, a0, b0⟩
      | 1, _, hx => cases hx; exact ⟨p1, rfl, rfl, a1, b1⟩
      | 2, _, hx => cases hx; exact ⟨p2, rfl, rfl, a2, b2⟩
    walk_at "go"
    refine use_Field hr1 hr2 (fun f H3 nf s3 hf => hF _ _ s3 ⟨f, r, rfl, hr, hf⟩)
  intro q3 H2 fs n3 s2 e3 hy3 hp3
  obtain ⟨f0, f1, f2, rfl, g0, g1, g2⟩ : ∃ f0 f1 f2 : Addr, fs = [.ref f0, .ref f1, .ref f2] ∧ IsF K H2 f0 p0 ∧ IsF K H2 f1 p1 ∧ IsF K H2 f2 p2 := by
    match fs, hy3, hp3 with
    | [x, y, z], _, hp =>
      obtain ⟨u0, v0, rfl, w0, t0⟩ := hp 0 x rfl
      obtain ⟨u1, v1, rfl, w1, t1⟩ := hp 1 y rfl
      obtain ⟨u2, v2, rfl, w2, t2⟩ := hp 2 z rfl
      cases w0; cases w1; cases w2
      exact ⟨u0, u1, u2, rfl, t0, t1, t2⟩
  have el2 := s2.seq el
  have ef2 : SqL K H2 q3 [.ref f0, .ref f1, .ref f2] := SqL.of e3
  have hs2 := (s1.trans s2).seq hs
  walk_at "go"
  intro c1 nc1
  walk_at "go"
  intro c2 nc2
  have hlen : (cutV (ns.map V.int) (some 3) (some 15)).length + 2 ≤ sizeLine := by
    have : (cutV (ns.map V.int) (some 3) (some 15)).length ≤ 63 := by
      unfold cutV
      rw [List.length_take, List.length_drop, List.length_map]
      omega
    have h2 : (65 : Nat) ≤ sizeLine := by decide
    omega
  have ec1 := upd_at (u := .lst [.int 4, .int 5]) nc2 (upd_same (H := H2) (a := c1) (o := .lst (cutV (ns.map V.int) (some 3) (some 15))))
  walk_at "go"
  intro c3 nc3
  have s3 := ((same_new nc1).trans (same_new nc2)).trans (same_new (o := .lst (cutV (ns.map V.int) (some 3) (some 15) ++ [.int 4, .int 5])) nc3)
  walk_at "go"
  have hall : ∀ x ∈ cutV (ns.map V.int) (some 3) (some 15) ++ [.int 4, .int 5], ∃ n, x = V.int n := by
    intro x hx
    rcases List.mem_append.mp hx with hx | hx
    · have : x ∈ ns.map V.int := List.mem_of_mem_drop (List.mem_of_mem_take hx)
      obtain ⟨n, _, e⟩ := List.mem_map.mp this
      exact ⟨n, e.symm⟩
    · simp only [List.mem_cons, List.not_mem_nil, or_false] at hx
      rcases hx with rfl | rfl
      · exact ⟨4, rfl⟩
      · exact ⟨5, rfl⟩
  generalize hcs : cutV (ns.map V.int) (some 3) (some 15) ++ [.int 4, .int 5] = cs at *
  generalize hH3 : upd _ c3 (.lst cs) = H3 at *
  have ecs : SqL K H3 c3 cs := by rw [← hH3]; exact sqL_new
  refine loop1 (walk_list (xs := cs)) 4 (fun i σ H' => Same H3 H' ∧ ∃ x2 x4 x5 x6 x7 x8 x9 x10 x11, σ = [some (.ref a), some (.ref p), x2, some (.ref q3), x4, x5, x6, x7, x8, x9, x10, x11, none, none]) ⟨Same.refl H3, none, none, none, none, none, none, none, none, none, rfl⟩ (fun i σ H' _ h => h.1.seq ecs) ?_ ?_
  · rintro i x σ H4 _ hi ⟨s4, x2, x4, x5, x6, x7, x8, x9, x10, x11, rfl⟩ ⟨rfl, hx⟩
    obtain ⟨c, rfl⟩ := hall x (List.mem_of_getElem? hx)
    unfold t_law_1
    walk_at "go"
    refine lcH walk_range (fun i v _ => ∃ n : Int, v = .int n ∧ 0 ≤ n ∧ n < 2147483647) (fun i v H1 H2 D xs _ _ h => h) (show 6 < sizeLine by decide) (fun _ _ => trivial) ?_ ?_
    · rintro j y H5 _ F hj s5 ⟨rfl, rfl⟩ hF
      have hj : j < 6 := hj
      refine ⟨rfl, ?_⟩
      walk_at "go"
      intro n h1 h2
      exact hF _ _ (Same.refl _) ⟨n, rfl, h1, h2⟩
    intro d H5 zs nd s5 ed hz hzp
    obtain ⟨z0, z1, z2, z3, z4, z5, rfl, l0, u0, l1, u1, l2, u2, l3, u3⟩ : ∃ z0 z1 z2 z3 z4 z5 : Int, zs = [.int z0, .int z1, .int z2, .int z3, .int z4, .int z5] ∧ 0 ≤ z0 ∧ z0 < 2147483647 ∧ 0 ≤ z1 ∧ z1 < 2147483647 ∧ 0 ≤ z2 ∧ z2 < 2147483647 ∧ 0 ≤ z3 ∧ z3 < 2147483647 := by
      match zs, hz, hzp with
      | [w0, w1, w2, w3, w4, w5], _, hp =>
        obtain ⟨z0, rfl, l0, u0⟩ := hp 0 w0 rfl
        obtain ⟨z1, rfl, l1, u1⟩ := hp 1 w1 rfl
        obtain ⟨z2, rfl, l2, u2⟩ := hp 2 w2 rfl
        obtain ⟨z3, rfl, l3, u3⟩ := hp 3 w3 rfl
        obtain ⟨z4, rfl, _, _⟩ := hp 4 w4 rfl
        obtain ⟨z5, rfl, _, _⟩ := hp 5 w5 rfl
        exact ⟨z0, z1, z2, z3, z4, z5, rfl, l0, u0, l1, u1, l2, u2, l3, u3⟩
    have sd : SqL K H5 d [.int z0, .int z1, .int z2, .int z3, .int z4, .int z5] := SqL.of ed
    have s35 := s4.trans s5
    have sp5 := s35.seq (s3.seq el2)
    have sf5 := s35.seq (s3.seq ef2)
    obtain ⟨f, r, ep5, ef5, hf5⟩ : ∃ f r, atI [V.int p0, .int p1, .int p2] (z0 % 3) = some (.int r) ∧ atI [V.ref f0, .ref f1, .ref f2] (z0 % 3) = some (.ref f) ∧ IsF K H5 f r := by
      have b0 := Int.emod_nonneg z0 (show (3 : Int) ≠ 0 by decide)
      have b1 := Int.emod_lt_of_pos z0 (show (0 : Int) < 3 by decide)
      generalize z0 % 3 = k at b0 b1
      by_cases k0 : k = 0
      · subst k0; exact ⟨f0, p0, rfl, rfl, (g0.mono s3).mono s35⟩
      by_cases k1 : k = 1
      · subst k1; exact ⟨f1, p1, rfl, rfl, (g1.mono s3).mono s35⟩
      have k2 : k = 2 := by omega
      subst k2; exact ⟨f2, p2, rfl, rfl, (g2.mono s3).mono s35⟩
    have hr := hf5.pos
    have hf5' := hf5
    obtain ⟨dx5, hdx5, hpr5, _⟩ := hf5'
    have a0 : atI [V.int z0, .int z1, .int z2, .int z3, .int z4, .int z5] 0 = some (.int z0) := rfl
    have a1 : atI [V.int z0, .int z1, .int z2, .int z3, .int z4, .int z5] 1 = some (.int z1) := rfl
    have a2 : atI [V.int z0, .int z1, .int z2, .int z3, .int z4, .int z5] 2 = some (.int z2) := rfl
    have a3 : atI [V.int z0, .int z1, .int z2, .int z3, .int z4, .int z5] 3 = some (.int z3) := rfl
    have a4 : atI [V.int z0, .int z1, .int z2, .int z3, .int z4, .int z5] 4 = some (.int z4) := rfl
    have a5 : atI [V.int z0, .int z1, .int z2, .int z3, .int z4, .int z5] 5 = some (.int z5) := rfl
    have w1 : CPow (z2 + 1) 3 := ⟨by decide, by decide, by omega⟩
    have w2 : CPow z3 4 := ⟨by decide, by decide, by omega⟩
    have w3 : CPow 10 39 := ⟨by decide, by decide, by decide⟩
    have w4 : ∀ y : Int, CMul z1 y := fun y => .inl ⟨by omega, by omega⟩
    have w4 := w4 ((z2 + 1) ^ (3 : Int).toNat)
    have w5 : (0 : Int) < 10 ^ (39 : Int).toNat := by decide
    have m0 : ∀ z : Int, Fd r (z % r) := fun z => ⟨Int.emod_nonneg z (by omega), Int.emod_lt_of_pos z (by omega)⟩
    have m1 : ∀ z : Int, (z - z % r) % r = 0 := fun z => by rw [Int.sub_emod, Int.emod_emod, Int.sub_self, Int.zero_emod]
    walk_at "go"
    refine ⟨m0 _, ?_⟩
    walk_at "go"
    refine iteNe (fun z => absurd (m1 _) z) (fun _ => ?_)
    walk_at "go"
    refine iteNe (fun z => absurd rfl z) (fun _ => ?_)
    walk_at "go"
    intro n1 H6 s6 hn1
    have sd6 := s6.seq sd
    have hf6 := hf5.mono s6
    walk_at "go"
    intro n2 H7 s7 hn2
    have sd7 := s7.seq sd6
    have hf7 := hf6.mono s7
    walk_at "go"
    intro H8 s8
    have sd8 := s8.seq sd7
    have hf8 := hf7.mono s8
    walk_at "go"
    intro H9 s9
    have sd9 := s9.seq sd8
    walk_at "go"
    refine iteN (fun z => absurd rfl z) (fun _ => ?_)
    refine ⟨?_⟩
    exact ⟨(((s35.trans s6).trans s7).trans s8).trans s9, _, _, _, _, _, _, _, _, _, rfl⟩
  · rintro σ H' ⟨s4, x2, x4, x5, x6, x7, x8, x9, x10, x11, rfl⟩
    unfold t_law_2
    walk_at "nrm"
    exact q _
end Mx

set_option Elab.async false
set_option linter.all false
set_option maxRecDepth 100000
set_option maxHeartbeats 0
namespace LX
open PySem PySem.Spec PyProof.Rows L2 Mx
def top (i : Nat) : Stmt := PySem.Challenge.pw_mixposts_k03_whole_fields_by_turns.main.body.getD i (.Pass ⟨0, 0, 0, 0⟩)
abbrev s_is_prime : Stmt := top 6
abbrev s_law_prime : Stmt := top 11
abbrev s_law_cell_at : Stmt := top 9
abbrev s_Field___init__ : Stmt := inClass (top 7) 0
abbrev s_law_mixed : Stmt := top 10
abbrev s_Field_fit : Stmt := inClass (top 7) 1
abbrev s_law_in : Stmt := top 13
abbrev s_law_one : Stmt := top 12
abbrev s_Field_minus : Stmt := inClass (top 7) 3
abbrev s_Field_plus : Stmt := inClass (top 7) 2
abbrev s_Field_times : Stmt := inClass (top 7) 4
abbrev s_law_sums : Stmt := top 15
abbrev s_Field_back : Stmt := inClass (top 7) 5
abbrev s_Field_over : Stmt := inClass (top 7) 6
abbrev s_law_refused : Stmt := top 14
abbrev s_law_backs : Stmt := top 16
abbrev s_law_is_prime : Stmt := top 17
abbrev s_law : Stmt := top 18
def d_is_prime : He.DefD := ⟨("is_prime", none), "is_prime", "is_prime", defArgs s_is_prime, defBody s_is_prime, defScope s_is_prime, [], []⟩
def d_law_prime : He.DefD := ⟨("_law_prime", none), "_law_prime", "_law_prime", defArgs s_law_prime, defBody s_law_prime, defScope s_law_prime, [], []⟩
def d_law_cell_at : He.DefD := ⟨("_law_cell_at", none), "_law_cell_at", "_law_cell_at", defArgs s_law_cell_at, defBody s_law_cell_at, defScope s_law_cell_at, [], []⟩
def d_Field___init__ : He.DefD := ⟨("Field", some "__init__"), "__init__", "Field.__init__", defArgs s_Field___init__, defBody s_Field___init__, defScope s_Field___init__, [], []⟩
def d_law_mixed : He.DefD := ⟨("_law_mixed", none), "_law_mixed", "_law_mixed", defArgs s_law_mixed, defBody s_law_mixed, defScope s_law_mixed, [], []⟩
def d_Field_fit : He.DefD := ⟨("Field", some "fit"), "fit", "Field.fit", defArgs s_Field_fit, defBody s_Field_fit, defScope s_Field_fit, [], []⟩
def d_law_in : He.DefD := ⟨("_law_in", none), "_law_in", "_law_in", defArgs s_law_in, defBody s_law_in, defScope s_law_in, [], []⟩
def d_law_one : He.DefD := ⟨("_law_one", none), "_law_one", "_law_one", defArgs s_law_one, defBody s_law_one, defScope s_law_one, [], []⟩
def d_Field_minus : He.DefD := ⟨("Field", some "minus"), "minus", "Field.minus", defArgs s_Field_minus, defBody s_Field_minus, defScope s_Field_minus, [], []⟩
def d_Field_plus : He.DefD := ⟨("Field", some "plus"), "plus", "Field.plus", defArgs s_Field_plus, defBody s_Field_plus, defScope s_Field_plus, [], []⟩
def d_Field_times : He.DefD := ⟨("Field", some "times"), "times", "Field.times", defArgs s_Field_times, defBody s_Field_times, defScope s_Field_times, [], []⟩
def d_law_sums : He.DefD := ⟨("_law_sums", none), "_law_sums", "_law_sums", defArgs s_law_sums, defBody s_law_sums, defScope s_law_sums, [], []⟩
def d_Field_back : He.DefD := ⟨("Field", some "back"), "back", "Field.back", defArgs s_Field_back, defBody s_Field_back, defScope s_Field_back, [], []⟩
def d_Field_over : He.DefD := ⟨("Field", some "over"), "over", "Field.over", defArgs s_Field_over, defBody s_Field_over, defScope s_Field_over, [], []⟩
def d_law_refused : He.DefD := ⟨("_law_refused", none), "_law_refused", "_law_refused", defArgs s_law_refused, defBody s_law_refused, defScope s_law_refused, [], []⟩
def d_law_backs : He.DefD := ⟨("_law_backs", none), "_law_backs", "_law_backs", defArgs s_law_backs, defBody s_law_backs, defScope s_law_backs, [], []⟩
def d_law_is_prime : He.DefD := ⟨("_law_is_prime", none), "_law_is_prime", "_law_is_prime", defArgs s_law_is_prime, defBody s_law_is_prime, defScope s_law_is_prime, [], []⟩
def d_law : He.DefD := ⟨("law", none), "law", "law", defArgs s_law, defBody s_law, defScope s_law, [], []⟩
def fn0 : List He.DefD := [d_is_prime,
  d_law_prime,
  d_law_cell_at,
  d_Field___init__,
  d_law_mixed,
  d_Field_fit,
  d_law_in,
  d_law_one,
  d_Field_minus,
  d_Field_plus,
  d_Field_times,
  d_law_sums]
def fn1 : List He.DefD := [d_Field_back,
  d_Field_over,
  d_law_refused,
  d_law_backs,
  d_law_is_prime,
  d_law]
def fn : List He.DefD := fn0 ++ fn1
def fa0 : List He.Fa := [.free "range",
  .glo "is_prime",
  .free "len",
  .glo "_law_cell_at",
  .glo "_law_prime",
  .int "GREATEST" 1000000,
  .exc "NoPrime",
  .glo "NoPrime",
  .noat "Field" "prime",
  .cls "Field",
  .mkr "Field",
  .glo "Field"]
def fa1 : List He.Fa := [.glo "_law_mixed",
  .meth "Field" "fit",
  .free "int",
  .free "isinstance",
  .free "bool",
  .glo "_law_in",
  .free "min",
  .glo "_law_one",
  .meth "Field" "minus",
  .meth "Field" "plus",
  .meth "Field" "times",
  .glo "_law_sums"]
def fa2 : List He.Fa := [.glo "NoBack",
  .exc "NoBack",
  .free "divmod",
  .meth "Field" "back",
  .meth "Field" "over",
  .glo "PostError",
  .free "ValueError",
  .glo "_law_refused",
  .glo "_law_backs",
  .glo "_law_is_prime",
  .glo "law"]
def fa : List He.Fa := fa0 ++ fa1 ++ fa2
def fx0 : List Fx := [.excC "NoBack",
  .kitR "NoBack" "PostError" true,
  .kitT "NoBack" "ValueError" true,
  .kitR "NoBack" "NoPrime" false,
  .exm "NoBack" "NoBack" true]
def fx : List Fx := fx0
/-- what the top has written -/
structure Su (K : PySem.W.Frag) (mg : Str → Option Value) : Prop where
  c : SaysX fa fn fx K
  X : ∃ h : Heap, K.In h ∧ h.Ns mainGlobals mg
section
variable {P : Program} {w : World} {K : PySem.W.Frag} {mg : Str → Option Value} {base : Heap}
theorem Su.glo (S : Su K mg) (i : Nat) {x : Str} (h : fa[i]? = some (.glo x) := by rfl) : mg x = some (.ref (He.ga K x)) := let ⟨_, X, G⟩ := S.X; He.glo_ok X G (S.c.d.fact i h)
theorem Su.fre (S : Su K mg) (i : Nat) {x : Str} (h : fa[i]? = some (.free x) := by rfl) : mg x = none := let ⟨_, X, G⟩ := S.X; He.free_ok X G (S.c.d.fact i h)
theorem Su.int (S : Su K mg) (i : Nat) {x : Str} {z : Int} (h : fa[i]? = some (.int x z) := by rfl) : ∃ u, mg x = some u ∧ RelV (.int z) u := let ⟨_, X, G⟩ := S.X; let ⟨t, e⟩ := He.int_ok X G (S.c.d.fact i h); ⟨_, e, t, rfl⟩
theorem Su.str (S : Su K mg) (i : Nat) {x z : Str} (h : fa[i]? = some (.str x z) := by rfl) : ∃ u, mg x = some u ∧ RelV (.str z) u := let ⟨_, X, G⟩ := S.X; let ⟨t, e⟩ := He.str_ok X G (S.c.d.fact i h); ⟨_, e, t, rfl⟩
theorem Su.f_range (S : Su K mg) : mg "range" = none := S.fre 0
theorem Su.g_is_prime (S : Su K mg) : mg "is_prime" = some (.ref (He.ga K "is_prime")) := S.glo 1
theorem Su.f_len (S : Su K mg) : mg "len" = none := S.fre 2
theorem Su.g_law_cell_at (S : Su K mg) : mg "_law_cell_at" = some (.ref (He.ga K "_law_cell_at")) := S.glo 3
theorem Su.g_law_prime (S : Su K mg) : mg "_law_prime" = some (.ref (He.ga K "_law_prime")) := S.glo 4
theorem Su.c_GREATEST (S : Su K mg) : ∃ u, mg "GREATEST" = some u ∧ RelV (.int 1000000) u := S.int 5
theorem Su.x_NoPrime (S : Su K mg) : PySem.W.excIn K (He.ga K "NoPrime") He.veBase "ValueError.__new__" = true ∧ PySem.W.keepIn K (.ref (He.ga K "NoPrime")) = true ∧ PySem.W.subIn K (.ref (He.ga K "NoPrime")) (.type "BaseException") = some true ∧ PySem.W.typeIn K (.ref (He.ga K "NoPrime")) = some (.type "type") := He.exc_ok (S.c.d.fact 6 rfl)
theorem Su.g_NoPrime (S : Su K mg) : mg "NoPrime" = some (.ref (He.ga K "NoPrime")) := S.glo 7
theorem Su.n_Field_prime (S : Su K mg) : NoAttr K (He.ga K "Field") "prime" := He.noat_ok (S.c.d.fact 8 rfl)
theorem Su.k_Field (S : Su K mg) : Cls K (He.ga K "Field") := He.cls_ok (S.c.d.fact 9 rfl)
theorem Su.m_Field (S : Su K mg) : Mk K (He.ga K "Field") (He.ma K (He.ga K "Field") "__init__") := He.mkr_ok (S.c.d.fact 10 rfl)
theorem Su.g_Field (S : Su K mg) : mg "Field" = some (.ref (He.ga K "Field")) := S.glo 11
theorem Su.g_law_mixed (S : Su K mg) : mg "_law_mixed" = some (.ref (He.ga K "_law_mixed")) := S.glo 12
theorem Su.e_Field_fit (S : Su K mg) : Meth K (He.ga K "Field") "fit" (He.ma K (He.ga K "Field") "fit") := He.meth_ok (S.c.d.fact 13 rfl)
theorem Su.f_int (S : Su K mg) : mg "int" = none := S.fre 14
theorem Su.f_isinstance (S : Su K mg) : mg "isinstance" = none := S.fre 15
theorem Su.f_bool (S : Su K mg) : mg "bool" = none := S.fre 16
theorem Su.g_law_in (S : Su K mg) : mg "_law_in" = some (.ref (He.ga K "_law_in")) := S.glo 17
theorem Su.f_min (S : Su K mg) : mg "min" = none := S.fre 18
theorem Su.g_law_one (S : Su K mg) : mg "_law_one" = some (.ref (He.ga K "_law_one")) := S.glo 19
theorem Su.e_Field_minus (S : Su K mg) : Meth K (He.ga K "Field") "minus" (He.ma K (He.ga K "Field") "minus") := He.meth_ok (S.c.d.fact 20 rfl)
theorem Su.e_Field_plus (S : Su K mg) : Meth K (He.ga K "Field") "plus" (He.ma K (He.ga K "Field") "plus") := He.meth_ok (S.c.d.fact 21 rfl)
theorem Su.e_Field_times (S : Su K mg) : Meth K (He.ga K "Field") "times" (He.ma K (He.ga K "Field") "times") := He.meth_ok (S.c.d.fact 22 rfl)
theorem Su.g_law_sums (S : Su K mg) : mg "_law_sums" = some (.ref (He.ga K "_law_sums")) := S.glo 23
theorem Su.g_NoBack (S : Su K mg) : mg "NoBack" = some (.ref (He.ga K "NoBack")) := S.glo 24
theorem Su.x_NoBack (S : Su K mg) : PySem.W.excIn K (He.ga K "NoBack") He.veBase "ValueError.__new__" = true ∧ PySem.W.keepIn K (.ref (He.ga K "NoBack")) = true ∧ PySem.W.subIn K (.ref (He.ga K "NoBack")) (.type "BaseException") = some true ∧ PySem.W.typeIn K (.ref (He.ga K "NoBack")) = some (.type "type") := He.exc_ok (S.c.d.fact 25 rfl)
theorem Su.f_divmod (S : Su K mg) : mg "divmod" = none := S.fre 26
theorem Su.e_Field_back (S : Su K mg) : Meth K (He.ga K "Field") "back" (He.ma K (He.ga K "Field") "back") := He.meth_ok (S.c.d.fact 27 rfl)
theorem Su.e_Field_over (S : Su K mg) : Meth K (He.ga K "Field") "over" (He.ma K (He.ga K "Field") "over") := He.meth_ok (S.c.d.fact 28 rfl)
theorem Su.g_PostError (S : Su K mg) : mg "PostError" = some (.ref (He.ga K "PostError")) := S.glo 29
theorem Su.f_ValueError (S : Su K mg) : mg "ValueError" = none := S.fre 30
theorem Su.g_law_refused (S : Su K mg) : mg "_law_refused" = some (.ref (He.ga K "_law_refused")) := S.glo 31
theorem Su.g_law_backs (S : Su K mg) : mg "_law_backs" = some (.ref (He.ga K "_law_backs")) := S.glo 32
theorem Su.g_law_is_prime (S : Su K mg) : mg "_law_is_prime" = some (.ref (He.ga K "_law_is_prime")) := S.glo 33
theorem Su.g_law (S : Su K mg) : mg "law" = some (.ref (He.ga K "law")) := S.glo 34
theorem Su.xc_NoBack (S : Su K mg) : ExcC K (He.ga K "NoBack") := Fx.excC_ok (S.c.x 0 rfl)
theorem Su.kr_NoBack_PostError (S : Su K mg) : PySem.W.kitOne K (.ref (He.ga K "NoBack")) (.ref (He.ga K "PostError")) = some true := Fx.kitR_ok (S.c.x 1 rfl)
theorem Su.kt_NoBack_ValueError (S : Su K mg) : PySem.W.kitOne K (.ref (He.ga K "NoBack")) (.type "ValueError") = some true := Fx.kitT_ok (S.c.x 2 rfl)
theorem Su.kr_NoBack_NoPrime (S : Su K mg) : PySem.W.kitOne K (.ref (He.ga K "NoBack")) (.ref (He.ga K "NoPrime")) = some false := Fx.kitR_ok (S.c.x 3 rfl)
theorem Su.em_NoBack_NoBack (S : Su K mg) : PySem.W.exmOne K (.ref (He.ga K "NoBack")) (.ref (He.ga K "NoBack")) = some true := Fx.exm_ok (S.c.x 4 rfl)
theorem Su.exT (S : Su K mg) : ExT K := ⟨S.xc_NoBack, S.kr_NoBack_PostError, S.kt_NoBack_ValueError, S.kr_NoBack_NoPrime, S.em_NoBack_NoBack⟩
theorem sc_is_prime : FnScope ["number", "by"] ["number"] (defScope s_is_prime) := ⟨rfl, rfl, rfl, by decide +kernel, rfl, by decide +kernel, by decide +kernel⟩
theorem ok_is_prime (S : Su K mg) {fd : FuncData} {dvs : List V} (F : FunD K "is_prime" "is_prime" (defArgs s_is_prime) (defBody s_is_prime) (defScope s_is_prime) dvs [] (He.fAd K ("is_prime", none)) fd) : FnOk P w K mg base (L2.CX P w) 1 (He.fAd K ("is_prime", none)) fd ["number"] (sp_is_prime K) :=
  FunD.ok (k := 0) F sc_is_prime (fun vs H Q E h => h.1) fun cdv A outer s H vs Q E hr h => ⟨t_is_prime K, PSs.nox (by
    have nd := sc_is_prime.nd
    exact (pss_cons (ps_if (pt_cmpR op_lt (pv 0) pe_int (nomark _)) (pss_one (ps_ret pe_bl)) pss_nil) (pss_cons (ps_set (i := 1) nd rfl (.inl rfl) pe_int) (pss_cons (ps_while PassesOwn.never (pt_cmpR op_le (pe_op op_mul (pv 1) (pv 1)) (pv 0) (nomark _)) (pss_cons (ps_if (pt_cmpR op_eq (pe_op op_mod (pv 0) (pv 1)) pe_int (nomark _)) (pss_one (ps_ret pe_bl)) pss_nil) (pss_one (ps_aug (i := 1) nd rfl (.inl rfl) pe_int ip_add)))) (pss_one (ps_ret pe_bl)))))), pu_is_prime vs H Q E h.2⟩
theorem ca_is_prime (S : Su K mg) : Cal P w K mg base (He.fAd K ("is_prime", none)) ["number"] 1 [] (sp_is_prime K) := by
  obtain ⟨fd, F⟩ := S.c.d.def_ 0 (d := d_is_prime) rfl
  exact ⟨⟨fd, ok_is_prime S F, [], .nil, FunD.bindsN F fun _ _ _ _ _ _ us hl => match us, hl with | [_], _ => rfl⟩, F.kp⟩
theorem sc_law_prime : FnScope ["cell", "some", "number", "more"] ["cell"] (defScope s_law_prime) := ⟨rfl, rfl, rfl, by decide +kernel, rfl, by decide +kernel, by decide +kernel⟩
theorem ok_law_prime (S : Su K mg) {fd : FuncData} {dvs : List V} (F : FunD K "_law_prime" "_law_prime" (defArgs s_law_prime) (defBody s_law_prime) (defScope s_law_prime) dvs [] (He.fAd K ("_law_prime", none)) fd) : FnOk P w K mg base (L2.CX P w) 2 (He.fAd K ("_law_prime", none)) fd ["cell"] (sp_law_prime K) :=
  FunD.ok (k := 1) F sc_law_prime (fun vs H Q E h => h.1) fun cdv A outer s H vs Q E hr h => ⟨t_law_prime K, PSs.nox (by
    have nd := sc_law_prime.nd
    exact (pss_cons (ps_set (i := 1) nd rfl (.inl rfl) (pe_lst (pa_cons pe_int (pa_cons pe_int (pa_cons pe_int (pa_cons pe_int (pa_cons pe_int (pa_cons pe_int (pa_cons pe_int (pa_cons pe_int (pa_cons pe_int (pa_cons pe_int (pa_cons pe_int (pa_cons pe_int (pa_cons pe_int (pa_cons pe_int (pa_cons pe_int (pa_cons pe_int (pa_cons pe_int (pa_cons pe_int (pa_cons pe_int (pa_cons pe_int (pa_cons pe_int (pa_cons pe_int (pa_cons pe_int (pa_cons pe_int pa_nil)))))))))))))))))))))))))) (pss_cons (ps_if (pt_cmpR op_gt (pe_op op_mod (pv 0) pe_int) pe_int (nomark _)) (pss_one (ps_ret (pe_ix ix_list (pv 1) (pe_op op_mod (pe_op op_fdivW (pv 0) pe_int) pe_int) (fun _ _ => rfl)))) pss_nil) (pss_cons (ps_set (i := 2) nd rfl (.inl rfl) (pe_op op_add pe_int (pe_op op_mod (pe_op op_fdivW (pv 0) pe_int) pe_int))) (pss_cons (ps_for PassesOwn.never rfl (pi_range1 rfl S.f_range (pa_cons pe_int pa_nil)) (pg_name (i := 3) nd rfl (.inl rfl)) (pss_one (ps_if (pt_val (kc_call (ca_is_prime S) (hr.mono (by decide)) rfl S.g_is_prime px0 (pa_cons (pe_op op_add (pv 2) (pv 3)) pa_nil)) (by intro _; rfl)) (pss_one (ps_ret (pe_op op_add (pv 2) (pv 3)))) pss_nil))) (pss_one (ps_ret pe_int))))))), pu_law_prime vs H Q E h.2⟩
theorem ca_law_prime (S : Su K mg) : Cal P w K mg base (He.fAd K ("_law_prime", none)) ["cell"] 2 [] (sp_law_prime K) := by
  obtain ⟨fd, F⟩ := S.c.d.def_ 1 (d := d_law_prime) rfl
  exact ⟨⟨fd, ok_law_prime S F, [], .nil, FunD.bindsN F fun _ _ _ _ _ _ us hl => match us, hl with | [_], _ => rfl⟩, F.kp⟩
theorem sc_law_cell_at : FnScope ["script", "k"] ["script", "k"] (defScope s_law_cell_at) := ⟨rfl, rfl, rfl, by decide +kernel, rfl, by decide +kernel, by decide +kernel⟩
theorem ok_law_cell_at (S : Su K mg) {fd : FuncData} {dvs : List V} (F : FunD K "_law_cell_at" "_law_cell_at" (defArgs s_law_cell_at) (defBody s_law_cell_at) (defScope s_law_cell_at) dvs [] (He.fAd K ("_law_cell_at", none)) fd) : FnOk P w K mg base (L2.CX P w) 1 (He.fAd K ("_law_cell_at", none)) fd ["script", "k"] (sp_law_cell_at K) :=
  FunD.ok (k := 0) F sc_law_cell_at (fun vs H Q E h => h.1) fun cdv A outer s H vs Q E hr h => ⟨t_law_cell_at K, PSs.nox (by
    have nd := sc_law_cell_at.nd
    exact (pss_cons (ps_if (pt_cmpR op_lt (pv 1) (pe_callB call_len_seq rfl S.f_len (by decide +kernel) (pa_cons (pv 0) pa_nil)) (nomark _)) (pss_one (ps_ret (pe_ix ix_list (pv 0) (pv 1) (fun _ _ => rfl)))) pss_nil) (pss_one (ps_ret pe_int)))), pu_law_cell_at vs H Q E h.2⟩
theorem ca_law_cell_at (S : Su K mg) : Cal P w K mg base (He.fAd K ("_law_cell_at", none)) ["script", "k"] 1 [] (sp_law_cell_at K) := by
  obtain ⟨fd, F⟩ := S.c.d.def_ 2 (d := d_law_cell_at) rfl
  exact ⟨⟨fd, ok_law_cell_at S F, [], .nil, FunD.bindsN F fun _ _ _ _ _ _ us hl => match us, hl with | [_, _], _ => rfl⟩, F.kp⟩
theorem sc_Field___init__ : FnScope ["self", "prime"] ["self", "prime"] (defScope s_Field___init__) := ⟨rfl, rfl, rfl, by decide +kernel, rfl, by decide +kernel, by decide +kernel⟩
theorem ok_Field___init__ (S : Su K mg) {fd : FuncData} {dvs : List V} (F : FunD K "__init__" "Field.__init__" (defArgs s_Field___init__) (defBody s_Field___init__) (defScope s_Field___init__) dvs [] (He.fAd K ("Field", some "__init__")) fd) : FnOk P w K mg base (L2.CX P w) 2 (He.fAd K ("Field", some "__init__")) fd ["self", "prime"] (sp_Field___init__ K) :=
  FunD.ok (k := 1) F sc_Field___init__ (fun vs H Q E h => h.1) fun cdv A outer s H vs Q E hr h => ⟨t_Field___init__ K E, (by
    have nd := sc_Field___init__.nd
    have tk : Takes (cxOf (L2.CX P w) P w K mg base ["self", "prime"] "Field.__init__" (defScope s_Field___init__) (He.fAd K ("Field", some "__init__")) cdv A outer s H E) (fun cls d _ H => E cls d H) := takes_of rfl rfl rfl rfl
    exact (pss_cons (ps_if (PW.pt (pw_or (pt_cmpR op_gt (pv 1) (pe_glob rfl (S.c_GREATEST).choose_spec.1 (S.c_GREATEST).choose_spec.2) (nomark _)) (pw_or1 (pt_not (pt_val (kc_call (ca_is_prime S) (hr.mono (by decide)) rfl S.g_is_prime (pxE tk) (pa_cons (pv 1) pa_nil)) (by intro _; rfl)))))) (pss_one (ps_raise rfl tk (pmk_own PySem.F.excBase_ValueError S.x_NoPrime.1 S.g_NoPrime S.x_NoPrime.2.1 (raises_own S.x_NoPrime.2.2.1 S.x_NoPrime.2.2.2) rfl))) pss_nil) (pss_one (kc_sfld (pv 0) (pv 1) S.k_Field S.n_Field_prime rfl)))), pu_Field___init__ vs H Q E h.2⟩
theorem ca_Field___init__ (S : Su K mg) : Cal P w K mg base (He.fAd K ("Field", some "__init__")) ["self", "prime"] 2 [] (sp_Field___init__ K) := by
  obtain ⟨fd, F⟩ := S.c.d.def_ 3 (d := d_Field___init__) rfl
  exact ⟨⟨fd, ok_Field___init__ S F, [], .nil, FunD.bindsN F fun _ _ _ _ _ _ us hl => match us, hl with | [_, _], _ => rfl⟩, F.kp⟩
theorem sc_law_mixed : FnScope ["cell", "k", "number"] ["cell", "k"] (defScope s_law_mixed) := ⟨rfl, rfl, rfl, by decide +kernel, rfl, by decide +kernel, by decide +kernel⟩
theorem ok_law_mixed (S : Su K mg) {fd : FuncData} {dvs : List V} (F : FunD K "_law_mixed" "_law_mixed" (defArgs s_law_mixed) (defBody s_law_mixed) (defScope s_law_mixed) dvs [] (He.fAd K ("_law_mixed", none)) fd) : FnOk P w K mg base (L2.CX P w) 1 (He.fAd K ("_law_mixed", none)) fd ["cell", "k"] (sp_law_mixed K) :=
  FunD.ok (k := 0) F sc_law_mixed (fun vs H Q E h => h.1) fun cdv A outer s H vs Q E hr h => ⟨t_law_mixed K, PSs.nox (by
    have nd := sc_law_mixed.nd
    exact (pss_cons (ps_set (i := 2) nd rfl (.inl rfl) (pe_op op_mod (pe_op op_mul (pe_op op_add (pe_op op_add (pv 0) (pe_op op_mul pe_int (pv 1))) pe_int) pe_int) pe_int)) (pss_one (ps_ret (pe_op op_mod (pe_op op_mul (pv 2) (pe_op op_add (pe_op op_fdivW (pv 2) pe_int) pe_int)) pe_int))))), pu_law_mixed vs H Q E h.2⟩
theorem ca_law_mixed (S : Su K mg) : Cal P w K mg base (He.fAd K ("_law_mixed", none)) ["cell", "k"] 1 [] (sp_law_mixed K) := by
  obtain ⟨fd, F⟩ := S.c.d.def_ 4 (d := d_law_mixed) rfl
  exact ⟨⟨fd, ok_law_mixed S F, [], .nil, FunD.bindsN F fun _ _ _ _ _ _ us hl => match us, hl with | [_, _], _ => rfl⟩, F.kp⟩
theorem sc_Field_fit : FnScope ["self", "number"] ["self", "number"] (defScope s_Field_fit) := ⟨rfl, rfl, rfl, by decide +kernel, rfl, by decide +kernel, by decide +kernel⟩
theorem ok_Field_fit (S : Su K mg) {fd : FuncData} {dvs : List V} (F : FunD K "fit" "Field.fit" (defArgs s_Field_fit) (defBody s_Field_fit) (defScope s_Field_fit) dvs [] (He.fAd K ("Field", some "fit")) fd) : FnOk P w K mg base (L2.CX P w) 1 (He.fAd K ("Field", some "fit")) fd ["self", "number"] (sp_Field_fit K) :=
  FunD.ok (k := 0) F sc_Field_fit (fun vs H Q E h => h.1) fun cdv A outer s H vs Q E hr h => ⟨t_Field_fit K, PSs.nox (by
    have nd := sc_Field_fit.nd
    exact (pss_one (ps_ret (pe_op op_mod (pv 1) (kc_fld (pv 0) S.k_Field S.n_Field_prime rfl))))), pu_Field_fit vs H Q E h.2⟩
theorem ca_Field_fit (S : Su K mg) : Cal P w K mg base (He.fAd K ("Field", some "fit")) ["self", "number"] 1 [] (sp_Field_fit K) := by
  obtain ⟨fd, F⟩ := S.c.d.def_ 5 (d := d_Field_fit) rfl
  exact ⟨⟨fd, ok_Field_fit S F, [], .nil, FunD.bindsN F fun _ _ _ _ _ _ us hl => match us, hl with | [_, _], _ => rfl⟩, F.kp⟩
theorem sc_law_in : FnScope ["found", "prime"] ["found", "prime"] (defScope s_law_in) := ⟨rfl, rfl, rfl, by decide +kernel, rfl, by decide +kernel, by decide +kernel⟩
theorem ok_law_in (S : Su K mg) {fd : FuncData} {dvs : List V} (F : FunD K "_law_in" "_law_in" (defArgs s_law_in) (defBody s_law_in) (defScope s_law_in) dvs [] (He.fAd K ("_law_in", none)) fd) : FnOk P w K mg base (L2.CX P w) 1 (He.fAd K ("_law_in", none)) fd ["found", "prime"] (sp_law_in K) :=
  FunD.ok (k := 0) F sc_law_in (fun vs H Q E h => h.1) fun cdv A outer s H vs Q E hr h => ⟨t_law_in K, PSs.nox (by
    have nd := sc_law_in.nd
    exact (pss_one (ps_ret (pe_and (pe_callB kc_isT rfl S.f_isinstance (by decide +kernel) (pa_cons (pv 0) (pa_cons (pe_bltn rfl S.f_int (by decide +kernel) rfl) pa_nil))) (pe_and (pe_not (pe_callB kc_isT rfl S.f_isinstance (by decide +kernel) (pa_cons (pv 0) (pa_cons (pe_bltn rfl S.f_bool (by decide +kernel) rfl) pa_nil)))) (pe_one (pe_chain op_le op_lt pe_int (pv 0) (pv 1)))))))), pu_law_in vs H Q E h.2⟩
theorem ca_law_in (S : Su K mg) : Cal P w K mg base (He.fAd K ("_law_in", none)) ["found", "prime"] 1 [] (sp_law_in K) := by
  obtain ⟨fd, F⟩ := S.c.d.def_ 6 (d := d_law_in) rfl
  exact ⟨⟨fd, ok_law_in S F, [], .nil, FunD.bindsN F fun _ _ _ _ _ _ us hl => match us, hl with | [_, _], _ => rfl⟩, F.kp⟩
theorem sc_law_one : FnScope ["cell", "prime"] ["cell", "prime"] (defScope s_law_one) := ⟨rfl, rfl, rfl, by decide +kernel, rfl, by decide +kernel, by decide +kernel⟩
theorem ok_law_one (S : Su K mg) {fd : FuncData} {dvs : List V} (F : FunD K "_law_one" "_law_one" (defArgs s_law_one) (defBody s_law_one) (defScope s_law_one) dvs [] (He.fAd K ("_law_one", none)) fd) : FnOk P w K mg base (L2.CX P w) 1 (He.fAd K ("_law_one", none)) fd ["cell", "prime"] (sp_law_one K) :=
  FunD.ok (k := 0) F sc_law_one (fun vs H Q E h => h.1) fun cdv A outer s H vs Q E hr h => ⟨t_law_one K, PSs.nox (by
    have nd := sc_law_one.nd
    exact (pss_one (ps_ret (pe_ix ix_list (pe_lst (pa_cons pe_int (pa_cons pe_int (pa_cons (pe_op op_sub (pv 1) pe_int) (pa_cons (pe_op op_mod (pe_op op_fdivW (pv 0) pe_int) (pv 1)) pa_nil))))) (pe_callB (call_min2 rfl) rfl S.f_min (by decide +kernel) (pa_cons pe_int (pa_cons (pe_op op_mod (pv 0) pe_int) pa_nil))) (fun _ _ => rfl))))), pu_law_one vs H Q E h.2⟩
theorem ca_law_one (S : Su K mg) : Cal P w K mg base (He.fAd K ("_law_one", none)) ["cell", "prime"] 1 [] (sp_law_one K) := by
  obtain ⟨fd, F⟩ := S.c.d.def_ 7 (d := d_law_one) rfl
  exact ⟨⟨fd, ok_law_one S F, [], .nil, FunD.bindsN F fun _ _ _ _ _ _ us hl => match us, hl with | [_, _], _ => rfl⟩, F.kp⟩
theorem sc_Field_minus : FnScope ["self", "one", "other"] ["self", "one", "other"] (defScope s_Field_minus) := ⟨rfl, rfl, rfl, by decide +kernel, rfl, by decide +kernel, by decide +kernel⟩
theorem ok_Field_minus (S : Su K mg) {fd : FuncData} {dvs : List V} (F : FunD K "minus" "Field.minus" (defArgs s_Field_minus) (defBody s_Field_minus) (defScope s_Field_minus) dvs [] (He.fAd K ("Field", some "minus")) fd) : FnOk P w K mg base (L2.CX P w) 2 (He.fAd K ("Field", some "minus")) fd ["self", "one", "other"] (sp_Field_minus K) :=
  FunD.ok (k := 1) F sc_Field_minus (fun vs H Q E h => h.1) fun cdv A outer s H vs Q E hr h => ⟨t_Field_minus K, PSs.nox (by
    have nd := sc_Field_minus.nd
    exact (pss_one (ps_ret (kc_meth (pv 0) S.k_Field S.e_Field_fit (ca_Field_fit S) (hr.mono (by decide)) px0 (pa_cons (pe_op op_sub (pv 1) (pv 2)) pa_nil))))), pu_Field_minus vs H Q E h.2⟩
theorem ca_Field_minus (S : Su K mg) : Cal P w K mg base (He.fAd K ("Field", some "minus")) ["self", "one", "other"] 2 [] (sp_Field_minus K) := by
  obtain ⟨fd, F⟩ := S.c.d.def_ 8 (d := d_Field_minus) rfl
  exact ⟨⟨fd, ok_Field_minus S F, [], .nil, FunD.bindsN F fun _ _ _ _ _ _ us hl => match us, hl with | [_, _, _], _ => rfl⟩, F.kp⟩
theorem sc_Field_plus : FnScope ["self", "one", "other"] ["self", "one", "other"] (defScope s_Field_plus) := ⟨rfl, rfl, rfl, by decide +kernel, rfl, by decide +kernel, by decide +kernel⟩
theorem ok_Field_plus (S : Su K mg) {fd : FuncData} {dvs : List V} (F : FunD K "plus" "Field.plus" (defArgs s_Field_plus) (defBody s_Field_plus) (defScope s_Field_plus) dvs [] (He.fAd K ("Field", some "plus")) fd) : FnOk P w K mg base (L2.CX P w) 2 (He.fAd K ("Field", some "plus")) fd ["self", "one", "other"] (sp_Field_plus K) :=
  FunD.ok (k := 1) F sc_Field_plus (fun vs H Q E h => h.1) fun cdv A outer s H vs Q E hr h => ⟨t_Field_plus K, PSs.nox (by
    have nd := sc_Field_plus.nd
    exact (pss_one (ps_ret (kc_meth (pv 0) S.k_Field S.e_Field_fit (ca_Field_fit S) (hr.mono (by decide)) px0 (pa_cons (pe_op op_add (pv 1) (pv 2)) pa_nil))))), pu_Field_plus vs H Q E h.2⟩
theorem ca_Field_plus (S : Su K mg) : Cal P w K mg base (He.fAd K ("Field", some "plus")) ["self", "one", "other"] 2 [] (sp_Field_plus K) := by
  obtain ⟨fd, F⟩ := S.c.d.def_ 9 (d := d_Field_plus) rfl
  exact ⟨⟨fd, ok_Field_plus S F, [], .nil, FunD.bindsN F fun _ _ _ _ _ _ us hl => match us, hl with | [_, _, _], _ => rfl⟩, F.kp⟩
theorem sc_Field_times : FnScope ["self", "one", "other"] ["self", "one", "other"] (defScope s_Field_times) := ⟨rfl, rfl, rfl, by decide +kernel, rfl, by decide +kernel, by decide +kernel⟩
theorem ok_Field_times (S : Su K mg) {fd : FuncData} {dvs : List V} (F : FunD K "times" "Field.times" (defArgs s_Field_times) (defBody s_Field_times) (defScope s_Field_times) dvs [] (He.fAd K ("Field", some "times")) fd) : FnOk P w K mg base (L2.CX P w) 2 (He.fAd K ("Field", some "times")) fd ["self", "one", "other"] (sp_Field_times K) :=
  FunD.ok (k := 1) F sc_Field_times (fun vs H Q E h => h.1) fun cdv A outer s H vs Q E hr h => ⟨t_Field_times K, PSs.nox (by
    have nd := sc_Field_times.nd
    exact (pss_one (ps_ret (kc_meth (pv 0) S.k_Field S.e_Field_fit (ca_Field_fit S) (hr.mono (by decide)) px0 (pa_cons (pe_op op_mul (pv 1) (pv 2)) pa_nil))))), pu_Field_times vs H Q E h.2⟩
theorem ca_Field_times (S : Su K mg) : Cal P w K mg base (He.fAd K ("Field", some "times")) ["self", "one", "other"] 2 [] (sp_Field_times K) := by
  obtain ⟨fd, F⟩ := S.c.d.def_ 10 (d := d_Field_times) rfl
  exact ⟨⟨fd, ok_Field_times S F, [], .nil, FunD.bindsN F fun _ _ _ _ _ _ us hl => match us, hl with | [_, _, _], _ => rfl⟩, F.kp⟩
theorem sc_law_sums : FnScope ["field", "prime", "one", "other", "found", "due"] ["field", "prime", "one", "other"] (defScope s_law_sums) := ⟨rfl, rfl, rfl, by decide +kernel, rfl, by decide +kernel, by decide +kernel⟩
theorem ok_law_sums (S : Su K mg) {fd : FuncData} {dvs : List V} (F : FunD K "_law_sums" "_law_sums" (defArgs s_law_sums) (defBody s_law_sums) (defScope s_law_sums) dvs [] (He.fAd K ("_law_sums", none)) fd) : FnOk P w K mg base (L2.CX P w) 3 (He.fAd K ("_law_sums", none)) fd ["field", "prime", "one", "other"] (sp_law_sums K) :=
  FunD.ok (k := 2) F sc_law_sums (fun vs H Q E h => h.1) fun cdv A outer s H vs Q E hr h => ⟨t_law_sums K, PSs.nox (by
    have nd := sc_law_sums.nd
    exact (pss_cons (ps_for PassesOwn.never rfl (pi_list (pe_lst (pa_cons (pe_tup (pa_cons (kc_meth (pv 0) S.k_Field S.e_Field_plus (ca_Field_plus S) (hr.mono (by decide)) px0 (pa_cons (pv 2) (pa_cons (pv 3) pa_nil))) (pa_cons (pe_op op_add (pv 2) (pv 3)) pa_nil))) (pa_cons (pe_tup (pa_cons (kc_meth (pv 0) S.k_Field S.e_Field_minus (ca_Field_minus S) (hr.mono (by decide)) px0 (pa_cons (pv 2) (pa_cons (pv 3) pa_nil))) (pa_cons (pe_op op_sub (pv 2) (pv 3)) pa_nil))) pa_nil)))) (pg_tup rfl (pgs_cons (pg_name (i := 4) nd rfl (.inl rfl)) (pgs_cons (pg_name (i := 5) nd rfl (.inl rfl)) pgs_nil))) (pss_one (ps_if (PW.pt (pw_or (pt_not (pt_val (kc_call (ca_law_in S) (hr.mono (by decide)) rfl S.g_law_in px0 (pa_cons (pv 4) (pa_cons (pv 1) pa_nil))) (by intro _; rfl))) (pw_or1 (pt_cmpR op_ne (pe_op op_mod (pe_op op_sub (pv 4) (pv 5)) (pv 1)) pe_int (nomark _))))) (pss_one (ps_ret pe_bl)) pss_nil))) (pss_cons (ps_set (i := 4) nd rfl (.inl rfl) (kc_meth (pv 0) S.k_Field S.e_Field_times (ca_Field_times S) (hr.mono (by decide)) px0 (pa_cons (pv 2) (pa_cons (pv 3) pa_nil)))) (pss_one (ps_ret (pe_and (kc_call (ca_law_in S) (hr.mono (by decide)) rfl S.g_law_in px0 (pa_cons (pv 4) (pa_cons (pv 1) pa_nil))) (pe_one (pe_cmpR op_eq (pe_op op_mod (pe_op op_sub (pv 4) (pe_op op_mul (pv 2) (pv 3))) (pv 1)) pe_int (nomark _))))))))), pu_law_sums vs H Q E h.2⟩
theorem ca_law_sums (S : Su K mg) : Cal P w K mg base (He.fAd K ("_law_sums", none)) ["field", "prime", "one", "other"] 3 [] (sp_law_sums K) := by
  obtain ⟨fd, F⟩ := S.c.d.def_ 11 (d := d_law_sums) rfl
  exact ⟨⟨fd, ok_law_sums S F, [], .nil, FunD.bindsN F fun _ _ _ _ _ _ us hl => match us, hl with | [_, _, _, _], _ => rfl⟩, F.kp⟩
theorem sc_Field_back : FnScope ["self", "number", "left", "right", "one", "other", "many", "rest"] ["self", "number"] (defScope s_Field_back) := ⟨rfl, rfl, rfl, by decide +kernel, rfl, by decide +kernel, by decide +kernel⟩
theorem ok_Field_back (S : Su K mg) {fd : FuncData} {dvs : List V} (F : FunD K "back" "Field.back" (defArgs s_Field_back) (defBody s_Field_back) (defScope s_Field_back) dvs [] (He.fAd K ("Field", some "back")) fd) : FnOk P w K mg base (L2.CX P w) 2 (He.fAd K ("Field", some "back")) fd ["self", "number"] (sp_Field_back K) :=
  FunD.ok (k := 1) F sc_Field_back (fun vs H Q E h => h.1) fun cdv A outer s H vs Q E hr h => ⟨t_Field_back K E, (by
    have nd := sc_Field_back.nd
    have tk : Takes (cxOf (L2.CX P w) P w K mg base ["self", "number", "left", "right", "one", "other", "many", "rest"] "Field.back" (defScope s_Field_back) (He.fAd K ("Field", some "back")) cdv A outer s H E) (fun cls d _ H => E cls d H) := takes_of rfl rfl rfl rfl
    exact (pss_cons (ps_if (pt_cmpR op_eq (pv 1) pe_int (nomark _)) (pss_one (ps_raise rfl tk (pmk_own PySem.F.excBase_ValueError S.x_NoBack.1 S.g_NoBack S.x_NoBack.2.1 (raises_own S.x_NoBack.2.2.1 S.x_NoBack.2.2.2) rfl))) pss_nil) (pss_cons (ps_set (i := 2) nd rfl (.inl rfl) (kc_fld (pv 0) S.k_Field S.n_Field_prime rfl)) (pss_cons (ps_set (i := 3) nd rfl (.inl rfl) (pv 1)) (pss_cons (ps_set (i := 4) nd rfl (.inl rfl) pe_int) (pss_cons (ps_set (i := 5) nd rfl (.inl rfl) pe_int) (pss_cons (ps_while (passes_of rfl) (pt_cmpR op_gt (pv 3) pe_int (nomark _)) (pss_cons (ps_asg (pe_callB call_divmodW rfl S.f_divmod (by decide +kernel) (pa_cons (pv 2) (pa_cons (pv 3) pa_nil))) (pg_tup rfl (pgs_cons (pg_name (i := 6) nd rfl (.inl rfl)) (pgs_cons (pg_name (i := 7) nd rfl (.inl rfl)) pgs_nil)))) (pss_cons (ps_par (i := 2) (j := 3) rfl nd rfl rfl (by decide) rfl rfl (pa_cons (pv 3) (pa_cons (pv 7) pa_nil)) (by rfl)) (pss_one (ps_par (i := 4) (j := 5) rfl nd rfl rfl (by decide) rfl rfl (pa_cons (pv 5) (pa_cons (pe_op op_sub (pv 4) (pe_op op_mul (pv 6) (pv 5))) pa_nil)) (by rfl)))))) (pss_one (ps_ret (kc_meth (pv 0) S.k_Field S.e_Field_fit (ca_Field_fit S) (hr.mono (by decide)) (pxE tk) (pa_cons (pv 4) pa_nil))))))))))), pu_Field_back vs H Q E h.2⟩
theorem ca_Field_back (S : Su K mg) : Cal P w K mg base (He.fAd K ("Field", some "back")) ["self", "number"] 2 [] (sp_Field_back K) := by
  obtain ⟨fd, F⟩ := S.c.d.def_ 12 (d := d_Field_back) rfl
  exact ⟨⟨fd, ok_Field_back S F, [], .nil, FunD.bindsN F fun _ _ _ _ _ _ us hl => match us, hl with | [_, _], _ => rfl⟩, F.kp⟩
theorem sc_Field_over : FnScope ["self", "one", "other"] ["self", "one", "other"] (defScope s_Field_over) := ⟨rfl, rfl, rfl, by decide +kernel, rfl, by decide +kernel, by decide +kernel⟩
theorem ok_Field_over (S : Su K mg) {fd : FuncData} {dvs : List V} (F : FunD K "over" "Field.over" (defArgs s_Field_over) (defBody s_Field_over) (defScope s_Field_over) dvs [] (He.fAd K ("Field", some "over")) fd) : FnOk P w K mg base (L2.CX P w) 3 (He.fAd K ("Field", some "over")) fd ["self", "one", "other"] (sp_Field_over K) :=
  FunD.ok (k := 2) F sc_Field_over (fun vs H Q E h => h.1) fun cdv A outer s H vs Q E hr h => ⟨t_Field_over K E, (by
    have nd := sc_Field_over.nd
    have tk : Takes (cxOf (L2.CX P w) P w K mg base ["self", "one", "other"] "Field.over" (defScope s_Field_over) (He.fAd K ("Field", some "over")) cdv A outer s H E) (fun cls d _ H => E cls d H) := takes_of rfl rfl rfl rfl
    exact (pss_one (ps_ret (kc_meth (pv 0) S.k_Field S.e_Field_times (ca_Field_times S) (hr.mono (by decide)) (pxE tk) (pa_cons (pv 1) (pa_cons (kc_meth (pv 0) S.k_Field S.e_Field_back (ca_Field_back S) (hr.mono (by decide)) (pxE tk) (pa_cons (pv 2) pa_nil)) pa_nil)))))), pu_Field_over vs H Q E h.2⟩
theorem ca_Field_over (S : Su K mg) : Cal P w K mg base (He.fAd K ("Field", some "over")) ["self", "one", "other"] 3 [] (sp_Field_over K) := by
  obtain ⟨fd, F⟩ := S.c.d.def_ 13 (d := d_Field_over) rfl
  exact ⟨⟨fd, ok_Field_over S F, [], .nil, FunD.bindsN F fun _ _ _ _ _ _ us hl => match us, hl with | [_, _, _], _ => rfl⟩, F.kp⟩
theorem sc_law_refused : FnScope ["field", "one", "way", "found", "e"] ["field", "one", "way"] (defScope s_law_refused) := ⟨rfl, rfl, rfl, by decide +kernel, rfl, by decide +kernel, by decide +kernel⟩
theorem ok_law_refused (S : Su K mg) {fd : FuncData} {dvs : List V} (F : FunD K "_law_refused" "_law_refused" (defArgs s_law_refused) (defBody s_law_refused) (defScope s_law_refused) dvs [] (He.fAd K ("_law_refused", none)) fd) : FnOk P w K mg base (L2.CX P w) 4 (He.fAd K ("_law_refused", none)) fd ["field", "one", "way"] (sp_law_refused K) :=
  FunD.ok (k := 3) F sc_law_refused (fun vs H Q E h => h.1) fun cdv A outer s H vs Q E hr h => ⟨t_law_refused K, PSs.nox (by
    have nd := sc_law_refused.nd
    exact (pss_cons (ps_set (i := 3) nd rfl (.inl rfl) pe_bl) (pss_cons (ps_try_as (i := 4) (tb := t_law_refused_b1 K) (ts := t_law_refused_s1 K) (Wout := (fun _ _ _ _ => False)) rfl rfl nd rfl rfl ⟨rfl, by decide, .inl S.g_NoBack⟩ takes0 (fun W pn xe tk _ => (pss_one (ps_if (pt_cmpR op_eq (pv 2) pe_int (nomark _)) (pss_one (ps_expr (kc_meth (pv 0) S.k_Field S.e_Field_back (ca_Field_back S) (hr.mono (by decide)) (fun σ => passAt tk σ) (pa_cons pe_int pa_nil)))) (pss_one (ps_expr (kc_meth (pv 0) S.k_Field S.e_Field_over (ca_Field_over S) (hr.mono (by decide)) (fun σ => passAt tk σ) (pa_cons (pv 1) (pa_cons pe_int pa_nil)))))))) (fun a oe cls d pn hz hf => (pss_one (ps_set (i := 3) nd rfl (.inl rfl) (pe_and (pe_callB (kc_isE hz hf) rfl S.f_isinstance (by decide +kernel) (pa_cons (pv 4) (pa_cons (pe_glob rfl S.g_PostError rfl) pa_nil))) (pe_and (pe_callB (kc_isE hz hf) rfl S.f_isinstance (by decide +kernel) (pa_cons (pv 4) (pa_cons (pe_bltn rfl S.f_ValueError (by decide +kernel) rfl) pa_nil))) (pe_one (pe_not (pe_callB (kc_isE hz hf) rfl S.f_isinstance (by decide +kernel) (pa_cons (pv 4) (pa_cons (pe_glob rfl S.g_NoPrime rfl) pa_nil))))))))))) (pss_one (ps_ret (pv 3)))))), pu_law_refused S.exT vs H Q E h.2⟩
theorem ca_law_refused (S : Su K mg) : Cal P w K mg base (He.fAd K ("_law_refused", none)) ["field", "one", "way"] 4 [] (sp_law_refused K) := by
  obtain ⟨fd, F⟩ := S.c.d.def_ 14 (d := d_law_refused) rfl
  exact ⟨⟨fd, ok_law_refused S F, [], .nil, FunD.bindsN F fun _ _ _ _ _ _ us hl => match us, hl with | [_, _, _], _ => rfl⟩, F.kp⟩
theorem sc_law_backs : FnScope ["field", "prime", "one", "other", "back", "found"] ["field", "prime", "one", "other"] (defScope s_law_backs) := ⟨rfl, rfl, rfl, by decide +kernel, rfl, by decide +kernel, by decide +kernel⟩
theorem ok_law_backs (S : Su K mg) {fd : FuncData} {dvs : List V} (F : FunD K "_law_backs" "_law_backs" (defArgs s_law_backs) (defBody s_law_backs) (defScope s_law_backs) dvs [] (He.fAd K ("_law_backs", none)) fd) : FnOk P w K mg base (L2.CX P w) 5 (He.fAd K ("_law_backs", none)) fd ["field", "prime", "one", "other"] (sp_law_backs K) :=
  FunD.ok (k := 4) F sc_law_backs (fun vs H Q E h => h.1) fun cdv A outer s H vs Q E hr h => ⟨t_law_backs K, PSs.nox (by
    have nd := sc_law_backs.nd
    exact (pss_cons (ps_if (pt_cmpR op_eq (pv 3) pe_int (nomark _)) (pss_one (ps_ret (pe_and (kc_call (ca_law_refused S) (hr.mono (by decide)) rfl S.g_law_refused px0 (pa_cons (pv 0) (pa_cons (pv 2) (pa_cons pe_int pa_nil)))) (pe_one (kc_call (ca_law_refused S) (hr.mono (by decide)) rfl S.g_law_refused px0 (pa_cons (pv 0) (pa_cons (pv 2) (pa_cons pe_int pa_nil)))))))) pss_nil) (pss_cons (ps_set (i := 4) nd rfl (.inl rfl) (kc_meth (pv 0) S.k_Field S.e_Field_back (ca_Field_back S) (hr.mono (by decide)) px0 (pa_cons (pv 3) pa_nil))) (pss_cons (ps_if (PW.pt (pw_or (pt_not (pt_val (kc_call (ca_law_in S) (hr.mono (by decide)) rfl S.g_law_in px0 (pa_cons (pv 4) (pa_cons (pv 1) pa_nil))) (by intro _; rfl))) (pw_or1 (pt_cmpR op_ne (pe_op op_mod (pe_op op_mul (pv 4) (pv 3)) (pv 1)) (pe_op op_mod pe_int (pv 1)) (nomark _))))) (pss_one (ps_ret pe_bl)) pss_nil) (pss_cons (ps_set (i := 5) nd rfl (.inl rfl) (kc_meth (pv 0) S.k_Field S.e_Field_over (ca_Field_over S) (hr.mono (by decide)) px0 (pa_cons (pv 2) (pa_cons (pv 3) pa_nil)))) (pss_one (ps_ret (pe_and (kc_call (ca_law_in S) (hr.mono (by decide)) rfl S.g_law_in px0 (pa_cons (pv 5) (pa_cons (pv 1) pa_nil))) (pe_one (pe_cmpR op_eq (pe_op op_mod (pe_op op_mul (pv 5) (pv 3)) (pv 1)) (pv 2) (nomark _))))))))))), pu_law_backs vs H Q E h.2⟩
theorem ca_law_backs (S : Su K mg) : Cal P w K mg base (He.fAd K ("_law_backs", none)) ["field", "prime", "one", "other"] 5 [] (sp_law_backs K) := by
  obtain ⟨fd, F⟩ := S.c.d.def_ 15 (d := d_law_backs) rfl
  exact ⟨⟨fd, ok_law_backs S F, [], .nil, FunD.bindsN F fun _ _ _ _ _ _ us hl => match us, hl with | [_, _, _, _], _ => rfl⟩, F.kp⟩
theorem sc_law_is_prime : FnScope ["number", "by"] ["number"] (defScope s_law_is_prime) := ⟨rfl, rfl, rfl, by decide +kernel, rfl, by decide +kernel, by decide +kernel⟩
theorem ok_law_is_prime (S : Su K mg) {fd : FuncData} {dvs : List V} (F : FunD K "_law_is_prime" "_law_is_prime" (defArgs s_law_is_prime) (defBody s_law_is_prime) (defScope s_law_is_prime) dvs [] (He.fAd K ("_law_is_prime", none)) fd) : FnOk P w K mg base (L2.CX P w) 1 (He.fAd K ("_law_is_prime", none)) fd ["number"] (sp_law_is_prime K) :=
  FunD.ok (k := 0) F sc_law_is_prime (fun vs H Q E h => h.1) fun cdv A outer s H vs Q E hr h => ⟨t_law_is_prime K, PSs.nox (by
    have nd := sc_law_is_prime.nd
    exact (pss_cons (ps_if (pt_cmpR op_lt (pv 0) pe_int (nomark _)) (pss_one (ps_ret pe_bl)) pss_nil) (pss_cons (ps_set (i := 1) nd rfl (.inl rfl) pe_int) (pss_cons (ps_while PassesOwn.never (pt_cmpR op_le (pe_op op_mul (pv 1) (pv 1)) (pv 0) (nomark _)) (pss_cons (ps_if (pt_cmpR op_eq (pe_op op_mod (pv 0) (pv 1)) pe_int (nomark _)) (pss_one (ps_ret pe_bl)) pss_nil) (pss_one (ps_set (i := 1) nd rfl (.inl rfl) (pe_op op_add (pv 1) pe_int))))) (pss_one (ps_ret pe_bl)))))), pu_law_is_prime vs H Q E h.2⟩
theorem ca_law_is_prime (S : Su K mg) : Cal P w K mg base (He.fAd K ("_law_is_prime", none)) ["number"] 1 [] (sp_law_is_prime K) := by
  obtain ⟨fd, F⟩ := S.c.d.def_ 16 (d := d_law_is_prime) rfl
  exact ⟨⟨fd, ok_law_is_prime S F, [], .nil, FunD.bindsN F fun _ _ _ _ _ _ us hl => match us, hl with | [_], _ => rfl⟩, F.kp⟩
theorem sc_law : FnScope ["script", "primes", "prime", "fields", "cell", "xs", "which", "field", "far", "found", "one", "other", ".0", "k"] ["script"] (defScope s_law) := ⟨rfl, rfl, rfl, by decide +kernel, rfl, by decide +kernel, by decide +kernel⟩
theorem ok_law (S : Su K mg) {fd : FuncData} {dvs : List V} (F : FunD K "law" "law" (defArgs s_law) (defBody s_law) (defScope s_law) dvs [] (He.fAd K ("law", none)) fd) : FnOk P w K mg base (L2.CX P w) 6 (He.fAd K ("law", none)) fd ["script"] (sp_law K) :=
  FunD.ok (k := 5) F sc_law (fun vs H Q E h => h.1) fun cdv A outer s H vs Q E hr h => ⟨t_law K, PSs.nox (by
    have nd := sc_law.nd
    exact (pss_cons (ps_setLc (own := [(".0", 12), ("k", 13)]) (i := 1) rfl nd rfl rfl (sw_true rfl rfl rfl (by decide +kernel)) (pi_range1 rfl S.f_range (pa_cons pe_int pa_nil)) (blkOk_by (by kernel_rfl)) (fun _ _ _ _ _ => (pg_name (i := 13) nd rfl (.inl rfl))) (fun _ _ _ _ _ => pts_nil) (fun _ _ _ _ _ => (kc_call (ca_law_prime S) (hr.mono (by decide)) rfl S.g_law_prime px0 (pa_cons (pe_op op_add (kc_call (ca_law_cell_at S) (hr.mono (by decide)) rfl S.g_law_cell_at px0 (pa_cons (pv 0) (pa_cons (pv 13) pa_nil))) (pe_op op_mul pe_int (pv 13))) pa_nil)))) (pss_cons (ps_if (pt_cmpR op_in_seq pe_int (pv 1) (by rfl)) (pss_one (ps_ret pe_bl)) pss_nil) (pss_cons (ps_setLc (own := [(".0", 12), ("prime", 2)]) (i := 3) rfl nd rfl rfl (sw_true rfl rfl rfl (by decide +kernel)) (pi_list (pv 1)) (blkOk_by (by kernel_rfl)) (fun _ _ _ _ _ => (pg_name (i := 2) nd rfl (.inl rfl))) (fun _ _ _ _ _ => pts_nil) (fun _ _ _ _ _ => (kc_make S.m_Field (ca_Field___init__ S) (hr.mono (by decide)) rfl S.g_Field px0 (pa_cons (pv 2) pa_nil)))) (pss_cons (ps_for PassesOwn.never rfl (pi_list (pe_op op_cat (pe_slice sl_list (pv 0) (po_some pe_int) (po_some pe_int)) (pe_lst (pa_cons pe_int (pa_cons pe_int pa_nil))))) (pg_name (i := 4) nd rfl (.inr rfl)) (pss_cons (ps_setLc (own := [(".0", 12), ("k", 13)]) (i := 5) rfl nd rfl rfl (sw_true rfl rfl rfl (by decide +kernel)) (pi_range1 rfl S.f_range (pa_cons pe_int pa_nil)) (blkOk_by (by kernel_rfl)) (fun _ _ _ _ _ => (pg_name (i := 13) nd rfl (.inl rfl))) (fun _ _ _ _ _ => pts_nil) (fun _ _ _ _ _ => (kc_call (ca_law_mixed S) (hr.mono (by decide)) rfl S.g_law_mixed px0 (pa_cons (pv 4) (pa_cons (pv 13) pa_nil))))) (pss_cons (ps_set (i := 6) nd rfl (.inl rfl) (pe_op op_mod (pe_ix ix_list (pv 5) pe_int (fun _ _ => rfl)) pe_int)) (pss_cons (ps_par (i := 7) (j := 2) rfl nd rfl rfl (by decide) rfl rfl (pa_cons (pe_ix ix_list (pv 3) (pv 6) (fun _ _ => rfl)) (pa_cons (pe_ix ix_list (pv 1) (pv 6) (fun _ _ => rfl)) pa_nil)) (by rfl)) (pss_cons (ps_set (i := 8) nd rfl (.inl rfl) (pe_op op_sub (pe_op op_mul (pe_ix ix_list (pv 5) pe_int (fun _ _ => rfl)) (pe_op op_pow (pe_op op_add (pe_ix ix_list (pv 5) pe_int (fun _ _ => rfl)) pe_int) pe_int)) (pe_op op_mod (pe_op op_pow (pe_ix ix_list (pv 5) pe_int (fun _ _ => rfl)) pe_int) (pe_op op_pow pe_int pe_int)))) (pss_cons (ps_set (i := 9) nd rfl (.inl rfl) (kc_meth (pv 7) S.k_Field S.e_Field_fit (ca_Field_fit S) (hr.mono (by decide)) px0 (pa_cons (pv 8) pa_nil))) (pss_cons (ps_if (pt_not (pt_val (kc_call (ca_law_in S) (hr.mono (by decide)) rfl S.g_law_in px0 (pa_cons (pv 9) (pa_cons (pv 2) pa_nil))) (by intro _; rfl))) (pss_one (ps_ret pe_bl)) pss_nil) (pss_cons (ps_if (pt_cmpR op_ne (pe_op op_mod (pe_op op_sub (pv 8) (pv 9)) (pv 2)) pe_int (nomark _)) (pss_one (ps_ret pe_bl)) pss_nil) (pss_cons (ps_if (pt_cmpR op_ne (kc_fld (pv 7) S.k_Field S.n_Field_prime rfl) (pv 2) (nomark _)) (pss_one (ps_ret pe_bl)) pss_nil) (pss_cons (ps_set (i := 10) nd rfl (.inl rfl) (kc_call (ca_law_one S) (hr.mono (by decide)) rfl S.g_law_one px0 (pa_cons (pe_ix ix_list (pv 5) pe_int (fun _ _ => rfl)) (pa_cons (pv 2) pa_nil)))) (pss_cons (ps_set (i := 11) nd rfl (.inl rfl) (kc_call (ca_law_one S) (hr.mono (by decide)) rfl S.g_law_one px0 (pa_cons (pe_ix ix_list (pv 5) pe_int (fun _ _ => rfl)) (pa_cons (pv 2) pa_nil)))) (pss_cons (ps_if (pt_not (pt_val (kc_call (ca_law_sums S) (hr.mono (by decide)) rfl S.g_law_sums px0 (pa_cons (pv 7) (pa_cons (pv 2) (pa_cons (pv 10) (pa_cons (pv 11) pa_nil))))) (by intro _; rfl))) (pss_one (ps_ret pe_bl)) pss_nil) (pss_cons (ps_if (pt_not (pt_val (kc_call (ca_law_backs S) (hr.mono (by decide)) rfl S.g_law_backs px0 (pa_cons (pv 7) (pa_cons (pv 2) (pa_cons (pv 10) (pa_cons (pv 11) pa_nil))))) (by intro _; rfl))) (pss_one (ps_ret pe_bl)) pss_nil) (pss_one (ps_if (pt_cmpR op_ne (kc_call (ca_is_prime S) (hr.mono (by decide)) rfl S.g_is_prime px0 (pa_cons (pe_op op_mod (pe_ix ix_list (pv 5) pe_int (fun _ _ => rfl)) pe_int) pa_nil)) (kc_call (ca_law_is_prime S) (hr.mono (by decide)) rfl S.g_law_is_prime px0 (pa_cons (pe_op op_mod (pe_ix ix_list (pv 5) pe_int (fun _ _ => rfl)) pe_int) pa_nil)) (nomark _)) (pss_one (ps_ret pe_bl)) pss_nil))))))))))))))) (pss_one (ps_ret pe_bl))))))), pu_law vs H Q E h.2⟩
theorem ca_law (S : Su K mg) : Cal P w K mg base (He.fAd K ("law", none)) ["script"] 6 [] (sp_law K) := by
  obtain ⟨fd, F⟩ := S.c.d.def_ 17 (d := d_law) rfl
  exact ⟨⟨fd, ok_law S F, [], .nil, FunD.bindsN F fun _ _ _ _ _ _ us hl => match us, hl with | [_], _ => rfl⟩, F.kp⟩
end
def nm0 : List Str := ["PostError",
  "NoPrime",
  "NoBack",
  "GREATEST",
  "is_prime",
  "Field",
  "_law_cell_at",
  "_law_mixed",
  "_law_prime",
  "_law_one",
  "_law_in",
  "_law_refused",
  "_law_sums",
  "_law_backs",
  "_law_is_prime"]
def nm : List Str := nm0
abbrev R : PySem.W.OpenRow := PySem.W.OpenLaw.row PySem.Challenge.rw_mixposts_k03_whole_fields_by_turns
abbrev hk : PySem.W.Hook := hookX 5 fa fn fx
def ob (s : PySem.W.SharedT) : AlX := obsXG 5 fa fn fx (HandSHeadRun.getT s)
theorem ob_eq (s : PySem.W.SharedT) : ob s = hk.obs s.abs := obsXG_eq (HandSHeadRun.getT_eq s)
theorem run (w : World) : HandSHeadRun.RunEq R (PySem.W.view R.prog [18]) hk ob 3000 nm w := by
  intro os
  kernel_rfl
theorem facts {P : Program} {w : World} {K : PySem.W.Frag} {h : Heap} {mg : Str → Option Value} {f : Addr} (X : K.In h) (G : h.Ns mainGlobals mg) (hfa : mg ("law" : Str) = some (.ref f)) (c : SaysX fa fn fx K) :
    ∃ fd : FuncData, (∀ (s : Shared) (v : Value), BindsTo s fd ⟨[v], []⟩ [("script", v)]) ∧ ∀ base : Heap, K.In base → base.Ns mainGlobals mg → FnOk P w K mg base CX0 6 f fd ["script"] (sp_law K) := by
  have S : Su K mg := ⟨c, h, X, G⟩
  obtain ⟨fd, F⟩ := c.d.def_ 17 (d := d_law) rfl
  have e := hfa.symm.trans S.g_law
  cases e
  have b := FunD.bindsA (ps := ["script"]) F fun _ _ _ _ _ _ us hl => match us, hl with | [_], _ => rfl
  exact ⟨fd, fun s v => b s [v] rfl, fun base _ _ => Mx.FnOk.to0 (ok_law S F) fun _ _ _ _ _ h => h⟩
end LX
open PySem PySem.W PySem.Calls PyProof.Rows
set_option maxHeartbeats 0 in
theorem PySem.Challenge.cw_mixposts_k03_whole_fields_by_turns_holds : PySem.Challenge.rw_mixposts_k03_whole_fields_by_turns.Holds := by
  w_on; o_law
  refine HandSHeadRun.head_any (r := OpenLaw.row PySem.Challenge.rw_mixposts_k03_whole_fields_by_turns) (q := view (OpenLaw.row PySem.Challenge.rw_mixposts_k03_whole_fields_by_turns).prog [18]) (H := LX.hk) (ob := LX.ob) (M := 3000) (loose := LX.nm) (d := HandSHeadRun.topDef (OpenLaw.row PySem.Challenge.rw_mixposts_k03_whole_fields_by_turns).prog 18) (kwd := []) LX.ob_eq
    (by kernel_rfl) (fun s => by kernel_rfl) LX.run (by kernel_rfl) (by kernel_rfl) (by kernel_rfl) (by rfl) (by first | assumption | decide +kernel) (by decide +kernel) ⟨rfl, rfl, rfl, rfl, rfl, by decide +kernel⟩ ?hw ?hc
  case hw => w_witness2
  case hc =>
    refine L2.walk_ofE (l := PySem.Challenge.rw_mixposts_k03_whole_fields_by_turns) (n := 63) (k := 6) (x := "script") (CX := L2.CX0) rfl (by decide) (by kernel_rfl) ⟨rfl, by decide, by decide⟩ ?F (fun _ _ _ _ z => z)
    case F =>
      intro w mg fa h Y G hmg0
      obtain ⟨K, KX, c⟩ := Y
      have hmg : mg ("law" : PySem.Str) = some (.ref fa) := by
        have e : (HandSHeadRun.topDef (OpenLaw.row PySem.Challenge.rw_mixposts_k03_whole_fields_by_turns).prog 18).name = ("law" : PySem.Str) := by kernel_rfl
        rw [← e]
        exact hmg0
      obtain ⟨fd, hb, hF⟩ := LX.facts (P := (PySem.Challenge.rw_mixposts_k03_whole_fields_by_turns).prog) (w := w) KX G hmg c
      exact ⟨K, fd, Mx.sp_law K, KX, hb, fun H a ns hl _ hS => ⟨rfl, a, ns, rfl, hS, hl, fun _ => rfl⟩, hF⟩

