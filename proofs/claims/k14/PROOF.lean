import PyProof.Rows.All
import Wide.All
import OpenK.AllK
import Wide.FinOn
import KE.KStateDown
import HandS.ForMost
import HandS.ForExc
import HandS.Walk
import HandS.Wide
import HandS.WideMore
import HandS.WideBits
import HandS.Defaults
import HandS.CallSlots
import HandS.Flow
import HandS.More
import HandS.Small
import HandS.IsInst
import HandS.ExcIs
import HandS.TryMany
import HandS.TryElse
import HandS.DeepEq
import HandS.Deep
import HandS.Sort
import HandS.SortInts
import HandS.SortKw
import HandS.ListItems
import HandS.DictTup
import HandS.Head0
import HandS.Head1
import HandS.Head2
import HandS.HeadEnd
import HandS.HeadHook1
import HandS.HeadHook2
import HandS.Steps
import PySem.Challenge.RW_mixposts_k14_whole_tables_by_turns
set_option Elab.async false
set_option linter.all false
set_option maxRecDepth 100000
set_option maxHeartbeats 4000000
namespace Mx
open PySem PySem.Spec PyProof.Rows L2

/-! ### heaps -/
theorem same_new {H : Hp} {p : Addr} {o : HO} (h : H p = none) : Same H (upd H p o) := fun b x e => by
  rw [upd_ne (ne_of_none e h)]
  exact e
theorem same_mut {H H' : Hp} {p : Addr} {o : HO} (e : Same H H') (h : H p = none) : Same H (upd H' p o) := fun b x ha => by
  rw [upd_ne (ne_of_none ha h)]
  exact e b x ha
theorem Same.tup {K : PySem.W.Frag} {H H' : Hp} {a : Addr} {xs : List V} (e : Same H H') (h : SqT K H a xs) : SqT K H' a xs := by
  rcases h with (h | ⟨o, h⟩) | h
  · exact .inl (.inl (e _ _ h))
  · exact .inl (.inr ⟨o, e _ _ h⟩)
  · exact .inr h
theorem Same.at {H H' : Hp} {a : Addr} {o : HO} (e : Same H H') (h : H a = some o) : H' a = some o := e a o h
theorem upd_at {H : Hp} {a p : Addr} {o u : HO} (n : H p = none) (h : H a = some o) : upd H p u a = some o := by
  rw [upd_ne (ne_of_none h n)]
  exact h
theorem upd_atN {H : Hp} {a p : Addr} {o u : HO} (n : a ≠ p) (h : H a = some o) : upd H p u a = some o := by
  rw [upd_ne n]
  exact h
theorem sqL_new {K : PySem.W.Frag} {H : Hp} {a : Addr} {xs : List V} : SqL K (upd H a (.lst xs)) a xs := .inl (.inl upd_same)
theorem sqT_new {K : PySem.W.Frag} {H : Hp} {a : Addr} {xs : List V} : SqT K (upd H a (.tup xs)) a xs := .inl (.inl upd_same)
theorem sqL_upd {K : PySem.W.Frag} {H : Hp} {a p : Addr} {u : HO} {xs : List V} (n : H p = none) (h : SqL K H a xs) : SqL K (upd H p u) a xs := (same_new n).seq h
theorem sqT_upd {K : PySem.W.Frag} {H : Hp} {a p : Addr} {u : HO} {xs : List V} (n : H p = none) (h : SqT K H a xs) : SqT K (upd H p u) a xs := Same.tup (same_new n) h

/-! ### operators, by short names -/
abbrev oAdd : R2 := rI0 fun i j => .int (i + j)
abbrev oSub : R2 := rI0 fun i j => .int (i - j)
abbrev oMul : R2 := rI CMul fun i j => .int (i * j)
abbrev oFdv : R2 := rI CDivW fun i j => .int (i / j)
abbrev oMod : R2 := rI (fun _ j => 0 < j) fun i j => .int (i % j)
abbrev oPow : R2 := rI CPow fun i j => .int (i ^ j.toNat)
abbrev oNeg : V → Hp → VK → Prop := rU fun i => .int (-i)
abbrev oAddS : R2 := fun x y H Q => ∃ i j, x = .str i ∧ y = .str j ∧ i.length + j.length ≤ sizeLine ∧ Q (.str (i ++ j)) H
abbrev oLt : R2 := rI0 fun i j => .bl (decide (i < j))
abbrev oLe : R2 := rI0 fun i j => .bl (decide (i ≤ j))
abbrev oGt : R2 := rI0 fun i j => .bl (decide (j < i))
abbrev oGe : R2 := rI0 fun i j => .bl (decide (j ≤ i))
abbrev oInS : R2 := fun x y H Q => ∃ i j, x = .str i ∧ y = .str j ∧ Q (.bl (!(Builtin.Str.occurrences j i 0 j.length 1).isEmpty)) H
abbrev oNotInS : R2 := fun x y H Q => ∃ i j, x = .str i ∧ y = .str j ∧ Q (.bl (!(!(Builtin.Str.occurrences j i 0 j.length 1).isEmpty))) H
abbrev RV := List V → Hp → VK → Prop
abbrev oLen (K : PySem.W.Frag) : RV := fun xs H Q => ∃ p ys, xs = [.ref p] ∧ (SqL K H p ys ∨ SqT K H p ys) ∧ Q (.int ys.length) H
abbrev oLenD : RV := fun xs H Q => ∃ a kvs, xs = [V.ref a] ∧ H a = some (.dK kvs) ∧ Q (.int kvs.length) H
abbrev oMin2 : RV := fun xs H Q => ∃ i j, xs = [.int i, .int j] ∧ Q (.int (if j < i then j else i)) H
abbrev oMax2 : RV := fun xs H Q => ∃ i j, xs = [.int i, .int j] ∧ Q (.int (if j > i then j else i)) H
abbrev oDivmod : RV := fun xs H Q => ∃ i j, xs = [.int i, .int j] ∧ CDivP i j ∧ ∀ p, H p = none → Q (.ref p) (upd H p (.tup [.int (i / j), .int (i % j)]))
abbrev oList (K : PySem.W.Frag) : RV := fun xs H Q => ∃ p ys, xs = [.ref p] ∧ (SqL K H p ys ∨ SqT K H p ys) ∧ ∀ l, H l = none → Q (.ref l) (upd H l (.lst ys))
abbrev oInt1 : RV := fun xs H Q => (∃ i, xs = [.int i] ∧ Q (.int i) H) ∨ ∃ k, xs = [.bl k] ∧ Q (.int (if k then 1 else 0)) H
/-- o.f of an instance of the class at C -/
def xFld (C : Addr) (ta : TE) (f : Str) : TE := fun σ H Q => ta σ H fun x H1 => ∃ a dx fs v, x = .ref a ∧ H1 a = some (.ins C dx fs) ∧ fs.lookup f = some v ∧ Q v H1
theorem kc_fld {X : Cx} {e : Expr} {f : Str} {pos : Pos} {ta : TE} {C : Addr} (he : PE X e ta) (c : Cls X.K C) (n : NoAttr X.K C f) (hb : attributeBase e f X.env (eval e X.env) = eval e X.env) : PE X (.Attribute e f pos) (xFld C ta f) := by
  refine ⟨fun pins s σ H Q I h => ?_⟩
  refine attr_of hb (thn (he.run pins s σ H _ I h) fun u s1 ⟨x, H1, I1, rx, a, dx, fs, v, ex, ea, l, q⟩ => ?_)
  subst ex
  obtain rfl : u = Value.ref a := rx
  exact getattr_ok I1 ea c n l fun u' s2 I2 ru => ⟨v, H1, I2, ru, q⟩
/-- o.f = value -/
def xsFld (C : Addr) (ta tv : TE) (f : Str) : TS := fun D σ H => tv σ H fun y H1 => ta σ H1 fun x H2 => ∃ a dx fs, x = .ref a ∧ H2 a = some (.ins C dx fs) ∧ fs.length < 1000 ∧
  D.nx σ (upd H2 a (.ins C dx (putF f y fs)))
theorem kc_sfld {X : Cx} {o value : Expr} {f : Str} {pos pos' : Pos} {ta tv : TE} {C : Addr} (ha : PE X o ta) (hv : PE X value tv) (c : Cls X.K C) (n : NoAttr X.K C f) (hs : swapsWith value (some (.Attribute o f pos')) pos.line X.env = pure false) : PS X (.Assign [.Attribute o f pos'] value pos) (xsFld C ta tv f) := by
  refine ⟨fun pins s σ H D I h => ?_⟩
  refine plainObj_wpAny_Assign_Attribute (thn (hv.run pins s σ H _ I h) fun u s1 ⟨y, H1, I1, ry, q⟩ => thn (ha.run pins s1 σ H1 _ I1 q) fun ov s2 ⟨x, H2, I2, rx, a, dx, fs, ex, ea, l, q2⟩ => ?_) hs
  subst ex
  obtain rfl : ov = Value.ref a := rx
  exact setattr_ok I2 ea c n l ry fun s3 I3 => ⟨σ, _, I3, q2⟩
/-! ### isinstance of built-in kinds -/
def kinds : List String := ["int", "bool", "str", "list", "tuple", "dict", "NoneType"]
def subK (a b : String) : Bool := a == b || (a == "bool" && b == "int")
theorem kit_kinds : ∀ a ∈ kinds, ∀ b ∈ kinds, kitB a b = some (subK a b) := by decide +kernel
def kindOf (H : Hp) : V → String → Prop
  | .int _, t => t = "int"
  | .bl _, t => t = "bool"
  | .str _, t => t = "str"
  | .non, t => t = "NoneType"
  | .ref a, t => ((∃ xs, H a = some (.lst xs)) ∧ t = "list") ∨ ((∃ xs, H a = some (.tup xs)) ∧ t = "tuple") ∨ ((∃ xs, H a = some (.dK xs)) ∧ t = "dict")
  | _, _ => False
theorem kindOf.ty {K : PySem.W.Frag} {H : Hp} {x : V} {t : String} (h : kindOf H x t) : t ∈ kinds ∧ TyX K H x (.type t) := by
  cases x with
  | int i => cases (show t = "int" from h); exact ⟨by decide, .base (.int i)⟩
  | bl b => cases (show t = "bool" from h); exact ⟨by decide, .base (.bl b)⟩
  | str z => cases (show t = "str" from h); exact ⟨by decide, .base (.str z)⟩
  | non => cases (show t = "NoneType" from h); exact ⟨by decide, .base .non⟩
  | ref a =>
    rcases (show ((∃ xs, H a = some (.lst xs)) ∧ t = "list") ∨ ((∃ xs, H a = some (.tup xs)) ∧ t = "tuple") ∨ ((∃ xs, H a = some (.dK xs)) ∧ t = "dict") from h) with ⟨⟨xs, e⟩, rfl⟩ | ⟨⟨xs, e⟩, rfl⟩ | ⟨⟨xs, e⟩, rfl⟩
    · exact ⟨by decide, .base (.lst e)⟩
    · exact ⟨by decide, .base (.tup e)⟩
    · exact ⟨by decide, .base (.dK e)⟩
  | _ => exact h.elim
/-- isinstance(x, n), n a built-in class -/
def xIsT : RV := fun xs H Q => ∃ x n t, xs = [x, .ty n] ∧ n ∈ kinds ∧ kindOf H x t ∧ Q (.bl (subK t n)) H
theorem kc_isT {X : Cx} : CallR X (.builtin "isinstance") xIsT := by
  intro pins s σ H xs us Q I r h
  obtain ⟨x, n, t, rfl, hn, ht, q⟩ := h
  obtain ⟨h1, h2⟩ := ht.ty (K := X.K)
  exact call_isi pins s σ H _ us Q I r ⟨x, .ty n, .type t, .type n, subK t n, rfl, .ty n, h2, kit_ty (kit_kinds t h1 n hn), q⟩
/-- isinstance(e, c), e the exception that a suite holds -/
def xIsE (K : PySem.W.Frag) (cls : Value) (d : Option Addr) (a : Addr) : RV := fun xs H Q => ∃ D, cls = .ref D ∧ d = none ∧ ExcC K D ∧ rIsE K D a xs H Q
theorem kc_isE {X : Cx} {a : Addr} {cls : Value} {d : Option Addr} {oe : Obj} {pn : List (Addr × Obj)} (hz : Zc cls d oe) (hf : ∃ vs, oe.data = .fields vs) : CallR (X.suite a ((a, oe) :: pn)) (.builtin "isinstance") (xIsE X.K cls d a) := by
  intro pins s σ H xs us Q I r h
  obtain ⟨D, rfl, rfl, C, h⟩ := h
  exact call_isE C hz hf pins s σ H xs us Q I r h
/-- raise X('..') -/
def xRaise (C : Addr) (E : XK) : TS := fun _ _ H => E (.ref C) none H

/-! ### callable defs -/
/-- the def at f may be called: its promise sp, at most k levels, dvs the defaults that fill up -/
structure Cal (P : Program) (w : World) (K : PySem.W.Frag) (mg : Str → Option Value) (base : Heap) (f : Addr) (ps : List Str) (k : Nat) (dvs : List V) (sp : Sp) : Prop where
  ex : ∃ fd, FnOk P w K mg base (L2.CX P w) k f fd ps sp ∧ ∃ ds, Vals dvs ds ∧ Binds K fd ps ds
  kp : PySem.W.keepIn K (.ref f) = true
theorem Cal.mono {P : Program} {w : World} {K : PySem.W.Frag} {mg : Str → Option Value} {base : Heap} {f : Addr} {ps : List Str} {j k : Nat} {dvs : List V} {sp : Sp} (c : Cal P w K mg base f ps j dvs sp) (h : j ≤ k) : Cal P w K mg base f ps k dvs sp := by
  obtain ⟨⟨fd, F, r⟩, kp⟩ := c
  exact ⟨⟨fd, F.mono h, r⟩, kp⟩
/-- no exception leaves here -/
theorem px0 {X : Cx} (σ : L2.St) : PassesAt (L2.CX X.prog X.w) X σ E0 := fun pins H s e s' I c => passL pins σ H s e s' I c
/-- it reaches the def's own way out -/
theorem pxE {X : Cx} {E : XK} (tk : Takes X (fun cls d _ H => E cls d H)) (σ : L2.St) : PassesAt (L2.CX X.prog X.w) X σ E := passAt (W := fun cls d _ H => E cls d H) tk σ
section
variable {X : Cx} {k : Nat} {f C : Addr} {ps : List Str} {sp : Sp} {dvs : List V} {E : L2.St → XK} {x m : Str} {p pos apos : Pos} {e o : Expr} {es : List Expr} {ta : TE} {t : TA}
theorem kc_call (c : Cal X.prog X.w X.K X.mg X.base f ps k dvs sp) (hr : Room k X.A) (hg : Gl X x) (hm : X.mg x = some (.ref f)) (hx : ∀ σ, PassesAt (L2.CX X.prog X.w) X σ (E σ)) (ha : PA X (e :: es) t)
    (hdb : (x == ("__debug__" : Str)) = false := by decide) (he : starEach (e :: es) X.env = (false, eval e X.env) :: starEach es X.env := by rfl) (hpl : (backTo pos (starEach es X.env)).any (·.1) = false := by rfl) :
    PE X (.Call (.Name x p) (e :: es) [] pos) (tCallSD sp dvs E t) := by
  obtain ⟨⟨fd, F, ds, hd, hb⟩, kp⟩ := c
  exact pe_callSD F hr hg hm kp hb hd hx ha hdb he hpl
theorem kc_call0 (c : Cal X.prog X.w X.K X.mg X.base f ps k dvs sp) (hr : Room k X.A) (hg : Gl X x) (hm : X.mg x = some (.ref f)) (hx : ∀ σ, PassesAt (L2.CX X.prog X.w) X σ (E σ))
    (hdb : (x == ("__debug__" : Str)) = false := by decide) : PE X (.Call (.Name x p) [] [] pos) (tCallSD sp dvs E tNil) := by
  obtain ⟨⟨fd, F, ds, hd, hb⟩, kp⟩ := c
  refine ⟨fun pins s σ H Q I h => ?_⟩
  refine wpAny_Call_Name_kw (ld_glob I hg hm ?_ hdb)
  exact PySem.W.callWith_K0 I.kIn kp (run_fnSD (us := []) F hr hb hd (hx σ) I .nil h)
/-- o.m(..) -/
def xMeth (C : Addr) (m : Str) (sp : Sp) (dvs : List V) (E : L2.St → XK) (ta : TE) (t : TA) : TE := fun σ H Q => ta σ H fun x H1 => ∃ a dx fs, x = .ref a ∧ H1 a = some (.ins C dx fs) ∧ fs.lookup m = none ∧ t σ H1 fun vs H2 => sp (x :: (vs ++ dvs)) H2 Q (E σ)
theorem kc_meth {pl : Sem Bool} (he : PE X o ta) (cl : Cls X.K C) (hm : Meth X.K C m f) (c : Cal X.prog X.w X.K X.mg X.base f ps k dvs sp) (hr : Room k X.A) (hx : ∀ σ, PassesAt (L2.CX X.prog X.w) X σ (E σ)) (ha : PA X (e :: es) t)
    (hst : starEach (e :: es) X.env = (false, eval e X.env) :: starEach es X.env := by rfl) (hpl : (backTo pos (starEach es X.env)).any (·.1) = false := by rfl)
    (ht : eval (.Call (.Attribute o m apos) (e :: es) [] pos) X.env = (do
      let ov ← eval o X.env
      standAt apos.atName
      let (f, first) ← holding [ov] (getMethod ov m pl)
      callWith pos f first (backTo pos (starEach (e :: es) X.env)) (backToKw pos (keywordEach [] X.env))) := by rfl) :
    PE X (.Call (.Attribute o m apos) (e :: es) [] pos) (xMeth C m sp dvs E ta t) := by
  obtain ⟨⟨fd, F, ds, hd, hb⟩, kp⟩ := c
  refine ⟨fun pins s σ H Q I h => ?_⟩
  refine PySem.W.methodCall_KW (pl := pl) (thn (he.run pins s σ H _ I h) fun u s1 ⟨x, H1, I1, rx, a, dx, fs, ex, ea, l, q⟩ => ?_) ht
  subst ex
  obtain rfl : u = Value.ref a := rx
  refine getmeth_ok I1 ea cl hm l ?_
  refine PySem.W.callWith_K (first := [.ref a]) (h₀ := X.base) I.ok.mod.kin hm.kp (thn (ha.run pos pins s1 σ H1 _ I1 q) fun us s2 ⟨vs, H2, I2, r, q2⟩ => ⟨I2.kIn, ?_⟩) hst hpl
  exact run_fnSD (us := .ref a :: us) (vs := .ref a :: vs) F hr hb hd (hx σ) I2 (.cons rfl r) q2
theorem kc_meth0 {pl : Sem Bool} (he : PE X o ta) (cl : Cls X.K C) (hm : Meth X.K C m f) (c : Cal X.prog X.w X.K X.mg X.base f ps k dvs sp) (hr : Room k X.A) (hx : ∀ σ, PassesAt (L2.CX X.prog X.w) X σ (E σ))
    (ht : eval (.Call (.Attribute o m apos) [] [] pos) X.env = (do
      let ov ← eval o X.env
      standAt apos.atName
      let (f, first) ← holding [ov] (getMethod ov m pl)
      callWith pos f first (backTo pos (starEach [] X.env)) (backToKw pos (keywordEach [] X.env))) := by rfl) :
    PE X (.Call (.Attribute o m apos) [] [] pos) (xMeth C m sp dvs E ta tNil) := by
  obtain ⟨⟨fd, F, ds, hd, hb⟩, kp⟩ := c
  refine ⟨fun pins s σ H Q I h => ?_⟩
  refine PySem.W.methodCall_KW (pl := pl) (thn (he.run pins s σ H _ I h) fun u s1 ⟨x, H1, I1, rx, a, dx, fs, ex, ea, l, q⟩ => ?_) ht
  subst ex
  obtain rfl : u = Value.ref a := rx
  refine getmeth_ok I1 ea cl hm l ?_
  exact PySem.W.callWith_K0 (first := [.ref a]) I1.kIn hm.kp (run_fnSD (us := [.ref a]) (vs := [.ref a]) F hr hb hd (hx σ) I1 (.cons rfl .nil) q)
/-- C(..) -/
def xMake (C : Addr) (sp : Sp) (dvs : List V) (E : L2.St → XK) (t : TA) : TE := fun σ H Q => t σ H fun vs H1 => ∀ x dx, H1 x = none → H1 dx = none → dx ≠ x →
  sp (.ref x :: (vs ++ dvs)) (upd (upd H1 dx (.own x)) x (.ins C dx [])) (fun v H2 => v = .non ∧ Q (.ref x) H2) (E σ)
theorem kc_runmake {pins : List (Addr × Obj)} {σ : L2.St} {H : Hp} {s : Shared} {Q : VK} {us : List Value} {vs : List V} {fd : FuncData} {ds : List Value} (M : Mk X.K C f) (F : FnOk X.prog X.w X.K X.mg X.base (L2.CX X.prog X.w) k f fd ps sp) (hr : Room (k + 1) X.A) (hb : Binds X.K fd ps ds) (hd : Vals dvs ds)
    (hx : PassesAt (L2.CX X.prog X.w) X σ (E σ)) (I : Inv X pins σ H s) (r : Vals vs us)
    (h : ∀ x dx, H x = none → H dx = none → dx ≠ x → sp (.ref x :: (vs ++ dvs)) (upd (upd H dx (.own x)) x (.ins C dx [])) (fun v H2 => v = .non ∧ Q (.ref x) H2) (E σ)) :
    wpAny (model X.prog X.w) X.A (call (.ref C) us) (EP X pins σ Q) X.xe s := by
  have hq := h (s.heap.objs.size + 1) s.heap.objs.size (I.hok.fresh (Nat.le_succ _)) (I.hok.fresh (Nat.le_refl _)) (Nat.ne_of_lt (Nat.lt_succ_self _))
  have I2 := Inv.made (C := C) I
  have r2 : Vals (V.ref (s.heap.objs.size + 1) :: (vs ++ dvs)) (Value.ref (s.heap.objs.size + 1) :: (us ++ ds)) := .cons rfl (r.append hd)
  have hl : (Value.ref (s.heap.objs.size + 1) :: us ++ ds).length = ps.length := by
    have e := r2.length
    rw [F.len _ _ _ _ hq] at e
    exact e.symm
  refine wpAny_call (make_map (f := f) I.kIn M.makes M.init (beq_iff_eq.mp M.fn) (codeAny_mono (F.run _ X.stack _ _ ⟨Value.ref (s.heap.objs.size + 1) :: us, []⟩ (Value.ref (s.heap.objs.size + 1) :: (us ++ ds)) _ _ (E σ) (hr.make C us [])
    (I2.env0.make C us []) (hb _ (Value.ref (s.heap.objs.size + 1) :: us) I2.kIn hl) r2 hq) fun r s' hq' => ?_))
  cases r with
  | error e => exact hx pins _ _ e s' I2 hq'
  | ok fl =>
    cases fl with
    | ret u =>
      obtain ⟨v, H', I3, rv, ev, q3⟩ := I2.after hq'
      subst ev
      exact ⟨rv, ⟨V.ref (s.heap.objs.size + 1), H', I3, rfl, q3⟩⟩
    | next => exact False.elim hq'
    | brk => exact False.elim hq'
    | cont => exact False.elim hq'
theorem kc_make (M : Mk X.K C f) (c : Cal X.prog X.w X.K X.mg X.base f ps k dvs sp) (hr : Room (k + 1) X.A) (hg : Gl X x) (hm : X.mg x = some (.ref C)) (hx : ∀ σ, PassesAt (L2.CX X.prog X.w) X σ (E σ)) (ha : PA X (e :: es) t)
    (hdb : (x == ("__debug__" : Str)) = false := by decide) (he : starEach (e :: es) X.env = (false, eval e X.env) :: starEach es X.env := by rfl) (hpl : (backTo pos (starEach es X.env)).any (·.1) = false := by rfl) :
    PE X (.Call (.Name x p) (e :: es) [] pos) (xMake C sp dvs E t) := by
  obtain ⟨⟨fd, F, ds, hd, hb⟩, kp⟩ := c
  refine ⟨fun pins s σ H Q I h => ?_⟩
  refine wpAny_Call_Name_kw (ld_glob I hg hm ?_ hdb)
  refine PySem.W.callWith_K (h₀ := X.base) I.ok.mod.kin M.kp (thn (ha.run pos pins s σ H _ I h) fun us s1 ⟨vs, H1, I1, r, q⟩ => ⟨I1.kIn, ?_⟩) he hpl
  exact kc_runmake M F hr hb hd (hx σ) I1 r q
theorem kc_make0 (M : Mk X.K C f) (c : Cal X.prog X.w X.K X.mg X.base f ps k dvs sp) (hr : Room (k + 1) X.A) (hg : Gl X x) (hm : X.mg x = some (.ref C)) (hx : ∀ σ, PassesAt (L2.CX X.prog X.w) X σ (E σ))
    (hdb : (x == ("__debug__" : Str)) = false := by decide) : PE X (.Call (.Name x p) [] [] pos) (xMake C sp dvs E tNil) := by
  obtain ⟨⟨fd, F, ds, hd, hb⟩, kp⟩ := c
  refine ⟨fun pins s σ H Q I h => ?_⟩
  refine wpAny_Call_Name_kw (ld_glob I hg hm ?_ hdb)
  exact PySem.W.callWith_K0 I.kIn M.kp (kc_runmake (us := []) M F hr hb hd (hx σ) I .nil h)
end

/-! ### tests -/
theorem iteD {p A B : Prop} [Decidable p] (h1 : p → A) (h2 : ¬ p → B) : if decide p = true then A else B := by
  by_cases h : p
  · rw [if_pos (decide_eq_true h)]; exact h1 h
  · rw [if_neg (fun z => h (of_decide_eq_true z))]; exact h2 h
theorem iteN {p A B : Prop} [Decidable p] (h1 : ¬ p → A) (h2 : p → B) : if (!decide p) = true then A else B := by
  by_cases h : p
  · rw [decide_eq_true h]; exact iteF (h2 h)
  · rw [decide_eq_false h]; exact iteT (h1 h)
theorem iteEq {i j : Int} {A B : Prop} (h1 : i = j → A) (h2 : ¬ i = j → B) : if decide (V.int i = V.int j) = true then A else B :=
  iteD (fun z => h1 (V.int.inj z)) fun z => h2 fun y => z (by rw [y])
theorem iteNe {i j : Int} {A B : Prop} (h1 : ¬ i = j → A) (h2 : i = j → B) : if (!decide (V.int i = V.int j)) = true then A else B :=
  iteN (fun z => h1 fun y => z (by rw [y])) fun z => h2 (V.int.inj z)
theorem iteEqS {i j : Str} {A B : Prop} (h1 : i = j → A) (h2 : ¬ i = j → B) : if decide (V.str i = V.str j) = true then A else B :=
  iteD (fun z => h1 (V.str.inj z)) fun z => h2 fun y => z (by rw [y])
theorem iteNeS {i j : Str} {A B : Prop} (h1 : ¬ i = j → A) (h2 : i = j → B) : if (!decide (V.str i = V.str j)) = true then A else B :=
  iteN (fun z => h1 fun y => z (by rw [y])) fun z => h2 (V.str.inj z)
theorem iteB {b : Bool} {A B : Prop} (h1 : b = true → A) (h2 : b = false → B) : if b = true then A else B := by
  cases b with
  | true => exact iteT (h1 rfl)
  | false => exact iteF (h2 rfl)
theorem iteNB {b : Bool} {A B : Prop} (h1 : b = false → A) (h2 : b = true → B) : if (!b) = true then A else B := by
  cases b with
  | true => exact iteF (h2 rfl)
  | false => exact iteT (h1 rfl)
/-- where the stepping is to stop -/
structure Here (p : Prop) : Prop where
  h : p
/-! ### loops -/
section
variable {J : It} {n : Nat} {G : Hp → Prop} {tb : TS} {D : Ends} {σ : L2.St} {H : Hp} {K : PySem.W.Frag}
/-- a for with one name (slot a) over a walk -/
theorem loop1 {Y : Nat → Hp → V → Hp → Prop} (w : Walk J n G Y) (a : Nat) (Pv : Nat → L2.St → Hp → Prop) (h0 : Pv 0 σ H) (hG : ∀ i σ H, i ≤ n → Pv i σ H → G H)
    (hs : ∀ i x σ H H', i < n → Pv i σ H → Y i H x H' → tb { D with nx := fun σ H => Here (Pv (i + 1) σ H), ct := fun σ H => Here (Pv (i + 1) σ H), bk := D.nx } (σ.set a (some x)) H') (hd : ∀ σ H, Pv n σ H → D.nx σ H) :
    ∃ W : Nat → Nat → L2.St → Hp → Prop, (∃ m, W 0 m σ H) ∧ ∀ i m σ H, W i m σ H →
      (J.stop i H ∧ D.nx σ H) ∨ (J.go i H ∧ ∃ N : L2.St → Hp → Prop, (∀ σ' H', N σ' H' → ∃ m', m' < m ∧ W (i + 1) m' σ' H') ∧ ∀ x H', J.yld i H x H' → gName a x σ H' fun σ2 H2 => tb { D with nx := N, ct := N, bk := D.nx } σ2 H2) := by
  refine for_it w (fun i σ H => Here (Pv i σ H)) ⟨h0⟩ (fun i σ H hi h => hG i σ H hi h.h) (fun i x σ H H' hi p y => hs i x σ H H' hi p.h y) fun σ H h => hd σ H h.h
/-- a for with two names over a walk of new pairs -/
theorem loop2 {xs ys : Nat → Option V} (w : Walk J n G (YPair xs ys)) (a b : Nat) (Pv : Nat → L2.St → Hp → Prop) (h0 : Pv 0 σ H) (hG : ∀ i σ H, i ≤ n → Pv i σ H → G H)
    (hs : ∀ i x y σ H H', i < n → Pv i σ H → xs i = some x → ys i = some y → Same H H' → tb { D with nx := fun σ H => Here (Pv (i + 1) σ H), ct := fun σ H => Here (Pv (i + 1) σ H), bk := D.nx } ((σ.set a (some x)).set b (some y)) H') (hd : ∀ σ H, Pv n σ H → D.nx σ H) :
    ∃ W : Nat → Nat → L2.St → Hp → Prop, (∃ m, W 0 m σ H) ∧ ∀ i m σ H, W i m σ H →
      (J.stop i H ∧ D.nx σ H) ∨ (J.go i H ∧ ∃ N : L2.St → Hp → Prop, (∀ σ' H', N σ' H' → ∃ m', m' < m ∧ W (i + 1) m' σ' H') ∧ ∀ x H', J.yld i H x H' → gTup K 2 (gCons (gName a) (gCons (gName b) gNil)) x σ H' fun σ2 H2 => tb { D with nx := N, ct := N, bk := D.nx } σ2 H2) :=
  for_it w (fun i σ H => Here (Pv i σ H)) ⟨h0⟩ (fun i σ H hi h => hG i σ H hi h.h) (fun i x σ H H' hi p q => by
    obtain ⟨T, x1, y1, rfl, nT, rfl, e1, e2⟩ := q
    exact ⟨T, [x1, y1], rfl, .inl (.inl upd_same), rfl, x1, [y1], rfl, y1, [], rfl, rfl, hs i x1 y1 σ H _ hi p.h e1 e2 (same_new nT)⟩) fun σ H h => hd σ H h.h
/-- a for with any target -/
theorem loopG {g : TG} {Y : Nat → Hp → V → Hp → Prop} (w : Walk J n G Y) (Pv : Nat → L2.St → Hp → Prop) (h0 : Pv 0 σ H) (hG : ∀ i σ H, i ≤ n → Pv i σ H → G H)
    (hs : ∀ i x σ H H', i < n → Pv i σ H → Y i H x H' → g x σ H' fun σ2 H2 => tb { D with nx := fun σ H => Here (Pv (i + 1) σ H), ct := fun σ H => Here (Pv (i + 1) σ H), bk := D.nx } σ2 H2) (hd : ∀ σ H, Pv n σ H → D.nx σ H) :
    ∃ W : Nat → Nat → L2.St → Hp → Prop, (∃ m, W 0 m σ H) ∧ ∀ i m σ H, W i m σ H →
      (J.stop i H ∧ D.nx σ H) ∨ (J.go i H ∧ ∃ N : L2.St → Hp → Prop, (∀ σ' H', N σ' H' → ∃ m', m' < m ∧ W (i + 1) m' σ' H') ∧ ∀ x H', J.yld i H x H' → g x σ H' fun σ2 H2 => tb { D with nx := N, ct := N, bk := D.nx } σ2 H2) := by
  refine for_it w (fun i σ H => Here (Pv i σ H)) ⟨h0⟩ (fun i σ H hi h => hG i σ H hi h.h) (fun i x σ H H' hi p y => hs i x σ H H' hi p.h y) fun σ H h => hd σ H h.h
/-- while, by a word and a measure -/
theorem loopW {c : TT} (W : Nat → L2.St → Hp → Prop) (m0 : Nat) (h0 : W m0 σ H)
    (hs : ∀ m σ H, W m σ H → c σ H fun b H1 => if b = true then ∃ N : L2.St → Hp → Prop, (∀ σ' H', N σ' H' → ∃ m', m' < m ∧ W m' σ' H') ∧ tb { D with nx := N, ct := N, bk := D.nx } σ H1 else D.nx σ H1) : tWhile c tb D σ H :=
  ⟨W, ⟨m0, h0⟩, hs⟩
/-- a turn's end: the word at a smaller measure -/
theorem turnW {W : Nat → L2.St → Hp → Prop} {m : Nat} {σ : L2.St} {H : Hp} (h : tb { D with nx := fun σ2 H2 => Here (∃ m', m' < m ∧ W m' σ2 H2), ct := fun σ2 H2 => Here (∃ m', m' < m ∧ W m' σ2 H2), bk := D.nx } σ H) :
    ∃ N : L2.St → Hp → Prop, (∀ σ' H', N σ' H' → ∃ m', m' < m ∧ W m' σ' H') ∧ tb { D with nx := N, ct := N, bk := D.nx } σ H := ⟨_, fun _ _ z => z.h, h⟩

/-- the goal of a comprehension's reading behind its source -/
abbrev LcGoal (J : It) (g : TG) (tt : TT) (te : TE) (vs : List Nat) (σ : L2.St) (H1 : Hp) (Q : Addr → Hp → Prop) : Prop := ∀ D, H1 D = none → ∃ W : Nat → Nat → Hp → Prop, (∃ m, W 0 m (upd H1 D (.lst []))) ∧ ∀ i m H, W i m H →
  (J.stop i H ∧ Q D H) ∨ (J.go i H ∧ ∃ Nx : Hp → Prop, (∀ H', Nx H' → ∃ m', m' < m ∧ W (i + 1) m' H') ∧ ∀ x H', J.yld i H x H' → g x (wipe σ vs) H' fun σ2 H2 => wipe σ2 vs = wipe σ vs ∧ tt σ2 H2 fun b H3 =>
    if b = true then te σ2 H3 fun y H4 => ∃ acc, H4 D = some (.lst acc) ∧ acc.length < sizeLine ∧ Nx (upd H4 D (.lst (acc ++ [y]))) else Nx H3)
/-- what is given: v i for the turns of f, in order -/
def givn {α : Type} (f : Nat → Bool) (v : Nat → α) : Nat → List α
  | 0 => []
  | n + 1 => if f n = true then givn f v n ++ [v n] else givn f v n
theorem givn_len {α : Type} {f : Nat → Bool} {v : Nat → α} : ∀ n, (givn f v n).length ≤ n
  | 0 => Nat.le_refl 0
  | n + 1 => by
    have h := givn_len (f := f) (v := v) n
    unfold givn
    split
    · rw [List.length_append]; show _ + 1 ≤ _; omega
    · omega
theorem givn_map {α β : Type} (f : Nat → Bool) (v : Nat → α) (h : α → β) : ∀ n, (givn f v n).map h = givn f (fun i => h (v i)) n
  | 0 => rfl
  | n + 1 => by
    unfold givn
    split
    · rw [List.map_append, givn_map f v h n]; rfl
    · exact givn_map f v h n
/-- over a list: its filter, mapped -/
theorem givn_list {α β : Type} (xs : List α) (p : α → Bool) (g : α → β) (f : Nat → Bool) (v : Nat → β) (hf : ∀ i x, xs[i]? = some x → f i = p x) (hv : ∀ i x, xs[i]? = some x → v i = g x) :
    ∀ n, n ≤ xs.length → givn f v n = ((xs.take n).filter p).map g
  | 0, _ => by simp [givn]
  | n + 1, hn => by
    have h1 : n < xs.length := by omega
    have e : xs[n]? = some xs[n] := List.getElem?_eq_getElem h1
    have ih := givn_list xs p g f v hf hv n (by omega)
    unfold givn
    rw [ih, hf n _ e, hv n _ e, List.take_succ_eq_append_getElem h1, List.filter_append, List.map_append]
    cases hp : p xs[n] with
    | true => simp [hp]
    | false => simp [hp]
theorem givn_all {α : Type} (v : Nat → α) : ∀ n, givn (fun _ => true) v n = (List.range n).map v
  | 0 => rfl
  | n + 1 => by
    unfold givn
    rw [givn_all v n, List.range_succ, List.map_append]
    rfl
theorem givn_listA {α β : Type} (xs : List α) (g : α → β) (v : Nat → β) (hv : ∀ i x, xs[i]? = some x → v i = g x) : givn (fun _ => true) v xs.length = xs.map g := by
  rw [givn_list xs (fun _ => true) g (fun _ => true) v (fun _ _ _ => rfl) hv xs.length (Nat.le_refl _), List.take_length, List.filter_eq_self.mpr (fun _ _ => rfl)]
theorem upd_some_ne {H : Hp} {D b : Addr} {o u : HO} (hb : b ≠ D) (e : H b = some o) : upd H D u b = some o := by rw [upd_ne hb]; exact e
/-- a comprehension whose elements are values told ahead: v i at the turns of f -/
theorem lcF {Y : Nat → Hp → V → Hp → Prop} {te : TE} {vs : List Nat} {Q : Addr → Hp → Prop} {g : TG} {tt : TT} (w : Walk J n G Y) (f : Nat → Bool) (v : Nat → V)
    (hn : n < sizeLine) (hG : ∀ H', Same H H' → G H')
    (hs : ∀ i x H1 H' (F : VK) (F' : Hp → Prop), i < n → Same H H1 → Y i H1 x H' → (f i = true → ∀ H4, Same H1 H4 → F (v i) H4) → (f i = false → ∀ H4, Same H1 H4 → F' H4) →
      g x (wipe σ vs) H' fun σ2 H2 => wipe σ2 vs = wipe σ vs ∧ tt σ2 H2 fun b H3 => if b = true then te σ2 H3 F else F' H3)
    (hq : ∀ p H', H p = none → Same H H' → H' p = some (.lst (givn f v n)) → Q p H') : LcGoal J g tt te vs σ H Q := by
  intro D hD
  refine lc_it w (fun i H' => Same H H' ∧ H' D = some (.lst (givn f v i))) ⟨same_new hD, upd_same⟩ (fun i H' _ h => hG H' h.1) ?_ (fun H' h => hq D H' hD h.1 h.2)
  rintro i x H1 H' hi ⟨e1, e2⟩ y
  have hz : (givn f v i).length < sizeLine := Nat.lt_of_le_of_lt (givn_len i) (by omega)
  refine hs i x H1 H' _ _ hi e1 y (fun hf H4 e4 => ⟨givn f v i, e4 _ _ e2, hz, fun b o ha => ?_, ?_⟩) (fun hf H4 e4 => ⟨e1.trans e4, ?_⟩)
  · exact upd_some_ne (ne_of_none ha hD) ((e1.trans e4) b o ha)
  · rw [upd_same]
    show _ = some (HO.lst (if f i = true then _ else _))
    rw [if_pos hf]
  · rw [e4 _ _ e2]
    show _ = some (HO.lst (if f i = true then _ else _))
    rw [if_neg (by rw [hf]; exact Bool.false_ne_true)]
/-- the same without a test -/
theorem lcA {Y : Nat → Hp → V → Hp → Prop} {te : TE} {vs : List Nat} {Q : Addr → Hp → Prop} {g : TG} (w : Walk J n G Y) (v : Nat → V)
    (hn : n < sizeLine) (hG : ∀ H', Same H H' → G H')
    (hs : ∀ i x H1 H' (F : VK), i < n → Same H H1 → Y i H1 x H' → (∀ H4, Same H1 H4 → F (v i) H4) →
      g x (wipe σ vs) H' fun σ2 H2 => wipe σ2 vs = wipe σ vs ∧ te σ2 H2 F)
    (hq : ∀ p H', H p = none → Same H H' → H' p = some (.lst (givn (fun _ => true) v n)) → Q p H') : LcGoal J g tYes te vs σ H Q :=
  lcF w (fun _ => true) v hn hG (fun i x H1 H' F F' hi e1 y h1 h2 => hs i x H1 H' F hi e1 y (h1 rfl)) hq
/-- a comprehension without a test; what is told of each element holds where the new list grows -/
theorem lcH {Y : Nat → Hp → V → Hp → Prop} {te : TE} {vs : List Nat} {Q : Addr → Hp → Prop} {g : TG} (w : Walk J n G Y) (R : Nat → V → Hp → Prop)
    (hR : ∀ i v H1 H2 D xs, (∀ b o, b ≠ D → H1 b = some o → H2 b = some o) → H1 D = some (.lst xs) → R i v H1 → R i v H2) (hn : n < sizeLine) (hG : ∀ H', Same H H' → G H')
    (hs : ∀ i x H1 H' (F : VK), i < n → Same H H1 → Y i H1 x H' → (∀ v H4, Same H1 H4 → R i v H4 → F v H4) →
      g x (wipe σ vs) H' fun σ2 H2 => wipe σ2 vs = wipe σ vs ∧ te σ2 H2 F)
    (hq : ∀ p H' ys, H p = none → Same H H' → H' p = some (.lst ys) → ys.length = n → (∀ i v, ys[i]? = some v → R i v H') → Q p H') : LcGoal J g tYes te vs σ H Q := by
  intro D hD
  refine lc_it w (fun i H' => Same H H' ∧ ∃ ys, H' D = some (.lst ys) ∧ ys.length = i ∧ ∀ j v, ys[j]? = some v → R j v H') ⟨same_new hD, [], upd_same, rfl, fun j v e => by simp at e⟩ (fun i H' _ h => hG H' h.1) ?_ ?_
  · rintro i x H1 H' hi ⟨e1, ys, eD, hl, hr⟩ y
    refine hs i x H1 H' _ hi e1 y fun v H4 e4 r4 => ?_
    refine ⟨ys, e4 _ _ eD, by omega, fun b o ha => upd_some_ne (ne_of_none ha hD) ((e1.trans e4) b o ha), ys ++ [v], upd_same, by rw [List.length_append, hl]; rfl, fun j u e => ?_⟩
    by_cases hj : j < ys.length
    · rw [List.getElem?_append_left hj] at e
      refine hR j u H1 _ D ys (fun b o hb q => upd_some_ne hb (e4 b o q)) eD (hr j u e)
    · have hj2 : j = i := by
        have := (List.getElem?_eq_some_iff.mp e).1
        rw [List.length_append] at this
        have : [v].length = 1 := rfl
        omega
      subst hj2
      rw [← hl, List.getElem?_concat_length] at e
      cases e
      exact hR j v H4 _ D ys (fun b o hb q => upd_some_ne hb q) (e4 _ _ eD) r4
  · rintro H' ⟨e1, ys, eD, hl, hr⟩
    exact hq D H' ys hD e1 eD hl hr
end

/-! ### more facts of the head -/
inductive Fx where
  | excC (x : Str)
  | kitR (x y : Str) (b : Bool)
  | kitT (x : Str) (n : String) (b : Bool)
  | exm (x y : Str) (b : Bool)
def Fx.ok (K : PySem.W.Frag) : Fx → Bool
  | .excC x => He.eqO (PySem.W.findIn K (.ref (He.ga K x)) "__getattribute__") (some (some (.builtin "BaseException.__getattribute__"))) && (He.eqO (PySem.W.findIn K (.ref (He.ga K x)) "__getattr__") (some none) && (decide (PySem.W.subIn K (.ref (He.ga K x)) (.type "BaseException") = some true) && (PySem.W.hasDictIn K (He.ga K x) &&
      (He.eqO (PySem.W.findIn K (.ref (He.ga K x)) "__class__") (some (some (.builtin "object.__class__"))) && (He.eqO (PySem.W.specialIn K (.builtin "object.__class__") "__get__") (some (some (.builtin "getset_descriptor.__get__"))) && (decide (PySem.W.takesIn K (.builtin "object.__class__") = some true) && decide (PySem.W.mroIn K (He.ga K x) (.type "object") = some true)))))))
  | .kitR x y b => decide (PySem.W.kitOne K (.ref (He.ga K x)) (.ref (He.ga K y)) = some b)
  | .kitT x n b => decide (PySem.W.kitOne K (.ref (He.ga K x)) (.type n) = some b)
  | .exm x y b => decide (PySem.W.exmOne K (.ref (He.ga K x)) (.ref (He.ga K y)) = some b)
theorem Fx.excC_ok {K : PySem.W.Frag} {x : Str} (c : (Fx.excC x).ok K = true) : ExcC K (He.ga K x) := by
  obtain ⟨c1, c⟩ := He.ba c
  obtain ⟨c2, c⟩ := He.ba c
  obtain ⟨c3, c⟩ := He.ba c
  obtain ⟨c4, c⟩ := He.ba c
  obtain ⟨c5, c⟩ := He.ba c
  obtain ⟨c6, c⟩ := He.ba c
  obtain ⟨c7, c8⟩ := He.ba c
  exact ⟨He.eqO_ok c1, He.eqO_ok c2, of_decide_eq_true c3, c4, He.eqO_ok c5, He.eqO_ok c6, of_decide_eq_true c7, of_decide_eq_true c8⟩
theorem Fx.kitR_ok {K : PySem.W.Frag} {x y : Str} {b : Bool} (c : (Fx.kitR x y b).ok K = true) : PySem.W.kitOne K (.ref (He.ga K x)) (.ref (He.ga K y)) = some b := of_decide_eq_true c
theorem Fx.kitT_ok {K : PySem.W.Frag} {x : Str} {n : String} {b : Bool} (c : (Fx.kitT x n b).ok K = true) : PySem.W.kitOne K (.ref (He.ga K x)) (.type n) = some b := of_decide_eq_true c
theorem Fx.exm_ok {K : PySem.W.Frag} {x y : Str} {b : Bool} (c : (Fx.exm x y b).ok K = true) : PySem.W.exmOne K (.ref (He.ga K x)) (.ref (He.ga K y)) = some b := of_decide_eq_true c
abbrev AlX : Type := He.AlD × Bool
def obsX (fa : List He.Fa) (fn : List He.DefD) (fx : List Fx) (K : PySem.W.Frag) : AlX := (He.obsD fa fn K, fx.all fun f => f.ok K)
def valX (fn : List He.DefD) : AlX := (He.valD fn, true)
def SaysX (fa : List He.Fa) (fn : List He.DefD) (fx : List Fx) (K : PySem.W.Frag) : Prop := obsX fa fn fx K = valX fn
theorem SaysX.d {fa : List He.Fa} {fn : List He.DefD} {fx : List Fx} {K : PySem.W.Frag} (c : SaysX fa fn fx K) : He.SaysD fa fn K := congrArg (fun z : AlX => z.1) c
theorem SaysX.x {fa : List He.Fa} {fn : List He.DefD} {fx : List Fx} {K : PySem.W.Frag} (c : SaysX fa fn fx K) (i : Nat) {f : Fx} (h : fx[i]? = some f := by rfl) : f.ok K = true :=
  List.all_eq_true.mp (show (fx.all fun f => f.ok K) = true from congrArg (fun z : AlX => z.2) c) f (List.mem_of_getElem? h)
def obsXG (n : Nat) (fa : List He.Fa) (fn : List He.DefD) (fx : List Fx) (g : Addr → Option Obj) : AlX := obsX fa fn fx (He.frG g (He.asD g n))
def hookX (n : Nat) (fa : List He.Fa) (fn : List He.DefD) (fx : List Fx) : PySem.W.Hook where
  α := AlX
  obs := fun s => obsXG n fa fn fx s.heap.get?
  val := fun _ => valX fn
  says := fun _ h => ∃ K : PySem.W.Frag, K.In h ∧ SaysX fa fn fx K
  of := fun _ _ e => ⟨_, He.frG_in, e⟩
  keeps := fun _ _ _ ⟨K, hK, c⟩ k => ⟨K, PySem.W.Frag.In.keeps hK k, c⟩
theorem obsXG_eq {n : Nat} {fa : List He.Fa} {fn : List He.DefD} {fx : List Fx} {g : Addr → Option Obj} {s : Shared} (h : ∀ a, g a = s.heap.get? a) : obsXG n fa fn fx g = (hookX n fa fn fx).obs s := by
  have e : g = s.heap.get? := funext h
  rw [e] <;> rfl

/-- a def that asks nothing of exceptions lets none out -/
theorem FnOk.to0 {P : Program} {w : World} {K : PySem.W.Frag} {mg : Str → Option Value} {base : Heap} {k : Nat} {f : Addr} {fd : FuncData} {ps : List Str} {sp : Sp} (F : FnOk P w K mg base (L2.CX P w) k f fd ps sp) (h : ∀ vs H Q E E', sp vs H Q E → sp vs H Q E') : FnOk P w K mg base CX0 k f fd ps sp :=
  ⟨F.len, fun A outer s H args us vs Q E hr e0 hb hv hs => codeAny_mono (F.run A outer s H args us vs Q E0 hr e0 hb hv (h _ _ _ _ _ hs)) fun r s' q => by
    cases r with
    | ok fl =>
      cases fl with
      | ret u => exact q
      | next => exact q
      | brk => exact q
      | cont => exact q
    | error e =>
      obtain ⟨_, _, _, _, _, _, _, _, _, _, _, _, z⟩ := (show L2.CX P w outer H s E0 e s' from q)
      exact z.elim⟩
end Mx

set_option Elab.async false
set_option maxRecDepth 100000
set_option maxHeartbeats 4000000
namespace Nt
/-! numbers of a prime: plain mathematics -/
/-- no number from 2 on whose square is not above it divides it -/
def isPr (n : Int) : Bool := decide (2 ≤ n) && (List.range n.toNat).all fun d => decide (d < 2) || decide (n < (d : Int) * d) || decide (n % (d : Int) ≠ 0)
theorem isPr_iff {n : Int} : isPr n = true ↔ 2 ≤ n ∧ ∀ d : Int, 2 ≤ d → d * d ≤ n → n % d ≠ 0 := by
  unfold isPr
  rw [Bool.and_eq_true, decide_eq_true_eq, List.all_eq_true]
  constructor
  · rintro ⟨h2, h⟩
    refine ⟨h2, fun d hd hq => ?_⟩
    have hdn : d ≤ d * d := by
      have : 1 * d ≤ d * d := Int.mul_le_mul_of_nonneg_right (by omega) (by omega)
      omega
    have hlt : d < n := by
      have : 2 * d ≤ d * d := Int.mul_le_mul_of_nonneg_right (by omega) (by omega)
      omega
    have q := h d.toNat (List.mem_range.mpr (by omega))
    have e : (d.toNat : Int) = d := Int.toNat_of_nonneg (by omega)
    rw [e] at q
    simp only [Bool.or_eq_true, decide_eq_true_eq] at q
    rcases q with (q | q) | q
    · omega
    · omega
    · exact q
  · rintro ⟨h2, h⟩
    refine ⟨h2, fun d _ => ?_⟩
    simp only [Bool.or_eq_true, decide_eq_true_eq]
    by_cases h1 : d < 2
    · exact .inl (.inl h1)
    · by_cases h3 : n < (d : Int) * d
      · exact .inl (.inr h3)
      · exact .inr (h d (by omega) (by omega))
theorem isPr_false {n d : Int} (h2 : 2 ≤ d) (h : d * d ≤ n) (h0 : n % d = 0) : isPr n = false := by
  cases e : isPr n with
  | false => rfl
  | true => exact absurd h0 ((isPr_iff.mp e).2 d h2 h)
theorem isPr_small {n : Int} (h : n < 2) : isPr n = false := by
  cases e : isPr n with
  | false => rfl
  | true => exact absurd (isPr_iff.mp e).1 (by omega)
theorem isPr_pos {p : Int} (h : isPr p = true) : 2 ≤ p := (isPr_iff.mp h).1
/-- a prime's divisors -/
theorem pr_dvd {p d : Int} (h : isPr p = true) (h1 : 1 ≤ d) (hd : p % d = 0) : d = 1 ∨ d = p := by
  obtain ⟨h2, hp⟩ := isPr_iff.mp h
  by_cases e1 : d = 1
  · exact .inl e1
  · right
    obtain ⟨k, hk⟩ : ∃ k, p = d * k := Int.dvd_of_emod_eq_zero hd
    have hk0 : 0 < k := by
      rcases Int.lt_trichotomy k 0 with h' | h' | h'
      · have : d * k < 0 := Int.mul_neg_of_pos_of_neg (by omega) h'
        omega
      · rw [h', Int.mul_zero] at hk; omega
      · exact h'
    by_cases hq : d * d ≤ p
    · exact absurd hd (hp d (by omega) hq)
    · have hkd : k < d := by
        by_cases h' : k < d
        · exact h'
        · have : d * d ≤ d * k := Int.mul_le_mul_of_nonneg_left (by omega) (by omega)
          omega
      by_cases k1 : k = 1
      · rw [k1, Int.mul_one] at hk; exact hk.symm
      · have hkk : k * k ≤ p := by
          have : k * k ≤ d * k := Int.mul_le_mul_of_nonneg_right (by omega) (by omega)
          omega
        have : p % k = 0 := Int.emod_eq_zero_of_dvd ⟨d, by rw [hk, Int.mul_comm]⟩
        exact absurd this (hp k (by omega) hkk)
/-- the number that makes 1 with n -/
def inv (p n : Int) : Int := (((List.range p.toNat).find? fun b : Nat => decide ((b : Int) * n % p = 1)).getD 0 : Nat)
theorem inv_range {p n : Int} (hp : 0 < p) : 0 ≤ inv p n ∧ inv p n < p := by
  unfold inv
  cases e : (List.range p.toNat).find? fun b : Nat => decide ((b : Int) * n % p = 1) with
  | none => simp; omega
  | some b =>
    have := List.mem_range.mp (List.mem_of_find?_eq_some e)
    simp only [Option.getD_some]
    omega
theorem inv_of {p n b : Int} (h0 : 0 ≤ b) (hb : b < p) (h : b * n % p = 1) : inv p n * n % p = 1 ∧ b = inv p n := by
  have hp : 0 < p := by omega
  have key : ∀ c : Int, 0 ≤ c → c < p → c * n % p = 1 → c = b := fun c c0 cb hc => by
    -- c = c * (b n) = b * (c n) = b
    have e1 : (c * n * b) % p = b % p := by rw [Int.mul_emod, hc, Int.one_mul, Int.emod_emod]
    have e2 : (b * n * c) % p = c % p := by rw [Int.mul_emod, h, Int.one_mul, Int.emod_emod]
    have e3 : c * n * b = b * n * c := by rw [Int.mul_comm (c * n) b, Int.mul_comm c n, ← Int.mul_assoc]
    rw [e3, e2, Int.emod_eq_of_lt c0 cb, Int.emod_eq_of_lt h0 hb] at e1
    exact e1
  have hex : ∃ b' ∈ List.range p.toNat, (fun b : Nat => decide ((b : Int) * n % p = 1)) b' = true := ⟨b.toNat, List.mem_range.mpr (by omega), by
    show decide (((b.toNat : Nat) : Int) * n % p = 1) = true
    rw [Int.toNat_of_nonneg h0]; exact decide_eq_true h⟩
  cases e : (List.range p.toNat).find? fun b : Nat => decide ((b : Int) * n % p = 1) with
  | none =>
    obtain ⟨b', m, t⟩ := hex
    exact absurd t (by simpa using List.find?_eq_none.mp e b' m)
  | some c =>
    have hc : inv p n = (c : Int) := by unfold inv; rw [e]; rfl
    have c1 : (c : Int) * n % p = 1 := of_decide_eq_true (List.find?_some (p := fun b : Nat => decide ((b : Int) * n % p = 1)) e)
    have c2 := List.mem_range.mp (List.mem_of_find?_eq_some e)
    rw [hc]
    exact ⟨c1, (key c (by omega) (by omega) c1).symm⟩
/-! ### primes by a common divisor with 1000! -/
def fac : Nat → Nat
  | 0 => 1
  | n + 1 => (n + 1) * fac n
theorem dvd_fac : ∀ {n d : Nat}, 1 ≤ d → d ≤ n → d ∣ fac n
  | 0, d, h1, h2 => by omega
  | n + 1, d, h1, h2 => by
    by_cases e : d = n + 1
    · exact ⟨fac n, by rw [e]; rfl⟩
    · obtain ⟨k, hk⟩ := dvd_fac (n := n) h1 (by omega)
      exact ⟨(n + 1) * k, by show (n + 1) * fac n = _; rw [hk, Nat.mul_left_comm]⟩
theorem pr_of_gcd {n : Nat} (h2 : 2 ≤ n) (hn : n ≤ 1000000) (h : Nat.gcd n (fac 1000) = 1) : isPr (n : Int) = true := by
  refine isPr_iff.mpr ⟨by omega, fun d hd hq h0 => ?_⟩
  have hd1000 : d ≤ 1000 := by
    by_cases h' : d ≤ 1000
    · exact h'
    · have : (1001 : Int) * 1001 ≤ d * d := Int.mul_le_mul (by omega) (by omega) (by omega) (by omega)
      omega
  have e : (d.toNat : Int) = d := Int.toNat_of_nonneg (by omega)
  have hdn : d.toNat ∣ n := by
    have : (d.toNat : Int) ∣ (n : Int) := by rw [e]; exact Int.dvd_of_emod_eq_zero h0
    exact Int.natCast_dvd_natCast.mp this
  have := Nat.dvd_gcd hdn (dvd_fac (n := 1000) (d := d.toNat) (by omega) (by omega))
  rw [h] at this
  have := Nat.le_of_dvd (by decide) this
  omega
/-- 1000! -/
def F : Nat := 402387260077093773543702433923003985719374864210714632543799910429938512398629020592044208486969404800479988610197196058631666872994808558901323829669944590997424504087073759918823627727188732519779505950995276120874975462497043601418278094646496291056393887437886487337119181045825783647849977012476632889835955735432513185323958463075557409114262417474349347553428646576611667797396668820291207379143853719588249808126867838374559731746136085379534524221586593201928090878297308431392844403281231558611036976801357304216168747609675871348312025478589320767169132448426236131412508780208000261683151027341827977704784635868170164365024153691398281264810213092761244896359928705114964975419909342221566832572080821333186116811553615836546984046708975602900950537616475847728421889679646244945160765353408198901385442487984959953319101723355556602139450399736280750137837615307127761926849034352625200015888535147331611702103968175921510907788019393178114194545257223865541461062892187960223838971476088506276862967146674697562911234082439208160153780889893964518263243671616762179168909779911903754031274622289988005195444414282012187361745992642956581746628302955570299024324153181617210465832036786906117260158783520751516284225540265170483304226143974286933061690897968482590125458327168226458066526769958652682272807075781391858178889652208164348344825993266043367660176999612831860788386150279465955131156552036093988180612138558600301435694527224206344631797460594682573103790084024432438465657245014402821885252470935190620929023136493273497565513958720559654228749774011413346962715422845862377387538230483865688976461927383814900140767310446640259899490222221765904339901886018566526485061799702356193897017860040811889729918311021171229845901641921068884387121855646124960798722908519296819372388642614839657382291123125024186649353143970137428531926649875337218940694281434118520158014123344828015051399694290153483077644569099073152433278288269864602789864321139083506217095002597389863554277196742822248757586765752344220207573630569498825087968928162753848863396909959826280956121450994871701244516461260379029309120889086942028510640182154399457156805941872748998094254742173582401063677404595741785160829230135358081840096996372524230560855903700624271243416909004153690105933983835777939410970027753472000000000000000000000000000000000000000000000000000000000000000000000000000000000000000000000000000000000000000000000000000000000000000000000000000000000000000000000000000000000000000000000000000000000000000000000000000000000000000000000000000000000
theorem F_eq : F = fac 1000 := by decide +kernel
/-- one of 100 j + 1, 100 j + 3, .. below 100 j + 2 k that has no common divisor with it -/
def some1 (j : Nat) : Nat → Bool
  | 0 => false
  | k + 1 => bif Nat.beq (Nat.gcd (100 * j + (2 * k + 1)) F) 1 then true else some1 j k
theorem some1_ok {j : Nat} : ∀ {k : Nat}, some1 j k = true → ∃ o, o < 2 * k ∧ Nat.gcd (100 * j + o) (fac 1000) = 1
  | 0, h => by cases h
  | k + 1, h => by
    cases e : Nat.beq (Nat.gcd (100 * j + (2 * k + 1)) F) 1 with
    | true =>
      refine ⟨2 * k + 1, by omega, ?_⟩
      rw [← F_eq]
      exact Nat.eq_of_beq_eq_true e
    | false =>
      have q : (bif Nat.beq (Nat.gcd (100 * j + (2 * k + 1)) F) 1 then true else some1 j k) = true := h
      rw [e] at q
      obtain ⟨o, h1, h2⟩ := some1_ok (k := k) q
      exact ⟨o, by omega, h2⟩
def all1 : Nat → Nat → Bool
  | 0, j => Nat.ble j 9 || (Nat.ble 9992 j || some1 j 50)
  | d + 1, j => all1 d (2 * j) && all1 d (2 * j + 1)
theorem all1_ok : ∀ {d j : Nat}, all1 d j = true → ∀ i, j * 2 ^ d ≤ i → i < (j + 1) * 2 ^ d → 10 ≤ i → i ≤ 9991 → some1 i 50 = true
  | 0, j, h, i, h1, h2, h3, h4 => by
    have e : i = j := by simp at h1 h2; omega
    subst e
    have q : (Nat.ble i 9 || (Nat.ble 9992 i || some1 i 50)) = true := h
    rw [Bool.or_eq_true, Bool.or_eq_true] at q
    rcases q with q | q | q
    · have := Nat.le_of_ble_eq_true q; omega
    · have := Nat.le_of_ble_eq_true q; omega
    · exact q
  | d + 1, j, h, i, h1, h2, h3, h4 => by
    obtain ⟨a, b⟩ := Bool.and_eq_true_iff.mp (show (all1 d (2 * j) && all1 d (2 * j + 1)) = true from h)
    have e1 : j * 2 ^ (d + 1) = (2 * j) * 2 ^ d := by rw [Nat.pow_succ, Nat.mul_comm 2 j, Nat.mul_assoc, Nat.mul_comm 2]
    have e2 : (j + 1) * 2 ^ (d + 1) = (2 * j + 1 + 1) * 2 ^ d := by rw [Nat.pow_succ, show 2 * j + 1 + 1 = 2 * (j + 1) by omega, Nat.mul_comm 2 (j + 1), Nat.mul_assoc, Nat.mul_comm 2]
    rw [e1] at h1
    rw [e2] at h2
    by_cases c : i < (2 * j + 1) * 2 ^ d
    · exact all1_ok a i h1 c h3 h4
    · exact all1_ok b i (by omega) h2 h3 h4
theorem all1_run : all1 14 0 = true := by decide +kernel
theorem few_run : ([199, 397, 593, 787, 983] : List Int).all isPr = true := by decide +kernel
theorem gap (n : Int) (h2 : 2 ≤ n) (hn : n ≤ 999001) : ∃ k : Nat, k < 200 ∧ isPr (n + (k : Nat)) = true := by
  have few : ∀ q : Int, q ∈ ([199, 397, 593, 787, 983] : List Int) → n ≤ q → q < n + 200 → ∃ k : Nat, k < 200 ∧ isPr (n + (k : Nat)) = true := fun q hq a b => by
    have := List.all_eq_true.mp few_run q hq
    refine ⟨(q - n).toNat, by omega, ?_⟩
    have e : n + ((q - n).toNat : Int) = q := by omega
    rw [e]; exact this
  by_cases a1 : n ≤ 199
  · exact few 199 (by simp) a1 (by omega)
  by_cases a2 : n ≤ 397
  · exact few 397 (by simp) a2 (by omega)
  by_cases a3 : n ≤ 593
  · exact few 593 (by simp) a3 (by omega)
  by_cases a4 : n ≤ 787
  · exact few 787 (by simp) a4 (by omega)
  by_cases a5 : n ≤ 983
  · exact few 983 (by simp) a5 (by omega)
  have e : (n.toNat : Int) = n := Int.toNat_of_nonneg (by omega)
  generalize hm : n.toNat = m at *
  have hj : 10 ≤ m / 100 + 1 ∧ m / 100 + 1 ≤ 9991 := by omega
  have h14 : (0 + 1) * 2 ^ 14 = 16384 := by decide
  obtain ⟨o, ho, hg⟩ := some1_ok (k := 50) (all1_ok (d := 14) (j := 0) all1_run (m / 100 + 1) (by simp) (by omega) hj.1 hj.2)
  refine ⟨100 * (m / 100 + 1) + o - m, by omega, ?_⟩
  have e2 : n + ((100 * (m / 100 + 1) + o - m : Nat) : Int) = ((100 * (m / 100 + 1) + o : Nat) : Int) := by omega
  rw [e2]
  exact pr_of_gcd (by omega) (by omega) hg
theorem some_run : ([2, 3, 5, 7, 11, 13, 17, 19, 23, 29, 31, 37, 41, 43, 47, 53, 59, 61, 67, 71, 97, 101, 257] : List Int).all isPr = true := by decide +kernel
theorem big_run : isPr 999983 = true := pr_of_gcd (n := 999983) (by decide) (by decide) (by rw [← F_eq]; decide +kernel)
/-! ### Euclid -/
theorem euc_step {p n left right one other : Int} (h1 : (one * n - left) % p = 0) (h2 : (other * n - right) % p = 0) : ((one - left / right * other) * n - left % right) % p = 0 := by
  have e : (one - left / right * other) * n - left % right = (one * n - left) - left / right * (other * n - right) := by
    have q := Int.mul_ediv_add_emod left right
    have q2 : left / right * right = left - left % right := by rw [Int.mul_comm]; omega
    rw [Int.sub_mul, Int.mul_sub, Int.mul_assoc, q2]
    omega
  rw [e]
  have d1 := Int.dvd_of_emod_eq_zero h1
  have d2 := Int.dvd_of_emod_eq_zero h2
  exact Int.emod_eq_zero_of_dvd (Int.dvd_sub d1 (Int.dvd_mul_of_dvd_right d2))
end Nt

set_option Elab.async false
set_option linter.all false
set_option maxRecDepth 100000
set_option maxHeartbeats 4000000
namespace Mx
open PySem PySem.Spec PyProof.Rows L2
theorem ty_lst {K : PySem.W.Frag} {H : Hp} {p : Addr} {xs : List V} (h : H p = some (.lst xs)) : tyV K "list" (.ref p) H := .inl ⟨rfl, xs, SqL.of h⟩
theorem ty_dK {K : PySem.W.Frag} {H : Hp} {p : Addr} {xs : List (Key × V)} (h : H p = some (.dK xs)) : tyV K "dict" (.ref p) H := .inr (.inr (.inl ⟨rfl, .inl ⟨xs, h⟩⟩))
theorem sqL_at {K : PySem.W.Frag} {H : Hp} {p : Addr} {xs : List V} (h : H p = some (.lst xs)) : SqL K H p xs := SqL.of h
/-! ### data as trees, what stands for them in a heap, by footprints -/
inductive Dat where
  | non | bl (b : Bool) | int (i : Int) | str (s : Str) | lst (l : List Dat) | tup (l : List Dat) | dct (l : List (Key × Dat))
abbrev dI (xs : List Int) : Dat := .lst (xs.map .int)
abbrev dT (rows : List (List Int)) : Dat := .lst (rows.map dI)
mutual
inductive Tr (H : Hp) : V → Dat → List Addr → Prop
  | non : Tr H .non .non []
  | bl (b : Bool) : Tr H (.bl b) (.bl b) []
  | int (i : Int) : Tr H (.int i) (.int i) []
  | str (s : Str) : Tr H (.str s) (.str s) []
  | lst {a : Addr} {vs : List V} {ds : List Dat} {fp : List Addr} : H a = some (.lst vs) → Trs H vs ds fp → Tr H (.ref a) (.lst ds) (a :: fp)
  | tup {a : Addr} {vs : List V} {ds : List Dat} {fp : List Addr} : H a = some (.tup vs) → Trs H vs ds fp → Tr H (.ref a) (.tup ds) (a :: fp)
  | dct {a : Addr} {kvs : List (Key × V)} {kds : List (Key × Dat)} {fp : List Addr} : H a = some (.dK kvs) → kvs.map (·.1) = kds.map (·.1) → Trs H (kvs.map (·.2)) (kds.map (·.2)) fp → Tr H (.ref a) (.dct kds) (a :: fp)
inductive Trs (H : Hp) : List V → List Dat → List Addr → Prop
  | nil : Trs H [] [] []
  | cons {v : V} {d : Dat} {vs : List V} {ds : List Dat} {f1 f2 : List Addr} : Tr H v d f1 → Trs H vs ds f2 → Trs H (v :: vs) (d :: ds) (f1 ++ f2)
end
mutual
theorem Tr.mono {H H' : Hp} : ∀ {v : V} {d : Dat} {fp : List Addr}, Tr H v d fp → (∀ b ∈ fp, ∀ o, H b = some o → H' b = some o) → Tr H' v d fp
  | _, _, _, .non, _ => .non
  | _, _, _, .bl b, _ => .bl b
  | _, _, _, .int i, _ => .int i
  | _, _, _, .str s, _ => .str s
  | _, _, _, .lst e t, k => .lst (k _ (List.mem_cons_self) _ e) (t.mono fun b hb => k b (List.mem_cons_of_mem _ hb))
  | _, _, _, .tup e t, k => .tup (k _ (List.mem_cons_self) _ e) (t.mono fun b hb => k b (List.mem_cons_of_mem _ hb))
  | _, _, _, .dct e q t, k => .dct (k _ (List.mem_cons_self) _ e) q (t.mono fun b hb => k b (List.mem_cons_of_mem _ hb))
theorem Trs.mono {H H' : Hp} : ∀ {vs : List V} {ds : List Dat} {fp : List Addr}, Trs H vs ds fp → (∀ b ∈ fp, ∀ o, H b = some o → H' b = some o) → Trs H' vs ds fp
  | _, _, _, .nil, _ => .nil
  | _, _, _, .cons a t, k => .cons (a.mono fun b hb => k b (List.mem_append_left _ hb)) (t.mono fun b hb => k b (List.mem_append_right _ hb))
end
mutual
theorem Tr.dom {H : Hp} : ∀ {v : V} {d : Dat} {fp : List Addr}, Tr H v d fp → ∀ b ∈ fp, ∃ o, H b = some o
  | _, _, _, .non, b, h => by cases h
  | _, _, _, .bl _, b, h => by cases h
  | _, _, _, .int _, b, h => by cases h
  | _, _, _, .str _, b, h => by cases h
  | _, _, _, .lst e t, b, h => by
    rcases List.mem_cons.mp h with rfl | h
    · exact ⟨_, e⟩
    · exact t.dom b h
  | _, _, _, .tup e t, b, h => by
    rcases List.mem_cons.mp h with rfl | h
    · exact ⟨_, e⟩
    · exact t.dom b h
  | _, _, _, .dct e q t, b, h => by
    rcases List.mem_cons.mp h with rfl | h
    · exact ⟨_, e⟩
    · exact t.dom b h
theorem Trs.dom {H : Hp} : ∀ {vs : List V} {ds : List Dat} {fp : List Addr}, Trs H vs ds fp → ∀ b ∈ fp, ∃ o, H b = some o
  | _, _, _, .nil, b, h => by cases h
  | _, _, _, .cons a t, b, h => by
    rcases List.mem_append.mp h with h | h
    · exact a.dom b h
    · exact t.dom b h
end
theorem Trs.len {H : Hp} : ∀ {vs : List V} {ds : List Dat} {fp : List Addr}, Trs H vs ds fp → vs.length = ds.length
  | _, _, _, .nil => rfl
  | _, _, _, .cons _ t => by rw [List.length_cons, List.length_cons, t.len]
theorem Trs.append {H : Hp} : ∀ {vs ws : List V} {ds es : List Dat} {f g : List Addr}, Trs H vs ds f → Trs H ws es g → Trs H (vs ++ ws) (ds ++ es) (f ++ g)
  | _, _, _, _, _, _, .nil, q => q
  | _, _, _, _, _, _, .cons (f1 := f1) (f2 := f2) a t, q => by
    rw [List.append_assoc]
    exact .cons a (t.append q)
theorem Trs.snoc {H : Hp} {vs : List V} {ds : List Dat} {f g : List Addr} {v : V} {d : Dat} (t : Trs H vs ds f) (a : Tr H v d g) : Trs H (vs ++ [v]) (ds ++ [d]) (f ++ g) := by
  have := t.append (.cons a .nil)
  rw [List.append_nil] at this
  exact this
theorem Trs.at {H : Hp} : ∀ {vs : List V} {ds : List Dat} {fp : List Addr} {i : Nat} {d : Dat}, Trs H vs ds fp → ds[i]? = some d → ∃ v f, vs[i]? = some v ∧ Tr H v d f ∧ ∀ b ∈ f, b ∈ fp
  | _, _, _, i, d, .nil, h => by simp at h
  | _, _, _, 0, d, .cons a t, h => by
    have e := Option.some.inj (show some _ = some d from h)
    subst e
    exact ⟨_, _, rfl, a, fun b hb => List.mem_append_left _ hb⟩
  | _, _, _, i + 1, d, .cons a t, h => by
    obtain ⟨v, f, e, q, m⟩ := t.at (i := i) (d := d) h
    exact ⟨v, f, e, q, fun b hb => List.mem_append_right _ (m b hb)⟩
/-- flat items -/
theorem Trs.ints {H : Hp} : ∀ xs : List Int, Trs H (xs.map V.int) (xs.map Dat.int) []
  | [] => .nil
  | x :: xs => .cons (f1 := []) (f2 := []) (.int x) (Trs.ints xs)
theorem Trs.strs {H : Hp} : ∀ xs : List Str, Trs H (xs.map V.str) (xs.map Dat.str) []
  | [] => .nil
  | x :: xs => .cons (f1 := []) (f2 := []) (.str x) (Trs.strs xs)
theorem Trs.ints_inv {H : Hp} : ∀ {xs : List Int} {vs : List V} {fp : List Addr}, Trs H vs (xs.map Dat.int) fp → vs = xs.map V.int ∧ fp = []
  | [], _, _, .nil => ⟨rfl, rfl⟩
  | x :: xs, _, _, .cons (.int _) t => by
    obtain ⟨rfl, rfl⟩ := Trs.ints_inv t
    exact ⟨rfl, rfl⟩
theorem Trs.strs_inv {H : Hp} : ∀ {xs : List Str} {vs : List V} {fp : List Addr}, Trs H vs (xs.map Dat.str) fp → vs = xs.map V.str ∧ fp = []
  | [], _, _, .nil => ⟨rfl, rfl⟩
  | x :: xs, _, _, .cons (.str _) t => by
    obtain ⟨rfl, rfl⟩ := Trs.strs_inv t
    exact ⟨rfl, rfl⟩

/-! ### what is to be read -/
def Rep (H : Hp) (v : V) (d : Dat) : Prop := ∃ fp, Tr H v d fp
theorem Rep.mono {H H' : Hp} {v : V} {d : Dat} (r : Rep H v d) (e : Same H H') : Rep H' v d := let ⟨fp, t⟩ := r; ⟨fp, t.mono fun b _ o h => e b o h⟩
theorem Rep.int {H : Hp} {v : V} {i : Int} (r : Rep H v (.int i)) : v = .int i := by obtain ⟨fp, t⟩ := r; cases t; rfl
theorem Rep.str {H : Hp} {v : V} {i : Str} (r : Rep H v (.str i)) : v = .str i := by obtain ⟨fp, t⟩ := r; cases t; rfl
theorem Rep.list {H : Hp} {v : V} {ds : List Dat} (r : Rep H v (.lst ds)) : ∃ (a : Addr) (vs : List V), v = .ref a ∧ H a = some (.lst vs) ∧ vs.length = ds.length ∧ ∀ (i : Nat) (d : Dat), ds[i]? = some d → ∃ u, vs[i]? = some u ∧ Rep H u d := by
  obtain ⟨fp, t⟩ := r
  cases t with
  | lst e t => exact ⟨_, _, rfl, e, t.len, fun i d h => let ⟨u, f, a, b, _⟩ := t.at h; ⟨u, a, f, b⟩⟩
theorem Rep.tuple {H : Hp} {v : V} {ds : List Dat} (r : Rep H v (.tup ds)) : ∃ (a : Addr) (vs : List V), v = .ref a ∧ H a = some (.tup vs) ∧ vs.length = ds.length ∧ ∀ (i : Nat) (d : Dat), ds[i]? = some d → ∃ u, vs[i]? = some u ∧ Rep H u d := by
  obtain ⟨fp, t⟩ := r
  cases t with
  | tup e t => exact ⟨_, _, rfl, e, t.len, fun i d h => let ⟨u, f, a, b, _⟩ := t.at h; ⟨u, a, f, b⟩⟩
theorem Rep.ints {H : Hp} {v : V} {xs : List Int} (r : Rep H v (dI xs)) : ∃ a, v = .ref a ∧ H a = some (.lst (xs.map V.int)) := by
  obtain ⟨fp, t⟩ := r
  cases t with
  | lst e t =>
    obtain ⟨rfl, _⟩ := Trs.ints_inv t
    exact ⟨_, rfl, e⟩
theorem Rep.of_ints {H : Hp} {a : Addr} {xs : List Int} (h : H a = some (.lst (xs.map V.int))) : Rep H (.ref a) (dI xs) := ⟨_, .lst h (Trs.ints xs)⟩
/-- a table: the rows' addresses -/
theorem Rep.table {H : Hp} {v : V} {rows : List (List Int)} (r : Rep H v (dT rows)) : ∃ (a : Addr) (ls : List Addr), v = .ref a ∧ H a = some (.lst (ls.map V.ref)) ∧ ls.length = rows.length ∧ ∀ (i : Nat) (l : Addr) (row : List Int), ls[i]? = some l → rows[i]? = some row → H l = some (.lst (row.map V.int)) := by
  obtain ⟨fp, t⟩ := r
  cases t with
  | lst e t =>
    have key : ∀ {rows : List (List Int)} {vs : List V} {fp : List Addr}, Trs H vs (rows.map dI) fp → ∃ ls : List Addr, vs = ls.map V.ref ∧ ls.length = rows.length ∧ ∀ (i : Nat) (l : Addr) (row : List Int), ls[i]? = some l → rows[i]? = some row → H l = some (.lst (row.map V.int)) := by
      intro rows
      induction rows with
      | nil => intro vs fp t; cases t; exact ⟨[], rfl, rfl, fun i l row h => by simp at h⟩
      | cons x xs ih =>
        intro vs fp t
        cases t with
        | cons a t =>
          obtain ⟨q, rfl, e1⟩ := Rep.ints ⟨_, a⟩
          obtain ⟨ls, rfl, e2, e3⟩ := ih t
          refine ⟨q :: ls, rfl, by rw [List.length_cons, List.length_cons, e2], fun i l row h1 h2 => ?_⟩
          cases i with
          | zero => cases h1; cases h2; exact e1
          | succ i => exact e3 i l row h1 h2
    obtain ⟨ls, rfl, e2, e3⟩ := key t
    exact ⟨_, ls, rfl, e, e2, e3⟩

/-! ### what is new since H0 -/
def New (H0 H : Hp) (v : V) (d : Dat) : Prop := ∃ fp, Tr H v d fp ∧ fp.Nodup ∧ ∀ b ∈ fp, H0 b = none
theorem New.rep {H0 H : Hp} {v : V} {d : Dat} (n : New H0 H v d) : Rep H v d := let ⟨fp, t, _⟩ := n; ⟨fp, t⟩
theorem New.mono {H0 H H' : Hp} {v : V} {d : Dat} (n : New H0 H v d) (e : Same H H') : New H0 H' v d := let ⟨fp, t, a, b⟩ := n; ⟨fp, t.mono fun b _ o h => e b o h, a, b⟩
theorem New.back {H0 H1 H : Hp} {v : V} {d : Dat} (n : New H1 H v d) (e : Same H0 H1) : New H0 H v d := let ⟨fp, t, a, b⟩ := n; ⟨fp, t, a, fun c hc => e.free (b c hc)⟩
theorem New.int {H0 H : Hp} (i : Int) : New H0 H (.int i) (.int i) := ⟨[], .int i, List.nodup_nil, fun b h => by cases h⟩
theorem New.bl {H0 H : Hp} (i : Bool) : New H0 H (.bl i) (.bl i) := ⟨[], .bl i, List.nodup_nil, fun b h => by cases h⟩
theorem New.str {H0 H : Hp} (i : Str) : New H0 H (.str i) (.str i) := ⟨[], .str i, List.nodup_nil, fun b h => by cases h⟩
theorem New.non {H0 H : Hp} : New H0 H .non .non := ⟨[], .non, List.nodup_nil, fun b h => by cases h⟩
theorem New.ints {H0 H : Hp} {p : Addr} {xs : List Int} (n : H0 p = none) (e : H p = some (.lst (xs.map V.int))) : New H0 H (.ref p) (dI xs) :=
  ⟨[p], .lst e (Trs.ints xs), List.nodup_cons.mpr ⟨fun z => (by cases z), List.nodup_nil⟩, fun b hb => by rw [List.mem_singleton.mp hb]; exact n⟩
theorem New.strs {H0 H : Hp} {p : Addr} {xs : List Str} (n : H0 p = none) (e : H p = some (.lst (xs.map V.str))) : New H0 H (.ref p) (.lst (xs.map .str)) :=
  ⟨[p], .lst e (Trs.strs xs), List.nodup_cons.mpr ⟨fun z => (by cases z), List.nodup_nil⟩, fun b hb => by rw [List.mem_singleton.mp hb]; exact n⟩

/-! ### a list that grows -/
structure AccL (H0 H : Hp) (o : Addr) (vs : List V) (ds : List Dat) : Prop where
  at_ : H o = some (.lst vs)
  new : ∃ fp, Trs H vs ds fp ∧ (o :: fp).Nodup ∧ ∀ b ∈ o :: fp, H0 b = none
theorem AccL.start {H : Hp} {o : Addr} (h : H o = none) : AccL H (upd H o (.lst [])) o [] [] :=
  ⟨upd_same, [], .nil, List.nodup_cons.mpr ⟨fun z => (by cases z), List.nodup_nil⟩, fun b hb => by rw [List.mem_singleton.mp hb]; exact h⟩
theorem AccL.mono {H0 H H' : Hp} {o : Addr} {vs : List V} {ds : List Dat} (a : AccL H0 H o vs ds) (e : Same H H') : AccL H0 H' o vs ds :=
  ⟨e _ _ a.at_, let ⟨fp, t, x, y⟩ := a.new; ⟨fp, t.mono fun b _ o h => e b o h, x, y⟩⟩
theorem AccL.len {H0 H : Hp} {o : Addr} {vs : List V} {ds : List Dat} (a : AccL H0 H o vs ds) : vs.length = ds.length := let ⟨_, t, _⟩ := a.new; t.len
theorem AccL.toNew {H0 H : Hp} {o : Addr} {vs : List V} {ds : List Dat} (a : AccL H0 H o vs ds) : New H0 H (.ref o) (.lst ds) := let ⟨fp, t, x, y⟩ := a.new; ⟨_, .lst a.at_ t, x, y⟩
theorem AccL.free {H0 H : Hp} {o : Addr} {vs : List V} {ds : List Dat} (a : AccL H0 H o vs ds) : H0 o = none := let ⟨_, _, _, y⟩ := a.new; y o List.mem_cons_self
theorem AccL.push {H0 H H' : Hp} {o : Addr} {vs : List V} {ds : List Dat} {v : V} {d : Dat} (a : AccL H0 H o vs ds) (e : Same H H') (e0 : Same H0 H) (n : New H H' v d) : AccL H0 (upd H' o (.lst (vs ++ [v]))) o (vs ++ [v]) (ds ++ [d]) := by
  obtain ⟨ea, fp, t, nd, fr⟩ := a
  obtain ⟨gp, u, nd2, fr2⟩ := n
  have hdis : ∀ b ∈ o :: fp, b ∉ gp := fun b hb hg => by
    obtain ⟨x, hx⟩ : ∃ x, H b = some x := by
      rcases List.mem_cons.mp hb with rfl | hb
      · exact ⟨_, ea⟩
      · exact t.dom b hb
    rw [fr2 b hg] at hx; cases hx
  have hn := List.nodup_cons.mp nd
  refine ⟨upd_same, fp ++ gp, ?_, ?_, ?_⟩
  · refine Trs.snoc (t.mono fun b hb x hx => ?_) (u.mono fun b hb x hx => ?_)
    · rw [upd_ne (fun z => hn.1 (by rw [← z]; exact hb))]
      exact e b x hx
    · rw [upd_ne (fun z => hdis o List.mem_cons_self (by rw [← z]; exact hb))]
      exact hx
  · refine List.nodup_cons.mpr ⟨fun z => ?_, ?_⟩
    · rcases List.mem_append.mp z with z | z
      · exact hn.1 z
      · exact hdis o List.mem_cons_self z
    · exact List.nodup_append.mpr ⟨hn.2, nd2, fun b hb c hc z => hdis b (List.mem_cons_of_mem _ hb) (z ▸ hc)⟩
  · intro b hb
    rcases List.mem_cons.mp hb with rfl | hb
    · exact fr _ List.mem_cons_self
    · rcases List.mem_append.mp hb with hb | hb
      · exact fr b (List.mem_cons_of_mem _ hb)
      · exact e0.free (fr2 b hb)
/-! ### comprehensions of new things -/
section
variable {J : It} {n : Nat} {G : Hp → Prop} {σ : L2.St} {H : Hp}
theorem lcN {Y : Nat → Hp → V → Hp → Prop} {te : TE} {vs : List Nat} {Q : Addr → Hp → Prop} {g : TG} (w : Walk J n G Y) (d : Nat → Dat) (hn : n < sizeLine) (hG : ∀ H', Same H H' → G H')
    (hs : ∀ i x H1 H' (F : VK), i < n → Same H H1 → Y i H1 x H' → (∀ v H4, Same H1 H4 → New H1 H4 v (d i) → F v H4) →
      g x (wipe σ vs) H' fun σ2 H2 => wipe σ2 vs = wipe σ vs ∧ te σ2 H2 F)
    (hq : ∀ p H', Same H H' → New H H' (.ref p) (.lst (givn (fun _ => true) d n)) → Q p H') : LcGoal J g tYes te vs σ H Q := by
  intro D hD
  refine lc_it w (fun i H' => Same H H' ∧ ∃ ys, AccL H H' D ys (givn (fun _ => true) d i)) ⟨same_new hD, [], AccL.start hD⟩ (fun i H' _ h => hG H' h.1) ?_ (fun H' h => ?_)
  · rintro i x H1 H' hi ⟨e1, ys, ac⟩ y
    have hl : ys.length < sizeLine := by
      rw [ac.len]
      exact Nat.lt_of_le_of_lt (givn_len i) (by omega)
    exact hs i x H1 H' _ hi e1 y fun v H4 e4 nv => ⟨ys, e4 _ _ ac.at_, hl, fun b o ha => upd_some_ne (ne_of_none ha hD) ((e1.trans e4) b o ha), ys ++ [v], by
      show AccL H _ D _ (if true = true then _ else _)
      rw [if_pos rfl]
      exact ac.push e4 e1 nv⟩
  · obtain ⟨e1, ys, ac⟩ := h
    exact hq D H' e1 ac.toNew
end
/-! ### data that is compared -/
mutual
def Dat.py : Dat → PyData
  | .non => .none
  | .bl b => .bool b
  | .int i => .int i
  | .str s => .str s
  | .lst l => .list (Dat.pys l)
  | .tup l => .tuple (Dat.pys l)
  | .dct _ => .none
def Dat.pys : List Dat → List PyData
  | [] => []
  | d :: ds => d.py :: Dat.pys ds
end
/-- no truths, no dicts, of depth n at most -/
def okd : Nat → Dat → Bool
  | _, .non => true
  | _, .int _ => true
  | _, .str s => PyData.strOk s
  | _, .bl _ => false
  | _, .dct _ => false
  | 0, .lst _ => false
  | 0, .tup _ => false
  | n + 1, .lst l => l.all (okd n)
  | n + 1, .tup l => l.all (okd n)
theorem pys_len : ∀ l : List Dat, (Dat.pys l).length = l.length
  | [] => rfl
  | _ :: l => congrArg (· + 1) (pys_len l)
theorem okd_lay : ∀ n d, okd n d = true → PyData.canLay0 d.py = true ∧ PyData.depth d.py ≤ n := by
  intro n
  induction n with
  | zero => intro d h; cases d <;> simp [okd] at h <;> simp [Dat.py, PyData.canLay0, PyData.depth, h]
  | succ n ih =>
    have key : ∀ l : List Dat, l.all (okd n) = true → PyData.canLayAll0 (Dat.pys l) = true ∧ PyData.depthAll (Dat.pys l) ≤ n := by
      intro l
      induction l with
      | nil => intro _; exact ⟨rfl, Nat.zero_le _⟩
      | cons d l il =>
        intro h
        rw [List.all_cons, Bool.and_eq_true] at h
        obtain ⟨a, b⟩ := ih d h.1
        obtain ⟨a2, b2⟩ := il h.2
        refine ⟨?_, ?_⟩
        · show (PyData.canLay0 d.py && PyData.canLayAll0 (Dat.pys l)) = true
          rw [a, a2]; rfl
        · show max (PyData.depth d.py) (PyData.depthAll (Dat.pys l)) ≤ n
          omega
    intro d h
    cases d with
    | lst l =>
      obtain ⟨a, b⟩ := key l h
      exact ⟨a, Nat.succ_le_succ b⟩
    | tup l =>
      obtain ⟨a, b⟩ := key l h
      exact ⟨a, Nat.succ_le_succ b⟩
    | non => exact ⟨rfl, Nat.zero_le _⟩
    | int i => exact ⟨rfl, Nat.zero_le _⟩
    | str s => exact ⟨h, Nat.zero_le _⟩
    | bl b => cases h
    | dct l => cases h
theorem okd_shaped {n : Nat} {d : Dat} (h : okd n d = true) (hn : n ≤ 64) : SeqAt.shaped d.py = true := by
  obtain ⟨a, b⟩ := okd_lay n d h
  exact Bool.and_eq_true_iff.mpr ⟨a, decide_eq_true (by omega)⟩
theorem okd_eqv : ∀ n d e, okd n d = true → okd n e = true → (PyData.eqv d.py e.py = true ↔ d = e) := by
  intro n
  induction n with
  | zero => intro d e h g; cases d <;> cases e <;> simp [okd] at h g <;> simp [Dat.py, PyData.eqv]
  | succ n ih =>
    have key : ∀ l m : List Dat, l.all (okd n) = true → m.all (okd n) = true → (PyData.eqvAll (Dat.pys l) (Dat.pys m) = true ↔ l = m) := by
      intro l
      induction l with
      | nil => intro m _ _; cases m <;> simp [Dat.pys, PyData.eqvAll]
      | cons d l il =>
        intro m h g
        cases m with
        | nil => simp [Dat.pys, PyData.eqvAll]
        | cons e m =>
          rw [List.all_cons, Bool.and_eq_true] at h g
          have i1 := ih d e h.1 g.1
          have i2 := il m h.2 g.2
          show (PyData.eqv d.py e.py && PyData.eqvAll (Dat.pys l) (Dat.pys m)) = true ↔ _
          rw [Bool.and_eq_true, i1, i2]
          constructor
          · rintro ⟨rfl, rfl⟩; rfl
          · intro z; cases z; exact ⟨rfl, rfl⟩
    intro d e h g
    cases d with
    | lst l => cases e with
      | lst m =>
        have := key l m h g
        show PyData.eqvAll (Dat.pys l) (Dat.pys m) = true ↔ _
        rw [this]
        constructor
        · rintro rfl; rfl
        · intro z; cases z; rfl
      | bl b => cases g
      | dct b => cases g
      | _ => simp [Dat.py, PyData.eqv]
    | tup l => cases e with
      | tup m =>
        have := key l m h g
        show PyData.eqvAll (Dat.pys l) (Dat.pys m) = true ↔ _
        rw [this]
        constructor
        · rintro rfl; rfl
        · intro z; cases z; rfl
      | bl b => cases g
      | dct b => cases g
      | _ => simp [Dat.py, PyData.eqv]
    | bl b => cases h
    | dct b => cases h
    | non => cases e with
      | bl b => cases g
      | dct b => cases g
      | _ => simp [Dat.py, PyData.eqv]
    | int i => cases e with
      | bl b => cases g
      | dct b => cases g
      | _ => simp [Dat.py, PyData.eqv]
    | str i => cases e with
      | bl b => cases g
      | dct b => cases g
      | _ => simp [Dat.py, PyData.eqv]
theorem okd_dp {K : PySem.W.Frag} {H : Hp} : ∀ n v d fp, Tr H v d fp → okd n d = true → Dp K H v d.py := by
  intro n
  induction n with
  | zero =>
    intro v d fp t h
    cases t with
    | non => exact .non
    | bl b => exact .bl b
    | int i => exact .int i
    | str s => exact .str s
    | lst e t => cases h
    | tup e t => cases h
    | dct e q t => cases h
  | succ n ih =>
    have key : ∀ (l : List Dat) (vs : List V) (fp : List Addr), Trs H vs l fp → l.all (okd n) = true → DpAll K H vs (Dat.pys l) := by
      intro l
      induction l with
      | nil => intro vs fp t _; cases t; exact .nil
      | cons d l il =>
        intro vs fp t h
        rw [List.all_cons, Bool.and_eq_true] at h
        cases t with
        | cons a t => exact .cons (ih _ _ _ a h.1) (il _ _ t h.2)
    intro v d fp t h
    cases t with
    | non => exact .non
    | bl b => exact .bl b
    | int i => exact .int i
    | str s => exact .str s
    | lst e t => exact .lst (SqL.of e) (key _ _ _ t h)
    | tup e t => exact .tup (.inl (.inl e)) (key _ _ _ t h)
    | dct e q t => cases h
/-- a == b, what both stand for known -/
theorem eqD_rep {K : PySem.W.Frag} {H : Hp} {x y : V} {d e : Dat} {Q : VK} (n : Nat) (hx : Rep H x d) (hy : Rep H y e) (hd : okd n d = true) (he : okd n e = true) (hn : n ≤ 64) (q : ∀ b : Bool, (b = true ↔ d = e) → Q (.bl b) H) : rEqD K x y H Q := by
  obtain ⟨fp, t⟩ := hx
  obtain ⟨gp, u⟩ := hy
  exact ⟨_, _, okd_dp n _ _ _ t hd, okd_dp n _ _ _ u he, okd_shaped hd hn, okd_shaped he hn, q _ (okd_eqv n d e hd he)⟩
theorem neD_rep {K : PySem.W.Frag} {H : Hp} {x y : V} {d e : Dat} {Q : VK} (n : Nat) (hx : Rep H x d) (hy : Rep H y e) (hd : okd n d = true) (he : okd n e = true) (hn : n ≤ 64) (q : ∀ b : Bool, (b = true ↔ d ≠ e) → Q (.bl b) H) : rNeD K x y H Q := by
  obtain ⟨fp, t⟩ := hx
  obtain ⟨gp, u⟩ := hy
  refine ⟨_, _, okd_dp n _ _ _ t hd, okd_dp n _ _ _ u he, okd_shaped hd hn, okd_shaped he hn, q _ ?_⟩
  have k := okd_eqv n d e hd he
  cases c : PyData.eqv d.py e.py with
  | true => rw [c] at k; simp [k.mp rfl]
  | false => rw [c] at k; simp; exact fun z => absurd (k.mpr z) (by simp)
theorem okd_I (n : Nat) (xs : List Int) : okd (n + 1) (dI xs) = true := by
  show (xs.map Dat.int).all (okd n) = true
  rw [List.all_map]
  refine List.all_eq_true.mpr fun x _ => ?_
  cases n <;> rfl
theorem okd_T (n : Nat) (T : List (List Int)) : okd (n + 2) (dT T) = true := by
  show (T.map dI).all (okd (n + 1)) = true
  rw [List.all_map]
  exact List.all_eq_true.mpr fun x _ => okd_I n x
theorem okd_l {n : Nat} {α : Type} (f : α → Dat) (l : List α) (h : ∀ x ∈ l, okd n (f x) = true) : okd (n + 1) (.lst (l.map f)) = true := by
  show (l.map f).all (okd n) = true
  rw [List.all_map]
  exact List.all_eq_true.mpr h
theorem dI_inj {xs ys : List Int} (h : dI xs = dI ys) : xs = ys := by
  injection h with h
  exact (List.map_inj_right fun _ _ z => Dat.int.inj z).mp h
theorem dT_inj {xs ys : List (List Int)} (h : dT xs = dT ys) : xs = ys := by
  injection h with h
  exact (List.map_inj_right fun _ _ z => dI_inj z).mp h
theorem Rep.nil {H : Hp} {a : Addr} (h : H a = some (.lst [])) : Rep H (.ref a) (.lst []) := ⟨_, .lst h .nil⟩
end Mx

set_option Elab.async false
set_option maxRecDepth 100000
set_option maxHeartbeats 4000000
namespace Tb
/-! tables: plain mathematics -/
/-- alike by a prime -/
def Me (p a b : Int) : Prop := p ∣ a - b
theorem Me.refl {p a : Int} : Me p a a := ⟨0, by omega⟩
theorem Me.of {p a b : Int} (h : a = b) : Me p a b := by rw [h]; exact Me.refl
theorem Me.symm {p a b : Int} (h : Me p a b) : Me p b a := by obtain ⟨k, hk⟩ := h; exact ⟨-k, by rw [Int.mul_neg]; omega⟩
theorem Me.trans {p a b c : Int} (h : Me p a b) (g : Me p b c) : Me p a c := by
  have := Int.dvd_add h g
  have e : a - b + (b - c) = a - c := by omega
  unfold Me; rw [← e]; exact this
theorem Me.add {p a b c d : Int} (h : Me p a b) (g : Me p c d) : Me p (a + c) (b + d) := by
  have := Int.dvd_add h g
  have e : a - b + (c - d) = (a + c) - (b + d) := by omega
  unfold Me; rw [← e]; exact this
theorem Me.sub {p a b c d : Int} (h : Me p a b) (g : Me p c d) : Me p (a - c) (b - d) := by
  have := Int.dvd_sub h g
  have e : a - b - (c - d) = (a - c) - (b - d) := by omega
  unfold Me; rw [← e]; exact this
theorem Me.mul {p a b c d : Int} (h : Me p a b) (g : Me p c d) : Me p (a * c) (b * d) := by
  have h1 := Int.dvd_mul_of_dvd_left (c := c) h
  have h2 := Int.dvd_mul_of_dvd_right (b := b) g
  have := Int.dvd_add h1 h2
  have e : (a - b) * c + b * (c - d) = a * c - b * d := by rw [Int.sub_mul, Int.mul_sub]; omega
  unfold Me; rw [← e]; exact this
theorem Me.mod {p a : Int} : Me p (a % p) a := ⟨-(a / p), by have := Int.mul_ediv_add_emod a p; rw [Int.mul_neg]; omega⟩
theorem Me.emod {p a b : Int} (h : Me p a b) : a % p = b % p := Int.emod_eq_emod_iff_emod_sub_eq_zero.mpr (Int.emod_eq_zero_of_dvd h)
theorem Me.of_emod {p a b : Int} (h : a % p = b % p) : Me p a b := Int.dvd_of_emod_eq_zero (Int.emod_eq_emod_iff_emod_sub_eq_zero.mp h)
theorem Me.zero {p a : Int} : Me p a 0 ↔ a % p = 0 := by
  unfold Me; rw [Int.sub_zero]; exact ⟨Int.emod_eq_zero_of_dvd, Int.dvd_of_emod_eq_zero⟩
theorem Me.eq {p a b : Int} (h : Me p a b) (a0 : 0 ≤ a) (a1 : a < p) (b0 : 0 ≤ b) (b1 : b < p) : a = b := by
  have := h.emod
  rwa [Int.emod_eq_of_lt a0 a1, Int.emod_eq_of_lt b0 b1] at this
theorem mod_range {p : Int} (hp : 0 < p) (a : Int) : 0 ≤ a % p ∧ a % p < p := ⟨Int.emod_nonneg a (by omega), Int.emod_lt_of_pos a hp⟩

/-! ### sums over two rows -/
def dot : List Int → List Int → Int
  | x :: xs, y :: ys => x * y + dot xs ys
  | _, _ => 0
theorem dot_nil (xs : List Int) : dot xs [] = 0 := by cases xs <;> rfl
theorem dot_take : ∀ {xs ys : List Int} {i : Nat} {x y : Int}, xs[i]? = some x → ys[i]? = some y → dot (xs.take (i + 1)) (ys.take (i + 1)) = dot (xs.take i) (ys.take i) + x * y
  | [], _, _, _, _, h, _ => by simp at h
  | _ :: _, [], _, _, _, _, h => by simp at h
  | a :: xs, b :: ys, 0, x, y, h1, h2 => by
    have e1 : a = x := Option.some.inj h1
    have e2 : b = y := Option.some.inj h2
    subst e1 e2
    show a * b + dot (xs.take 0) (ys.take 0) = dot [] [] + a * b
    simp [dot]
  | a :: xs, b :: ys, i + 1, x, y, h1, h2 => by
    have ih := dot_take (xs := xs) (ys := ys) (i := i) (x := x) (y := y) h1 h2
    show a * b + dot (xs.take (i + 1)) (ys.take (i + 1)) = a * b + dot (xs.take i) (ys.take i) + x * y
    rw [ih]; omega
theorem dot_min : ∀ (xs ys : List Int), dot (xs.take (min xs.length ys.length)) (ys.take (min xs.length ys.length)) = dot xs ys
  | [], ys => by simp [dot]
  | x :: xs, [] => by simp [dot]
  | x :: xs, y :: ys => by
    have ih := dot_min xs ys
    have e : min (x :: xs).length (y :: ys).length = min xs.length ys.length + 1 := by simp only [List.length_cons]; omega
    rw [e]
    show x * y + dot (xs.take _) (ys.take _) = x * y + dot xs ys
    rw [ih]
theorem dot_comm : ∀ xs ys : List Int, dot xs ys = dot ys xs
  | [], ys => by rw [dot_nil]; rfl
  | x :: xs, [] => rfl
  | x :: xs, y :: ys => by show x * y + _ = y * x + _; rw [dot_comm xs ys, Int.mul_comm]
theorem dot_me {p : Int} : ∀ {xs ys zs : List Int}, xs.length = ys.length → (∀ i, Me p (xs.getD i 0) (ys.getD i 0)) → Me p (dot xs zs) (dot ys zs)
  | [], [], _, _, _ => Me.refl
  | x :: xs, y :: ys, [], _, _ => Me.refl
  | x :: xs, y :: ys, z :: zs, h, k => by
    have k0 := k 0
    exact Me.add (Me.mul (by simpa using k0) Me.refl) (dot_me (by simpa using h) fun i => by simpa using k (i + 1))
  | [], _ :: _, _, h, _ => by simp at h
  | _ :: _, [], _, h, _ => by simp at h
/-- a row less so many times another -/
def lessR (p m : Int) : List Int → List Int → List Int
  | x :: xs, y :: ys => (x - m * y % p) % p :: lessR p m xs ys
  | _, _ => []
theorem lessR_len {p m : Int} : ∀ {xs ys : List Int}, xs.length = ys.length → (lessR p m xs ys).length = xs.length
  | [], [], _ => rfl
  | x :: xs, y :: ys, h => by show (lessR p m xs ys).length + 1 = _; rw [lessR_len (by simpa using h)]; rfl
  | [], _ :: _, h => by simp at h
  | _ :: _, [], h => by simp at h
theorem lessR_get {p m : Int} : ∀ {xs ys : List Int} (i : Nat), xs.length = ys.length → Me p ((lessR p m xs ys).getD i 0) (xs.getD i 0 - m * ys.getD i 0)
  | [], [], i, _ => by simp [lessR]; exact Me.refl
  | x :: xs, y :: ys, 0, _ => by
    show Me p ((x - m * y % p) % p) (x - m * y)
    exact Me.mod.trans (Me.sub Me.refl Me.mod)
  | x :: xs, y :: ys, i + 1, h => by simpa [lessR] using lessR_get (p := p) (m := m) (xs := xs) (ys := ys) i (by simpa using h)
  | [], _ :: _, _, h => by simp at h
  | _ :: _, [], _, h => by simp at h
theorem lessR_range {p m : Int} (hp : 0 < p) : ∀ {xs ys : List Int}, ∀ x ∈ lessR p m xs ys, 0 ≤ x ∧ x < p
  | [], _, x, h => by simp [lessR] at h
  | _ :: _, [], x, h => by simp [lessR] at h
  | a :: xs, b :: ys, x, h => by
    rcases List.mem_cons.mp h with rfl | h
    · exact mod_range hp _
    · exact lessR_range hp (xs := xs) (ys := ys) x h
theorem dot_less {p m : Int} : ∀ {xs ys zs : List Int}, xs.length = ys.length → Me p (dot (lessR p m xs ys) zs) (dot xs zs - m * dot ys zs)
  | [], [], zs, _ => by show Me p 0 (0 - m * 0); simp; exact Me.refl
  | x :: xs, y :: ys, [], _ => by show Me p 0 (0 - m * 0); simp; exact Me.refl
  | x :: xs, y :: ys, z :: zs, h => by
    have ih := dot_less (p := p) (m := m) (xs := xs) (ys := ys) (zs := zs) (by simpa using h)
    show Me p ((x - m * y % p) % p * z + dot (lessR p m xs ys) zs) ((x * z + dot xs zs) - m * (y * z + dot ys zs))
    have e : (x * z + dot xs zs) - m * (y * z + dot ys zs) = (x - m * y) * z + (dot xs zs - m * dot ys zs) := by
      rw [Int.mul_add, Int.sub_mul, Int.mul_assoc]; omega
    rw [e]
    exact Me.add (Me.mul (Me.mod.trans (Me.sub Me.refl Me.mod)) Me.refl) ih
  | [], _ :: _, _, h => by simp at h
  | _ :: _, [], _, h => by simp at h
/-- a row so many times -/
def scaleR (p b : Int) (xs : List Int) : List Int := xs.map fun x => b * x % p
theorem scaleR_get {p b : Int} {xs : List Int} (i : Nat) : Me p ((scaleR p b xs).getD i 0) (b * xs.getD i 0) := by
  unfold scaleR
  rw [List.getD_eq_getElem?_getD, List.getD_eq_getElem?_getD, List.getElem?_map]
  cases xs[i]? with
  | none => simp; exact Me.refl
  | some x => simp; exact Me.mod
theorem dot_scale {p b : Int} : ∀ {xs zs : List Int}, Me p (dot (scaleR p b xs) zs) (b * dot xs zs)
  | [], zs => by show Me p 0 (b * 0); simp; exact Me.refl
  | x :: xs, [] => by show Me p 0 (b * 0); simp; exact Me.refl
  | x :: xs, z :: zs => by
    have ih := dot_scale (p := p) (b := b) (xs := xs) (zs := zs)
    show Me p (b * x % p * z + dot (scaleR p b xs) zs) (b * (x * z + dot xs zs))
    rw [Int.mul_add, ← Int.mul_assoc]
    exact Me.add (Me.mul Me.mod Me.refl) ih

/-! ### tables -/
abbrev g2 (L : List (List Int)) (k j : Nat) : Int := (L.getD k []).getD j 0
def col (T : List (List Int)) (j : Nat) : List Int := T.map fun r => r.getD j 0
def unitR (n k : Nat) : List Int := (List.range n).map fun j => if j = k then 1 else 0
def onesT (n : Nat) : List (List Int) := (List.range n).map fun k => (List.range n).map fun j => if k = j then 1 else 0
def mulT (p : Int) (A B : List (List Int)) : List (List Int) := A.map fun line => (List.range (B.headD []).length).map fun k => dot line (col B k) % p
structure Sh (p : Int) (n w : Nat) (L : List (List Int)) : Prop where
  len : L.length = n
  row : ∀ r ∈ L, r.length = w ∧ ∀ x ∈ r, 0 ≤ x ∧ x < p
theorem Sh.get {p : Int} {n w : Nat} {L : List (List Int)} (s : Sh p n w L) {k : Nat} (h : k < n) : (L.getD k []) ∈ L := by
  rw [List.getD_eq_getElem?_getD, List.getElem?_eq_getElem (by rw [s.len]; exact h)]
  exact List.getElem_mem _
theorem Sh.rlen {p : Int} {n w : Nat} {L : List (List Int)} (s : Sh p n w L) {k : Nat} (h : k < n) : (L.getD k []).length = w := (s.row _ (s.get h)).1
theorem getD_mem {xs : List Int} {j : Nat} (h : j < xs.length) : xs.getD j 0 ∈ xs := by
  rw [List.getD_eq_getElem?_getD, List.getElem?_eq_getElem h]
  exact List.getElem_mem _
theorem Sh.rng {p : Int} {n w : Nat} {L : List (List Int)} (s : Sh p n w L) {k j : Nat} (h : k < n) (hj : j < w) : 0 ≤ g2 L k j ∧ g2 L k j < p :=
  (s.row _ (s.get h)).2 _ (getD_mem (by rw [s.rlen h]; exact hj))
/-- the cleared table so far -/
structure Cl where
  lines : List (List Int)
  made : List (List Int)
  places : List Nat
def firstW (lines : List (List Int)) (done place : Nat) : Option Nat := ((List.range lines.length).drop done).find? fun k => decide (g2 lines k place ≠ 0)
def swapL (L : List (List Int)) (i j : Nat) : List (List Int) := (L.set i (L.getD j [])).set j (L.getD i [])
/-- all rows but the one at done less what they have at the place -/
def others (p : Int) (done place : Nat) (ref L : List (List Int)) : List (List Int) :=
  (List.range L.length).map fun k => if k ≠ done ∧ g2 ref k place ≠ 0 then lessR p (g2 ref k place) (L.getD k []) (L.getD done []) else L.getD k []
def clearAt (p : Int) (bk : Int → Int) (s : Cl) (place : Nat) : Cl :=
  match firstW s.lines s.places.length place with
  | none => s
  | some k =>
    let d := s.places.length
    let l1 := swapL s.lines d k
    let m1 := swapL s.made d k
    let b := bk (g2 l1 d place)
    let l2 := l1.set d (scaleR p b (l1.getD d []))
    let m2 := m1.set d (scaleR p b (m1.getD d []))
    ⟨others p d place l2 l2, others p d place l2 m2, s.places ++ [place]⟩
def cleared (p : Int) (bk : Int → Int) (T : List (List Int)) (w : Nat) : Cl := (List.range w).foldl (clearAt p bk) ⟨T, onesT T.length, []⟩
theorem getD_set {L : List (List Int)} {i k : Nat} {r : List Int} (h : i < L.length) : (L.set i r).getD k [] = if k = i then r else L.getD k [] := by
  rw [List.getD_eq_getElem?_getD, List.getElem?_set]
  by_cases e : i = k
  · subst e; simp [h]
  · rw [if_neg e, if_neg (fun z => e z.symm), List.getD_eq_getElem?_getD]
theorem swap_get {L : List (List Int)} {i j k : Nat} (hi : i < L.length) (hj : j < L.length) : (swapL L i j).getD k [] = if k = j then L.getD i [] else if k = i then L.getD j [] else L.getD k [] := by
  unfold swapL
  rw [getD_set (by rw [List.length_set]; exact hj), getD_set hi]
theorem swap_len {L : List (List Int)} {i j : Nat} : (swapL L i j).length = L.length := by unfold swapL; rw [List.length_set, List.length_set]
theorem others_get {p : Int} {d pl k : Nat} {R L : List (List Int)} (hk : k < L.length) : (others p d pl R L).getD k [] = if k ≠ d ∧ g2 R k pl ≠ 0 then lessR p (g2 R k pl) (L.getD k []) (L.getD d []) else L.getD k [] := by
  unfold others
  rw [List.getD_eq_getElem?_getD, List.getElem?_map, List.getElem?_range hk]
  rfl
theorem others_len {p : Int} {d pl : Nat} {R L : List (List Int)} : (others p d pl R L).length = L.length := by unfold others; rw [List.length_map, List.length_range]
/-- what holds behind the places below j -/
structure Ok (p : Int) (n w : Nat) (T : List (List Int)) (s : Cl) (j : Nat) : Prop where
  shL : Sh p n w s.lines
  shM : Sh p n n s.made
  comb : ∀ k, k < n → ∀ c, c < w → Me p (g2 s.lines k c) (dot (s.made.getD k []) (col T c))
  ker : ∀ x : List Int, x.length = w → (∀ k, k < n → Me p (dot (s.lines.getD k []) x) 0) → ∀ k, k < n → Me p (dot (T.getD k []) x) 0
  pl : ∀ q ∈ s.places, q < j
  mono : s.places.Pairwise (· < ·)
  unit : ∀ t q, s.places[t]? = some q → ∀ k, k < n → g2 s.lines k q = if k = t then 1 else 0
  zero : ∀ k, s.places.length ≤ k → k < n → ∀ c, c < j → g2 s.lines k c = 0
  le : s.places.length ≤ n
theorem g2_nil {L : List (List Int)} {k j : Nat} (h : L.length ≤ k) : g2 L k j = 0 := by
  have e : L.getD k [] = [] := by rw [List.getD_eq_getElem?_getD, List.getElem?_eq_none h]; rfl
  show (L.getD k []).getD j 0 = 0
  rw [e]; rfl
theorem firstW_some {L : List (List Int)} {d pl k : Nat} (h : firstW L d pl = some k) : d ≤ k ∧ k < L.length ∧ g2 L k pl ≠ 0 := by
  have h1 := List.mem_of_find?_eq_some h
  have h2 := of_decide_eq_true (List.find?_some (p := fun k : Nat => decide (g2 L k pl ≠ 0)) h)
  obtain ⟨i, hi⟩ := List.getElem?_of_mem h1
  rw [List.getElem?_drop] at hi
  have hr := List.getElem?_eq_some_iff.mp hi
  obtain ⟨h3, h4⟩ := hr
  rw [List.getElem_range] at h4
  rw [List.length_range] at h3
  exact ⟨by omega, by omega, h2⟩
theorem firstW_none {L : List (List Int)} {d pl : Nat} (h : firstW L d pl = none) : ∀ k, d ≤ k → k < L.length → g2 L k pl = 0 := by
  intro k h1 h2
  have hm : k ∈ (List.range L.length).drop d := by
    apply List.mem_of_getElem? (i := k - d)
    rw [List.getElem?_drop, List.getElem?_range (by omega)]
    congr 1; omega
  have := List.find?_eq_none.mp h k hm
  simpa using this
theorem find_range {f : Nat → Bool} : ∀ (n d k : Nat), d ≤ k → k < n → f k = true → (∀ j, d ≤ j → j < k → f j = false) → ((List.range n).drop d).find? f = some k := by
  intro n d k h1 h2 hk hj
  have e : (List.range n).drop d = ((List.range n).drop d).take (k - d) ++ (k :: (List.range n).drop (k + 1)) := by
    have e1 : (List.range n).drop k = k :: (List.range n).drop (k + 1) := by
      rw [List.drop_eq_getElem_cons (by rw [List.length_range]; exact h2), List.getElem_range]
    have e2 : ((List.range n).drop d).drop (k - d) = (List.range n).drop k := by rw [List.drop_drop]; congr 1; omega
    rw [← e1, ← e2, List.take_append_drop]
  rw [e, List.find?_append]
  have e3 : (((List.range n).drop d).take (k - d)).find? f = none := by
    refine List.find?_eq_none.mpr fun x hx => ?_
    obtain ⟨i, hi⟩ := List.getElem?_of_mem hx
    have hlt : i < k - d := by
      by_cases z : i < k - d
      · exact z
      · rw [List.getElem?_take_eq_none (by omega)] at hi; cases hi
    rw [List.getElem?_take_of_lt hlt, List.getElem?_drop, List.getElem?_range (by omega)] at hi
    have := Option.some.inj hi
    rw [← this, hj _ (by omega) (by omega)]
    simp
  rw [e3]
  show (k :: _).find? f = some k
  rw [List.find?_cons_of_pos hk]
theorem firstW_is {L : List (List Int)} {d pl k : Nat} (h1 : d ≤ k) (h2 : k < L.length) (h3 : g2 L k pl ≠ 0) (h4 : ∀ j, d ≤ j → j < k → g2 L j pl = 0) : firstW L d pl = some k :=
  find_range L.length d k h1 h2 (decide_eq_true h3) fun j a b => decide_eq_false (fun z => z (h4 j a b))
theorem firstW_no {L : List (List Int)} {d pl : Nat} (h : ∀ j, d ≤ j → j < L.length → g2 L j pl = 0) : firstW L d pl = none := by
  refine List.find?_eq_none.mpr fun x hx => ?_
  obtain ⟨i, hi⟩ := List.getElem?_of_mem hx
  rw [List.getElem?_drop] at hi
  have hr := (List.getElem?_eq_some_iff.mp hi).1
  rw [List.length_range] at hr
  rw [List.getElem?_range hr] at hi
  have := Option.some.inj hi
  rw [← this]
  simpa using h (d + i) (by omega) hr
theorem lessR_eq {p m : Int} : ∀ (xs ys : List Int), (List.range (min xs.length ys.length)).map (fun i => (xs.getD i 0 - m * ys.getD i 0 % p) % p) = lessR p m xs ys
  | [], ys => by simp [lessR]
  | x :: xs, [] => by simp [lessR]
  | x :: xs, y :: ys => by
    have ih := lessR_eq (p := p) (m := m) xs ys
    have e : min (x :: xs).length (y :: ys).length = min xs.length ys.length + 1 := by simp only [List.length_cons]; omega
    rw [e, List.range_succ_eq_map, List.map_cons, List.map_map]
    show _ :: _ = (x - m * y % p) % p :: lessR p m xs ys
    rw [← ih]
    rfl
/-- the rows below i done -/
def othersTo (p : Int) (d pl : Nat) (ref L : List (List Int)) (i : Nat) : List (List Int) :=
  (List.range L.length).map fun k => if k < i ∧ k ≠ d ∧ g2 ref k pl ≠ 0 then lessR p (g2 ref k pl) (L.getD k []) (L.getD d []) else L.getD k []
theorem othersTo_len {p : Int} {d pl i : Nat} {R L : List (List Int)} : (othersTo p d pl R L i).length = L.length := by unfold othersTo; rw [List.length_map, List.length_range]
theorem othersTo_get {p : Int} {d pl k i : Nat} {R L : List (List Int)} (hk : k < L.length) : (othersTo p d pl R L i)[k]? = some (if k < i ∧ k ≠ d ∧ g2 R k pl ≠ 0 then lessR p (g2 R k pl) (L.getD k []) (L.getD d []) else L.getD k []) := by
  unfold othersTo
  rw [List.getElem?_map, List.getElem?_range hk]
  rfl
theorem at_getD {L : List (List Int)} {k : Nat} (h : k < L.length) : L[k]? = some (L.getD k []) := by
  rw [List.getD_eq_getElem?_getD, List.getElem?_eq_getElem h]; rfl
theorem othersTo_zero {p : Int} {d pl : Nat} {R L : List (List Int)} : othersTo p d pl R L 0 = L := by
  apply List.ext_getElem?
  intro k
  by_cases h : k < L.length
  · rw [othersTo_get h, if_neg (fun z => absurd z.1 (by omega)), at_getD h]
  · rw [List.getElem?_eq_none (by rw [othersTo_len]; omega), List.getElem?_eq_none (by omega)]
theorem othersTo_all {p : Int} {d pl n : Nat} {R L : List (List Int)} (h : n = L.length) : othersTo p d pl R L n = others p d pl R L := by
  subst h
  unfold othersTo others
  apply List.map_congr_left
  intro k hk
  have := List.mem_range.mp hk
  by_cases c : k ≠ d ∧ g2 R k pl ≠ 0
  · rw [if_pos c, if_pos ⟨this, c⟩]
  · rw [if_neg c, if_neg (fun z => c z.2)]
theorem othersTo_keep {p : Int} {d pl i : Nat} {R L : List (List Int)} (h : ¬ (i ≠ d ∧ g2 R i pl ≠ 0)) : othersTo p d pl R L (i + 1) = othersTo p d pl R L i := by
  unfold othersTo
  apply List.map_congr_left
  intro k _
  by_cases c : k < i ∧ k ≠ d ∧ g2 R k pl ≠ 0
  · rw [if_pos c, if_pos ⟨by omega, c.2⟩]
  · rw [if_neg c, if_neg]
    intro z
    by_cases e : k = i
    · exact h (e ▸ z.2)
    · exact c ⟨by omega, z.2⟩
theorem othersTo_set {p : Int} {d pl i : Nat} {R L : List (List Int)} (hi : i < L.length) (h : i ≠ d ∧ g2 R i pl ≠ 0) : othersTo p d pl R L (i + 1) = (othersTo p d pl R L i).set i (lessR p (g2 R i pl) (L.getD i []) (L.getD d [])) := by
  apply List.ext_getElem?
  intro k
  rw [List.getElem?_set, othersTo_len]
  by_cases hk : k < L.length
  · rw [othersTo_get hk, othersTo_get hk]
    by_cases e : i = k
    · subst e
      rw [if_pos rfl, if_pos hi, if_pos ⟨by omega, h⟩]
    · rw [if_neg e]
      by_cases c : k < i ∧ k ≠ d ∧ g2 R k pl ≠ 0
      · rw [if_pos c, if_pos ⟨by omega, c.2⟩]
      · rw [if_neg c, if_neg (fun z => c ⟨by omega, z.2⟩)]
  · rw [if_neg (by omega), List.getElem?_eq_none (by rw [othersTo_len]; omega), List.getElem?_eq_none (by rw [othersTo_len]; omega)]
theorem othersTo_self {p : Int} {d pl i : Nat} {R L : List (List Int)} (hi : i < L.length) : (othersTo p d pl R L i)[i]? = some (L.getD i []) := by
  rw [othersTo_get hi, if_neg (fun z => absurd z.1 (by omega))]
theorem othersTo_done {p : Int} {d pl i : Nat} {R L : List (List Int)} (hd : d < L.length) : (othersTo p d pl R L i)[d]? = some (L.getD d []) := by
  rw [othersTo_get hd, if_neg (fun z => z.2.1 rfl)]
theorem step_swap {p : Int} {n w j : Nat} {T : List (List Int)} {s : Cl} (o : Ok p n w T s j) {k0 : Nat} (h1 : s.places.length ≤ k0) (h2 : k0 < n) :
    Ok p n w T ⟨swapL s.lines s.places.length k0, swapL s.made s.places.length k0, s.places⟩ j := by
  have hd : s.places.length < n := by omega
  have lL := o.shL.len
  have lM := o.shM.len
  have gL : ∀ k, (swapL s.lines s.places.length k0).getD k [] = if k = k0 then s.lines.getD s.places.length [] else if k = s.places.length then s.lines.getD k0 [] else s.lines.getD k [] := fun k => swap_get (by omega) (by omega)
  have gM : ∀ k, (swapL s.made s.places.length k0).getD k [] = if k = k0 then s.made.getD s.places.length [] else if k = s.places.length then s.made.getD k0 [] else s.made.getD k [] := fun k => swap_get (by omega) (by omega)
  have sh : ∀ {w : Nat} {L : List (List Int)}, Sh p n w L → Sh p n w (swapL L s.places.length k0) := fun {w L} sL => by
    refine ⟨by rw [swap_len]; exact sL.len, fun r hr => ?_⟩
    unfold swapL at hr
    rcases List.mem_or_eq_of_mem_set hr with hr | rfl
    · rcases List.mem_or_eq_of_mem_set hr with hr | rfl
      · exact sL.row r hr
      · exact sL.row _ (sL.get h2)
    · exact sL.row _ (sL.get hd)
  refine ⟨sh o.shL, sh o.shM, ?_, ?_, o.pl, o.mono, ?_, ?_, o.le⟩
  · intro k hk c hc
    show Me p (((swapL s.lines s.places.length k0).getD k []).getD c 0) (dot ((swapL s.made s.places.length k0).getD k []) (col T c))
    rw [gL, gM]
    by_cases e : k = k0
    · rw [if_pos e, if_pos e]; exact o.comb _ hd c hc
    · rw [if_neg e, if_neg e]
      by_cases e2 : k = s.places.length
      · rw [if_pos e2, if_pos e2]; exact o.comb _ h2 c hc
      · rw [if_neg e2, if_neg e2]; exact o.comb _ hk c hc
  · intro x hx hz
    refine o.ker x hx fun k hk => ?_
    have hz : ∀ k, k < n → Me p (dot ((swapL s.lines s.places.length k0).getD k []) x) 0 := hz
    by_cases e : k = k0
    · have := hz s.places.length hd
      rw [gL] at this
      by_cases e2 : s.places.length = k0
      · rw [if_pos e2] at this; rw [e, ← e2]; exact this
      · rw [if_neg e2, if_pos rfl] at this; rw [e]; exact this
    · by_cases e2 : k = s.places.length
      · have := hz k0 h2
        rw [gL, if_pos rfl] at this
        rw [e2]; exact this
      · have := hz k hk
        rw [gL, if_neg e, if_neg e2] at this
        exact this
  · intro t q ht k hk
    have htl : t < s.places.length := (List.getElem?_eq_some_iff.mp ht).1
    show ((swapL s.lines s.places.length k0).getD k []).getD q 0 = _
    rw [gL]
    by_cases e : k = k0
    · rw [if_pos e, if_neg (by omega)]
      have := o.unit t q ht _ hd
      rw [if_neg (by omega)] at this
      exact this
    · rw [if_neg e]
      by_cases e2 : k = s.places.length
      · rw [if_pos e2, if_neg (by omega)]
        have := o.unit t q ht _ h2
        rw [if_neg (by omega)] at this
        exact this
      · rw [if_neg e2]; exact o.unit t q ht k hk
  · intro k hk1 hk c hc
    have hk1 : s.places.length ≤ k := hk1
    show ((swapL s.lines s.places.length k0).getD k []).getD c 0 = 0
    rw [gL]
    by_cases e : k = k0
    · rw [if_pos e]; exact o.zero _ (Nat.le_refl _) hd c hc
    · rw [if_neg e]
      by_cases e2 : k = s.places.length
      · rw [if_pos e2]; exact o.zero _ h1 h2 c hc
      · rw [if_neg e2]; exact o.zero _ hk1 hk c hc
theorem step_scale {p b v : Int} {n w j : Nat} {T : List (List Int)} {s : Cl} (hp : 0 < p) (o : Ok p n w T s j) (hd : s.places.length < n) (hv : Me p (b * v) 1) :
    Ok p n w T ⟨s.lines.set s.places.length (scaleR p b (s.lines.getD s.places.length [])), s.made.set s.places.length (scaleR p b (s.made.getD s.places.length [])), s.places⟩ j := by
  have lL := o.shL.len
  have lM := o.shM.len
  have gL : ∀ k, (s.lines.set s.places.length (scaleR p b (s.lines.getD s.places.length []))).getD k [] = if k = s.places.length then scaleR p b (s.lines.getD s.places.length []) else s.lines.getD k [] := fun k => getD_set (by omega)
  have gM : ∀ k, (s.made.set s.places.length (scaleR p b (s.made.getD s.places.length []))).getD k [] = if k = s.places.length then scaleR p b (s.made.getD s.places.length []) else s.made.getD k [] := fun k => getD_set (by omega)
  have sh : ∀ {w : Nat} {L : List (List Int)}, Sh p n w L → Sh p n w (L.set s.places.length (scaleR p b (L.getD s.places.length []))) := fun {w L} sL => by
    refine ⟨by rw [List.length_set]; exact sL.len, fun r hr => ?_⟩
    rcases List.mem_or_eq_of_mem_set hr with hr | rfl
    · exact sL.row r hr
    · refine ⟨by unfold scaleR; rw [List.length_map]; exact sL.rlen hd, fun x hx => ?_⟩
      unfold scaleR at hx
      obtain ⟨y, _, rfl⟩ := List.mem_map.mp hx
      exact mod_range hp _
  have shL' := sh o.shL
  refine ⟨shL', sh o.shM, ?_, ?_, o.pl, o.mono, ?_, ?_, o.le⟩
  · intro k hk c hc
    show Me p (((s.lines.set s.places.length (scaleR p b (s.lines.getD s.places.length []))).getD k []).getD c 0) (dot ((s.made.set s.places.length (scaleR p b (s.made.getD s.places.length []))).getD k []) (col T c))
    rw [gL, gM]
    by_cases e : k = s.places.length
    · rw [if_pos e, if_pos e]
      exact (scaleR_get c).trans ((Me.mul Me.refl (o.comb _ hd c hc)).trans dot_scale.symm)
    · rw [if_neg e, if_neg e]; exact o.comb k hk c hc
  · intro x hx hz
    refine o.ker x hx fun k hk => ?_
    have := hz k hk
    have this : Me p (dot ((s.lines.set s.places.length (scaleR p b (s.lines.getD s.places.length []))).getD k []) x) 0 := this
    rw [gL] at this
    by_cases e : k = s.places.length
    · rw [if_pos e] at this
      have t1 := dot_scale.symm.trans this
      have t2 : Me p (v * (b * dot (s.lines.getD s.places.length []) x)) (v * 0) := Me.mul Me.refl t1
      rw [Int.mul_zero, ← Int.mul_assoc, Int.mul_comm v b] at t2
      have t3 : Me p (b * v * dot (s.lines.getD s.places.length []) x) (1 * dot (s.lines.getD s.places.length []) x) := Me.mul hv Me.refl
      rw [Int.one_mul] at t3
      rw [e]
      exact t3.symm.trans t2
    · rw [if_neg e] at this; exact this
  · intro t q ht k hk
    have htl : t < s.places.length := (List.getElem?_eq_some_iff.mp ht).1
    show ((s.lines.set s.places.length (scaleR p b (s.lines.getD s.places.length []))).getD k []).getD q 0 = _
    by_cases e : k = s.places.length
    · have qw : q < w := by
        by_cases z : q < w
        · exact z
        · have := o.unit t q ht t (by omega)
          rw [if_pos rfl] at this
          unfold g2 at this
          rw [List.getD_eq_getElem?_getD (l := s.lines.getD t []), List.getElem?_eq_none (by rw [o.shL.rlen (by omega)]; omega)] at this
          simp at this
      have rg := shL'.rng hk qw
      have h1 : Me p (g2 (s.lines.set s.places.length (scaleR p b (s.lines.getD s.places.length []))) k q) (b * 0) := by
        have e0 := o.unit t q ht _ hd
        rw [if_neg (by omega)] at e0
        show Me p (((s.lines.set s.places.length (scaleR p b (s.lines.getD s.places.length []))).getD k []).getD q 0) (b * 0)
        rw [gL, if_pos e]
        have h := scaleR_get (p := p) (b := b) (xs := s.lines.getD s.places.length []) q
        rw [show (s.lines.getD s.places.length []).getD q 0 = 0 from e0] at h
        exact h
      rw [Int.mul_zero] at h1
      rw [if_neg (by omega)]
      exact h1.eq rg.1 rg.2 (Int.le_refl 0) hp
    · rw [gL, if_neg e]; exact o.unit t q ht k hk
  · intro k hk1 hk c hc
    show ((s.lines.set s.places.length (scaleR p b (s.lines.getD s.places.length []))).getD k []).getD c 0 = 0
    rw [gL]
    by_cases e : k = s.places.length
    · rw [if_pos e]
      have e0 := o.zero _ (Nat.le_refl _) hd c hc
      have h1 : Me p ((scaleR p b (s.lines.getD s.places.length [])).getD c 0) (b * 0) := by
        have h := scaleR_get (p := p) (b := b) (xs := s.lines.getD s.places.length []) c
        rw [show (s.lines.getD s.places.length []).getD c 0 = 0 from e0] at h
        exact h
      rw [Int.mul_zero] at h1
      by_cases hcw : c < (scaleR p b (s.lines.getD s.places.length [])).length
      · have hm := getD_mem hcw
        unfold scaleR at hm
        obtain ⟨y, _, hy⟩ := List.mem_map.mp hm
        have rg := mod_range hp (b * y)
        rw [hy] at rg
        exact h1.eq rg.1 rg.2 (Int.le_refl 0) hp
      · rw [List.getD_eq_getElem?_getD, List.getElem?_eq_none (by omega)]; rfl
    · rw [if_neg e]; exact o.zero k hk1 hk c hc
theorem step_less {p : Int} {n w j : Nat} {T : List (List Int)} {s : Cl} (hp : 1 < p) (o : Ok p n w T s j) (hd : s.places.length < n) (hj : j < w) (h1 : g2 s.lines s.places.length j = 1) :
    Ok p n w T ⟨others p s.places.length j s.lines s.lines, others p s.places.length j s.lines s.made, s.places ++ [j]⟩ (j + 1) := by
  have lL := o.shL.len
  have lM := o.shM.len
  have gL : ∀ k, k < n → (others p s.places.length j s.lines s.lines).getD k [] = if k ≠ s.places.length ∧ g2 s.lines k j ≠ 0 then lessR p (g2 s.lines k j) (s.lines.getD k []) (s.lines.getD s.places.length []) else s.lines.getD k [] := fun k hk => others_get (by omega)
  have gM : ∀ k, k < n → (others p s.places.length j s.lines s.made).getD k [] = if k ≠ s.places.length ∧ g2 s.lines k j ≠ 0 then lessR p (g2 s.lines k j) (s.made.getD k []) (s.made.getD s.places.length []) else s.made.getD k [] := fun k hk => others_get (by omega)
  have sh : ∀ {w : Nat} {L : List (List Int)}, Sh p n w L → Sh p n w (others p s.places.length j s.lines L) := fun {w L} sL => by
    refine ⟨by rw [others_len]; exact sL.len, fun r hr => ?_⟩
    unfold others at hr
    obtain ⟨k, hk, rfl⟩ := List.mem_map.mp hr
    have hk : k < n := by have := List.mem_range.mp hk; rw [sL.len] at this; exact this
    by_cases c : k ≠ s.places.length ∧ g2 s.lines k j ≠ 0
    · rw [if_pos c]
      have el : (L.getD k []).length = (L.getD s.places.length []).length := by rw [sL.rlen hk, sL.rlen hd]
      exact ⟨by rw [lessR_len el]; exact sL.rlen hk, lessR_range (by omega)⟩
    · rw [if_neg c]; exact sL.row _ (sL.get hk)
  have shL' := sh o.shL
  -- every place of a row that is made less
  have lessAt : ∀ k, k < n → ∀ c, Me p (((others p s.places.length j s.lines s.lines).getD k []).getD c 0) (if k = s.places.length then g2 s.lines k c else g2 s.lines k c - g2 s.lines k j * g2 s.lines s.places.length c) := fun k hk c => by
    rw [gL k hk]
    by_cases e : k = s.places.length
    · rw [if_neg (fun z => z.1 e), if_pos e]; exact Me.refl
    · rw [if_neg e]
      by_cases e2 : g2 s.lines k j = 0
      · rw [if_neg (fun z => z.2 e2), e2, Int.zero_mul, Int.sub_zero]; exact Me.refl
      · rw [if_pos ⟨e, e2⟩]
        exact lessR_get c (by rw [o.shL.rlen hk, o.shL.rlen hd])
  refine ⟨shL', sh o.shM, ?_, ?_, ?_, ?_, ?_, ?_, ?_⟩
  · intro k hk c hc
    show Me p (((others p s.places.length j s.lines s.lines).getD k []).getD c 0) (dot ((others p s.places.length j s.lines s.made).getD k []) (col T c))
    rw [gL k hk, gM k hk]
    by_cases z : k ≠ s.places.length ∧ g2 s.lines k j ≠ 0
    · rw [if_pos z, if_pos z]
      refine (lessR_get c (by rw [o.shL.rlen hk, o.shL.rlen hd])).trans ?_
      refine Me.trans ?_ (dot_less (by rw [o.shM.rlen hk, o.shM.rlen hd])).symm
      exact Me.sub (o.comb k hk c hc) (Me.mul Me.refl (o.comb _ hd c hc))
    · rw [if_neg z, if_neg z]; exact o.comb k hk c hc
  · intro x hx hz
    refine o.ker x hx fun k hk => ?_
    have hzd : Me p (dot (s.lines.getD s.places.length []) x) 0 := by
      have := hz _ hd
      have this : Me p (dot ((others p s.places.length j s.lines s.lines).getD s.places.length []) x) 0 := this
      rw [gL _ hd, if_neg (fun z => z.1 rfl)] at this
      exact this
    have := hz k hk
    have this : Me p (dot ((others p s.places.length j s.lines s.lines).getD k []) x) 0 := this
    rw [gL k hk] at this
    by_cases z : k ≠ s.places.length ∧ g2 s.lines k j ≠ 0
    · rw [if_pos z] at this
      have t1 := (dot_less (p := p) (m := g2 s.lines k j) (zs := x) (show (s.lines.getD k []).length = (s.lines.getD s.places.length []).length by rw [o.shL.rlen hk, o.shL.rlen hd])).symm.trans this
      have t2 : Me p (g2 s.lines k j * dot (s.lines.getD s.places.length []) x) (g2 s.lines k j * 0) := Me.mul Me.refl hzd
      have t3 := Me.add t1 t2
      rw [Int.mul_zero, Int.sub_add_cancel] at t3
      exact t3
    · rw [if_neg z] at this; exact this
  · intro q hq
    rcases List.mem_append.mp hq with hq | hq
    · have := o.pl q hq; omega
    · have := List.mem_singleton.mp hq; omega
  · refine List.pairwise_append.mpr ⟨o.mono, List.pairwise_singleton _ _, fun a ha b hb => ?_⟩
    have := o.pl a ha
    have := List.mem_singleton.mp hb
    omega
  · intro t q ht k hk
    have ht : (s.places ++ [j])[t]? = some q := ht
    have hqw : q < w := by
      have hm := List.mem_of_getElem? ht
      rcases List.mem_append.mp hm with hm | hm
      · have := o.pl q hm; omega
      · have := List.mem_singleton.mp hm; omega
    have rg := shL'.rng hk hqw
    show g2 (others p s.places.length j s.lines s.lines) k q = _
    have key := lessAt k hk q
    by_cases htl : t < s.places.length
    · rw [List.getElem?_append_left htl] at ht
      have u1 := o.unit t q ht k hk
      have u2 := o.unit t q ht _ hd
      rw [if_neg (show ¬ s.places.length = t by omega)] at u2
      have key2 : Me p (g2 (others p s.places.length j s.lines s.lines) k q) (if k = t then 1 else 0) := by
        by_cases e : k = s.places.length
        · rw [if_pos e] at key; rw [← u1]; exact key
        · rw [if_neg e, u2, Int.mul_zero, Int.sub_zero] at key; rw [← u1]; exact key
      refine key2.eq rg.1 rg.2 ?_ ?_
      · by_cases e : k = t <;> simp [e]
      · by_cases e : k = t <;> simp [e] <;> omega
    · have e0 : t = s.places.length := by
        have := (List.getElem?_eq_some_iff.mp ht).1
        rw [List.length_append] at this
        have : [j].length = 1 := rfl
        omega
      subst e0
      rw [List.getElem?_concat_length] at ht
      have : j = q := Option.some.inj ht
      subst this
      by_cases e : k = s.places.length
      · rw [if_pos e] at key
        rw [if_pos e]
        rw [e] at key rg ⊢
        have : Me p (g2 (others p s.places.length j s.lines s.lines) s.places.length j) 1 := by rw [← h1]; exact key
        exact this.eq rg.1 rg.2 (by omega) hp
      · rw [if_neg e, h1, Int.mul_one, Int.sub_self] at key
        rw [if_neg e]
        exact key.eq rg.1 rg.2 (Int.le_refl 0) (by omega)
  · intro k hk1 hk c hc
    have hk1 : (s.places ++ [j]).length ≤ k := hk1
    rw [List.length_append] at hk1
    have : [j].length = 1 := rfl
    have hcw : c < w := by omega
    have rg := shL'.rng hk hcw
    have key := lessAt k hk c
    rw [if_neg (by omega)] at key
    show g2 (others p s.places.length j s.lines s.lines) k c = 0
    have : Me p (g2 (others p s.places.length j s.lines s.lines) k c) 0 := by
      by_cases e : c = j
      · subst e
        rw [h1, Int.mul_one, Int.sub_self] at key
        exact key
      · have z1 := o.zero k (by omega) hk c (by omega)
        have z2 := o.zero _ (Nat.le_refl _) hd c (by omega)
        rw [z1, z2, Int.mul_zero, Int.sub_zero] at key
        exact key
    exact this.eq rg.1 rg.2 (Int.le_refl 0) (by omega)
  · show (s.places ++ [j]).length ≤ n
    rw [List.length_append]
    have : [j].length = 1 := rfl
    omega
theorem clearAt_ok {p : Int} {bk : Int → Int} {n w j : Nat} {T : List (List Int)} {s : Cl} (hp : 1 < p) (hbk : ∀ k, firstW s.lines s.places.length j = some k → Me p (bk (g2 s.lines k j) * g2 s.lines k j) 1) (o : Ok p n w T s j) (hj : j < w) : Ok p n w T (clearAt p bk s j) (j + 1) := by
  unfold clearAt
  cases hf : firstW s.lines s.places.length j with
  | none =>
    have hz := firstW_none hf
    exact ⟨o.shL, o.shM, o.comb, o.ker, fun q hq => by have := o.pl q hq; omega, o.mono, o.unit, fun k h1 h2 c hc => by
      by_cases e : c = j
      · rw [e]; exact hz k h1 (by rw [o.shL.len]; exact h2)
      · exact o.zero k h1 h2 c (by omega), o.le⟩
  | some k =>
    obtain ⟨h1, h2, h3⟩ := firstW_some hf
    rw [o.shL.len] at h2
    have hd : s.places.length < n := by omega
    have o1 := step_swap o h1 h2
    have ev : g2 (swapL s.lines s.places.length k) s.places.length j = g2 s.lines k j := by
      show ((swapL s.lines s.places.length k).getD s.places.length []).getD j 0 = _
      rw [swap_get (by rw [o.shL.len]; omega) (by rw [o.shL.len]; omega)]
      by_cases e : s.places.length = k
      · rw [if_pos e, e]
      · rw [if_neg e, if_pos rfl]
    have rg := o.shL.rng h2 hj
    have hb := hbk k hf
    rw [← ev] at hb
    have o2 := step_scale (by omega) o1 hd hb
    have e1 : g2 ((swapL s.lines s.places.length k).set s.places.length (scaleR p (bk (g2 (swapL s.lines s.places.length k) s.places.length j)) ((swapL s.lines s.places.length k).getD s.places.length []))) s.places.length j = 1 := by
      have rg2 := o2.shL.rng hd hj
      refine Me.eq (p := p) ?_ rg2.1 rg2.2 (by omega) hp
      show Me p ((((swapL s.lines s.places.length k).set s.places.length _).getD s.places.length []).getD j 0) 1
      rw [getD_set (by rw [swap_len, o.shL.len]; exact hd), if_pos rfl]
      exact (scaleR_get j).trans hb
    exact step_less hp o2 hd hj e1
theorem ones_sh {p : Int} (hp : 1 < p) (n : Nat) : Sh p n n (onesT n) := by
  unfold onesT
  refine ⟨by rw [List.length_map, List.length_range], fun r hr => ?_⟩
  obtain ⟨k, _, rfl⟩ := List.mem_map.mp hr
  refine ⟨by rw [List.length_map, List.length_range], fun x hx => ?_⟩
  obtain ⟨i, _, rfl⟩ := List.mem_map.mp hx
  by_cases e : k = i <;> simp [e] <;> omega
theorem dot_unit : ∀ (n k : Nat) (ys : List Int), ys.length = n → dot ((List.range n).map fun j => if k = j then 1 else 0) ys = ys.getD k 0 := by
  intro n
  induction n with
  | zero => intro k ys h; cases ys with
    | nil => simp [dot]
    | cons y ys => simp at h
  | succ n ih =>
    intro k ys h
    cases ys with
    | nil => simp at h
    | cons y ys =>
      rw [List.range_succ_eq_map, List.map_cons, List.map_map]
      show (if k = 0 then (1 : Int) else 0) * y + dot (List.map ((fun j => if k = j then 1 else 0) ∘ Nat.succ) (List.range n)) ys = _
      cases k with
      | zero =>
        rw [if_pos rfl, Int.one_mul]
        have : dot (List.map ((fun j => if 0 = j then (1 : Int) else 0) ∘ Nat.succ) (List.range n)) ys = 0 := by
          have z : ∀ (l : List Nat) (ys : List Int), dot (List.map ((fun j => if 0 = j then (1 : Int) else 0) ∘ Nat.succ) l) ys = 0 := by
            intro l
            induction l with
            | nil => intro ys; rfl
            | cons a l il => intro ys; cases ys with
              | nil => rfl
              | cons y ys => show (if 0 = a + 1 then (1 : Int) else 0) * y + _ = 0; rw [if_neg (by omega), Int.zero_mul, il]; rfl
          exact z _ _
        rw [this]; simp
      | succ k =>
        rw [if_neg (by omega), Int.zero_mul, Int.zero_add]
        have := ih k ys (by simpa using h)
        have e : List.map ((fun j => if k + 1 = j then (1 : Int) else 0) ∘ Nat.succ) (List.range n) = (List.range n).map fun j => if k = j then 1 else 0 := by
          apply List.map_congr_left
          intro a _
          show (if k + 1 = a + 1 then (1 : Int) else 0) = _
          by_cases z : k = a <;> simp [z]
        rw [e, this]; simp
theorem start_ok {p : Int} (hp : 1 < p) {n w : Nat} {T : List (List Int)} (sT : Sh p n w T) : Ok p n w T ⟨T, onesT T.length, []⟩ 0 := by
  refine ⟨sT, by rw [sT.len]; exact ones_sh hp n, ?_, fun x _ h => h, (fun q hq => by cases hq), List.Pairwise.nil, (fun t q h => by simp at h), (fun k _ _ c hc => by omega), Nat.zero_le _⟩
  intro k hk c hc
  have e : (onesT T.length).getD k [] = (List.range T.length).map fun j => if k = j then 1 else 0 := by
    unfold onesT
    rw [List.getD_eq_getElem?_getD, List.getElem?_map, List.getElem?_range (by rw [sT.len]; exact hk)]
    rfl
  show Me p (g2 T k c) (dot ((onesT T.length).getD k []) (col T c))
  rw [e, dot_unit T.length k (col T c) (by unfold col; rw [List.length_map])]
  have e2 : (col T c).getD k 0 = g2 T k c := by
    unfold col
    rw [List.getD_eq_getElem?_getD, List.getElem?_map, List.getElem?_eq_getElem (by rw [sT.len]; exact hk)]
    show (T[k]'_).getD c 0 = ((T.getD k []).getD c 0)
    rw [List.getD_eq_getElem?_getD (l := T), List.getElem?_eq_getElem (by rw [sT.len]; exact hk)]
    rfl
  rw [e2]; exact Me.refl
theorem cleared_succ {p : Int} {bk : Int → Int} {T : List (List Int)} {j : Nat} : cleared p bk T (j + 1) = clearAt p bk (cleared p bk T j) j := by
  unfold cleared
  rw [List.range_succ, List.foldl_append]
  rfl
/-! ### readers and noughts -/
theorem tight : ∀ (l : List Nat) (b w : Nat), b ≤ w → l.Pairwise (· < ·) → (∀ q ∈ l, b ≤ q ∧ q < w) → l.length ≤ w - b ∧ (l.length = w - b → l = List.range' b (w - b))
  | [], b, w, h, _, _ => ⟨Nat.zero_le _, fun e => by
    have e : 0 = w - b := e
    rw [← e]; rfl⟩
  | x :: l, b, w, h, hp, hq => by
    have hx := hq x (List.mem_cons_self ..)
    obtain ⟨h1, h2⟩ := List.pairwise_cons.mp hp
    obtain ⟨i1, i2⟩ := tight l (x + 1) w (by omega) h2 fun q z => ⟨h1 q z, (hq q (List.mem_cons_of_mem _ z)).2⟩
    refine ⟨by rw [List.length_cons]; omega, fun e => ?_⟩
    rw [List.length_cons] at e
    have eb : x = b := by omega
    subst eb
    have := i2 (by omega)
    rw [this, show w - x = (w - (x + 1)) + 1 by omega, List.range'_succ]
theorem Ok.full {p : Int} {n w : Nat} {T : List (List Int)} {s : Cl} (o : Ok p n w T s w) (h : ¬ s.places.length < w) : s.places.length = w ∧ ∀ t, t < w → s.places[t]? = some t := by
  obtain ⟨h1, h2⟩ := tight s.places 0 w (Nat.zero_le _) o.mono fun q z => ⟨Nat.zero_le _, o.pl q z⟩
  have e : s.places.length = w := by omega
  refine ⟨e, fun t ht => ?_⟩
  rw [h2 (by omega), List.getElem?_range' (by omega)]
  simp
theorem Ok.short {p : Int} {n w : Nat} {T : List (List Int)} {s : Cl} (o : Ok p n w T s w) : s.places.length ≤ w := (tight s.places 0 w (Nat.zero_le _) o.mono fun q z => ⟨Nat.zero_le _, o.pl q z⟩).1
def rankM (p : Int) (bk : Int → Int) (T : List (List Int)) : Nat := if T = [] then 0 else (cleared p bk T (T.headD []).length).places.length
def readM (p : Int) (bk : Int → Int) (T : List (List Int)) (w : Nat) : Option (List (List Int)) :=
  if (cleared p bk T w).places.length < w then none else some ((cleared p bk T w).made.take w)
def freeP (s : Cl) (w : Nat) : List Nat := (List.range w).filter fun q => !s.places.contains q
def rowAt (p : Int) (s : Cl) (c w i : Nat) : List Int := (List.range i).foldl (fun row k => row.set (s.places.getD k 0) ((0 - g2 s.lines k c) % p)) (((List.range w).map fun _ => (0 : Int)).set c 1)
def noughtM (p : Int) (bk : Int → Int) (T : List (List Int)) (w : Nat) : Option (List Int) :=
  match freeP (cleared p bk T w) w with
  | [] => none
  | c :: _ => some (rowAt p (cleared p bk T w) c w (cleared p bk T w).places.length)
theorem wide_of : ∀ (l : List Nat) (b w : Nat), l.Pairwise (· < ·) → (∀ q ∈ l, b ≤ q) → (∀ q, b ≤ q → q < w → q ∈ l) → w - b ≤ l.length
  | [], b, w, _, _, h => by
    by_cases z : b < w
    · have := h b (Nat.le_refl _) z; cases this
    · rw [List.length_nil]; omega
  | x :: l, b, w, hp, hb, h => by
    obtain ⟨h1, h2⟩ := List.pairwise_cons.mp hp
    have hx := hb x (List.mem_cons_self ..)
    by_cases z : b < w
    · have e : b = x := by
        rcases List.mem_cons.mp (h b (Nat.le_refl _) z) with e | e
        · exact e
        · have := h1 b e; omega
      subst e
      have := wide_of l (b + 1) w h2 (fun q hq => h1 q hq) fun q g1 g2 => by
        rcases List.mem_cons.mp (h q (by omega) g2) with e | e
        · omega
        · exact e
      rw [List.length_cons]; omega
    · omega
theorem free_nil {p : Int} {n w : Nat} {T : List (List Int)} {s : Cl} (o : Ok p n w T s w) : freeP s w = [] ↔ ¬ s.places.length < w := by
  constructor
  · intro h hl
    -- all below w are among the places, so there are w of them
    have hall : ∀ q, q < w → q ∈ s.places := fun q hq => by
      have := List.filter_eq_nil_iff.mp h q (List.mem_range.mpr hq)
      simpa using this
    have := wide_of s.places 0 w o.mono (fun q _ => Nat.zero_le _) fun q _ hq => hall q hq
    omega
  · intro h
    obtain ⟨e, g⟩ := o.full h
    refine List.filter_eq_nil_iff.mpr fun q hq => ?_
    have : q ∈ s.places := List.mem_of_getElem? (g q (List.mem_range.mp hq))
    simpa using this
theorem one_right {p : Int} {bk : Int → Int} {n w : Nat} {T : List (List Int)} (o : Ok p n w T (cleared p bk T w) w) : (readM p bk T w = none) ↔ ¬ (noughtM p bk T w = none) := by
  have e := free_nil o
  unfold readM noughtM
  by_cases h : (cleared p bk T w).places.length < w
  · rw [if_pos h]
    cases hf : freeP (cleared p bk T w) w with
    | nil => exact absurd h (e.mp hf)
    | cons a l => simp
  · rw [if_neg h, e.mpr h]; simp
theorem read_some {p : Int} {bk : Int → Int} {n w : Nat} {T R : List (List Int)} (o : Ok p n w T (cleared p bk T w) w) (h : readM p bk T w = some R) : w ≤ n ∧ Sh p w n R ∧ ∀ k j, k < w → j < w → Me p (dot (R.getD k []) (col T j)) (if k = j then 1 else 0) := by
  unfold readM at h
  by_cases z : (cleared p bk T w).places.length < w
  · rw [if_pos z] at h; cases h
  · rw [if_neg z] at h
    cases h
    obtain ⟨e, g⟩ := o.full z
    have hn : w ≤ n := by rw [← e]; exact o.le
    refine ⟨hn, ⟨by rw [List.length_take, o.shM.len]; omega, fun r hr => o.shM.row r (List.mem_of_mem_take hr)⟩, fun k j hk hj => ?_⟩
    have e1 : (List.take w (cleared p bk T w).made).getD k [] = (cleared p bk T w).made.getD k [] := by
      rw [List.getD_eq_getElem?_getD, List.getElem?_take_of_lt hk, List.getD_eq_getElem?_getD]
    rw [e1]
    have := o.comb k (by omega) j hj
    rw [o.unit j j (g j hj) k (by omega)] at this
    exact this.symm
theorem dot_set {q : Nat} {v : Int} : ∀ {xs ys : List Int}, q < ys.length → dot xs (ys.set q v) = dot xs ys + xs.getD q 0 * (v - ys.getD q 0) := by
  induction q with
  | zero =>
    intro xs ys h
    cases ys with
    | nil => simp at h
    | cons y ys => cases xs with
      | nil => simp [dot]
      | cons x xs =>
        show x * v + dot xs ys = (x * y + dot xs ys) + x * (v - y)
        rw [Int.mul_sub]; omega
  | succ q ih =>
    intro xs ys h
    cases ys with
    | nil => simp at h
    | cons y ys => cases xs with
      | nil => simp [dot]
      | cons x xs =>
        have := ih (xs := xs) (ys := ys) (by simpa using h)
        show x * y + dot xs (ys.set q v) = (x * y + dot xs ys) + xs.getD q 0 * (v - ys.getD q 0)
        rw [this]; omega
theorem dot_zero (xs : List Int) (w : Nat) : dot xs ((List.range w).map fun _ => (0 : Int)) = 0 := by
  have z : ∀ (l : List Nat) (xs : List Int), dot xs (l.map fun _ => (0 : Int)) = 0 := by
    intro l
    induction l with
    | nil => intro xs; exact dot_nil xs
    | cons a l ih => intro xs; cases xs with
      | nil => rfl
      | cons x xs => show x * 0 + dot xs (l.map fun _ => (0 : Int)) = 0; rw [ih]; simp
  exact z _ _
theorem set_getD {ys : List Int} {q j : Nat} {v : Int} (h : q < ys.length) : (ys.set q v).getD j 0 = if j = q then v else ys.getD j 0 := by
  rw [List.getD_eq_getElem?_getD, List.getElem?_set]
  by_cases e : q = j
  · subst e; simp [h]
  · rw [if_neg e, if_neg (fun z => e z.symm), List.getD_eq_getElem?_getD]
theorem rowAt_len {p : Int} {s : Cl} {c w : Nat} : ∀ i, (rowAt p s c w i).length = w
  | 0 => by unfold rowAt; simp
  | i + 1 => by
    have := rowAt_len (p := p) (s := s) (c := c) (w := w) i
    unfold rowAt at this ⊢
    rw [List.range_succ, List.foldl_append]
    show (List.set _ _ _).length = w
    rw [List.length_set]; exact this
theorem rowAt_succ {p : Int} {s : Cl} {c w i : Nat} : rowAt p s c w (i + 1) = (rowAt p s c w i).set (s.places.getD i 0) ((0 - g2 s.lines i c) % p) := by
  unfold rowAt; rw [List.range_succ, List.foldl_append]; rfl
theorem zeros_getD (w j : Nat) : ((List.range w).map fun _ => (0 : Int)).getD j 0 = 0 := by
  rw [List.getD_eq_getElem?_getD, List.getElem?_map]
  cases (List.range w)[j]? <;> rfl
theorem nought_some {p : Int} {bk : Int → Int} {n w : Nat} {T : List (List Int)} {row : List Int} (hp : 1 < p) (o : Ok p n w T (cleared p bk T w) w) (h : noughtM p bk T w = some row) :
    row.length = w ∧ (∀ x ∈ row, 0 ≤ x ∧ x < p) ∧ (∃ j, j < w ∧ row.getD j 0 ≠ 0) ∧ ∀ k, k < n → Me p (dot (T.getD k []) row) 0 := by
  unfold noughtM at h
  generalize cleared p bk T w = s at o h
  cases hf : freeP s w with
  | nil => rw [hf] at h; cases h
  | cons c l =>
    rw [hf] at h
    have hc : c ∈ freeP s w := by rw [hf]; exact List.mem_cons_self ..
    obtain ⟨hc1, hc2⟩ := List.mem_filter.mp hc
    have hc1 := List.mem_range.mp hc1
    have hc2 : c ∉ s.places := by simpa using hc2
    have e : rowAt p s c w s.places.length = row := Option.some.inj h
    have gp : ∀ i, i < s.places.length → s.places[i]? = some (s.places.getD i 0) := fun i hi => by
      rw [List.getD_eq_getElem?_getD, List.getElem?_eq_getElem hi]; rfl
    have gw : ∀ i, i < s.places.length → s.places.getD i 0 < w := fun i hi => o.pl _ (List.mem_of_getElem? (gp i hi))
    have gc : ∀ i, i < s.places.length → s.places.getD i 0 ≠ c := fun i hi z => hc2 (z ▸ List.mem_of_getElem? (gp i hi))
    have key : ∀ i, i ≤ s.places.length → (∀ x ∈ rowAt p s c w i, 0 ≤ x ∧ x < p) ∧ (rowAt p s c w i).getD c 0 = 1 ∧ (∀ t, i ≤ t → t < s.places.length → (rowAt p s c w i).getD (s.places.getD t 0) 0 = 0) ∧
        ∀ k, k < n → Me p (dot (s.lines.getD k []) (rowAt p s c w i)) (if k < i then 0 else g2 s.lines k c) := by
      intro i
      induction i with
      | zero =>
        intro _
        have e0 : rowAt p s c w 0 = ((List.range w).map fun _ => (0 : Int)).set c 1 := rfl
        have lc : c < ((List.range w).map fun _ => (0 : Int)).length := by simpa using hc1
        rw [e0]
        refine ⟨fun x hx => ?_, by rw [set_getD lc, if_pos rfl], fun t _ ht => by rw [set_getD lc, if_neg (gc t ht), zeros_getD], fun k hk => ?_⟩
        · rcases List.mem_or_eq_of_mem_set hx with hx | rfl
          · obtain ⟨_, _, rfl⟩ := List.mem_map.mp hx; omega
          · omega
        · rw [if_neg (by omega), dot_set lc, dot_zero, zeros_getD]
          refine Me.of ?_
          show 0 + g2 s.lines k c * (1 - 0) = _
          rw [Int.sub_zero, Int.mul_one, Int.zero_add]
      | succ i ih =>
        intro hi
        obtain ⟨i1, i2, i3, i4⟩ := ih (by omega)
        have lq : s.places.getD i 0 < (rowAt p s c w i).length := by rw [rowAt_len]; exact gw i (by omega)
        rw [rowAt_succ]
        refine ⟨fun x hx => ?_, by rw [set_getD lq, if_neg (fun z => gc i (by omega) z.symm)]; exact i2, fun t h1 ht => ?_, fun k hk => ?_⟩
        · rcases List.mem_or_eq_of_mem_set hx with hx | rfl
          · exact i1 x hx
          · exact mod_range (by omega) _
        · rw [set_getD lq, if_neg ?_]
          · exact i3 t (by omega) ht
          · have g := (List.pairwise_iff_getElem.mp o.mono) i t (by omega) ht (by omega)
            intro z
            have e1 := gp i (by omega)
            have e2 := gp t ht
            rw [List.getElem?_eq_getElem (by omega)] at e1
            rw [List.getElem?_eq_getElem ht] at e2
            rw [Option.some.inj e1, Option.some.inj e2] at g
            omega
        · rw [dot_set lq, i3 i (Nat.le_refl _) (by omega), Int.sub_zero]
          have u := o.unit i _ (gp i (by omega)) k hk
          have u' : (s.lines.getD k []).getD (s.places.getD i 0) 0 = if k = i then 1 else 0 := u
          rw [u']
          by_cases e1 : k = i
          · subst e1
            rw [if_pos rfl, if_pos (by omega), Int.one_mul]
            have := i4 k hk
            rw [if_neg (by omega)] at this
            have t2 := Me.add this (Me.mod (p := p) (a := 0 - g2 s.lines k c))
            rw [show g2 s.lines k c + (0 - g2 s.lines k c) = 0 by omega] at t2
            exact t2
          · rw [if_neg e1, Int.zero_mul, Int.add_zero]
            have := i4 k hk
            by_cases e2 : k < i
            · rw [if_pos e2] at this; rw [if_pos (by omega)]; exact this
            · rw [if_neg e2] at this; rw [if_neg (by omega)]; exact this
    obtain ⟨k1, k2, _, k4⟩ := key _ (Nat.le_refl _)
    rw [e] at k1 k2 k4
    refine ⟨by rw [← e]; exact rowAt_len _, k1, ⟨c, hc1, by rw [k2]; omega⟩, fun k hk => ?_⟩
    refine o.ker row (by rw [← e]; exact rowAt_len _) (fun k hk => ?_) k hk
    have := k4 k hk
    by_cases e2 : k < s.places.length
    · rw [if_pos e2] at this; exact this
    · rw [if_neg e2, o.zero k (by omega) hk c hc1] at this; exact this
end Tb

set_option Elab.async false
set_option linter.all false
set_option maxRecDepth 100000
set_option maxHeartbeats 4000000
namespace Mx
open PySem PySem.Spec PyProof.Rows L2 Nt
local macro_rules | `(tactic| walk_at "side") => `(tactic| first
  | assumption
  | rfl
  | exact upd_same
  | exact sqL_new
  | exact ⟨_, sqL_new⟩
  | exact ⟨_, by assumption⟩
  | exact sqT_new
  | exact ⟨_, sqT_new⟩
  | exact ⟨_, sqL_upd (by assumption) (by assumption)⟩
  | exact sqL_upd (by assumption) (by assumption)
  | (refine upd_at ?_ ?_ <;> assumption)
  | exact ty_lst (by assumption)
  | exact ty_lst upd_same
  | exact SqL.of (by assumption)
  | exact .inl (SqL.of (by assumption))
  | exact ⟨_, SqL.of (by assumption)⟩
  | omega
  | exact Nat.le_of_ble_eq_true rfl
  | decide)
local macro_rules | `(tactic| walk_at "go1") => `(tactic| first
  | (fail_if_success (show ∃ W : Nat → Nat → L2.St → Hp → Prop, _)
     fail_if_success (show ∃ W : Nat → L2.St → Hp → Prop, _)
     fail_if_success (show ∃ W : L2.St → Hp → Prop, _)
     apply Exists.intro)
  | (refine And.intro ?_ ?_; (walk_at "side")))
local macro_rules | `(tactic| walk_at "nrm") => `(tactic| dsimp only [tSeq, tAsg, tC, gName, tNext, tIfS, tRet, tDrop, tTest, tB, L2.start, List.map, List.length, List.replicate, List.cons_append, List.nil_append, List.set_cons_zero, List.set_cons_succ])
local macro_rules | `(tactic| walk_at "go") => `(tactic| repeat (walk_at "go1"))
/-! ### is_prime -/
def sp_is_prime (K : PySem.W.Frag) : Sp := fun vs H Q _ => vs.length = 1 ∧ ∃ n, vs = [.int n] ∧ n < 2 ^ 60 ∧ Q (.bl (isPr n)) H
def t_is_prime_1 (K : PySem.W.Frag) : TS := (tSeq (tIfS (tTest (tOp rEq (tOp oMod (tVar 0) (tVar 1)) (tC (.int 0)))) (tRet (tC (.bl false))) tNext) (tAug 1 (tC (.int 1)) (ipI fun i j => i + j)))
def t_is_prime_2 (K : PySem.W.Frag) : TS := (tRet (tC (.bl true)))
def t_is_prime (K : PySem.W.Frag) : TS := (tSeq (tIfS (tTest (tOp oLt (tVar 0) (tC (.int 2)))) (tRet (tC (.bl false))) tNext) (tSeq (tAsg (tC (.int 2)) (gName 1)) (tSeq (tWhile (tTest (tOp oLe (tOp oMul (tVar 1) (tVar 1)) (tVar 0))) (t_is_prime_1 K)) (t_is_prime_2 K))))
theorem pu_is_prime {K : PySem.W.Frag} (vs : List V) (H : Hp) (Q : VK) (E : XK) (h : ∃ n, vs = [.int n] ∧ n < 2 ^ 60 ∧ Q (.bl (isPr n)) H) : t_is_prime K { nx := fun _ H' => Q .non H', rt := Q } (start ["number", "by"] vs) H := by
  obtain ⟨n, rfl, hn, q⟩ := h
  walk_at "go"
  refine iteD (fun c => ?_) (fun c => ?_)
  · rw [isPr_small c] at q
    exact q
  · walk_at "nrm"
    refine loopW (fun m σ H' => H' = H ∧ ∃ b : Int, σ = [some (.int n), some (.int b)] ∧ 2 ≤ b ∧ b ≤ n + 1 ∧ m = (n + 1 - b).toNat ∧ ∀ d : Int, 2 ≤ d → d < b → n % d ≠ 0) (n + 1 - 2).toNat ⟨rfl, 2, rfl, by omega, by omega, rfl, fun d h1 h2 => by omega⟩ ?_
    rintro m σ _ ⟨rfl, b, rfl, h2, hb, rfl, hd⟩
    have hm : CMul b b := .inl ⟨by omega, by omega⟩
    walk_at "go"
    refine iteD (fun c1 => turnW ?_) (fun c1 => ?_)
    · walk_at "go"
      refine iteEq (fun c2 => ?_) (fun c2 => ?_)
      · rw [isPr_false h2 c1 c2] at q
        exact q
      · have hbn : b ≤ n := by
          have : 1 * b ≤ b * b := Int.mul_le_mul_of_nonneg_right (by omega) (by omega)
          omega
        walk_at "go"
        refine ⟨⟨_, ?_, rfl, b + 1, rfl, by omega, by omega, rfl, fun d h1 h3 => ?_⟩⟩
        · omega
        · by_cases e : d = b
          · rw [e]; exact c2
          · exact hd d h1 (by omega)
    · have e : isPr n = true := isPr_iff.mpr ⟨by omega, fun d h1 h3 => hd d h1 (by
        by_cases z : d < b
        · exact z
        · have : b * b ≤ d * d := Int.mul_le_mul (by omega) (by omega) (by omega) (by omega)
          omega)⟩
      rw [e] at q
      exact q
/-! ### the field -/
def IsF (K : PySem.W.Frag) (H : Hp) (f : Addr) (p : Int) : Prop := ∃ dx, H f = some (.ins (He.ga K "Field") dx [("prime", .int p)]) ∧ isPr p = true ∧ p ≤ 1000000
theorem IsF.mono {K : PySem.W.Frag} {H H' : Hp} {f : Addr} {p : Int} (h : IsF K H f p) (e : Same H H') : IsF K H' f p := let ⟨dx, a, b⟩ := h; ⟨dx, e _ _ a, b⟩
theorem IsF.pos {K : PySem.W.Frag} {H : Hp} {f : Addr} {p : Int} (h : IsF K H f p) : 2 ≤ p ∧ p ≤ 1000000 := let ⟨_, _, b, c⟩ := h; ⟨isPr_pos b, c⟩
def sp_Field___init__ (K : PySem.W.Frag) : Sp := fun vs H Q E => vs.length = 2 ∧ ∃ x dx n, vs = [.ref x, .int n] ∧ H x = some (.ins (He.ga K "Field") dx []) ∧ n < 2 ^ 60 ∧
  ((n ≤ 1000000 ∧ isPr n = true → Q .non (upd H x (.ins (He.ga K "Field") dx [("prime", .int n)]))) ∧ (¬ (n ≤ 1000000 ∧ isPr n = true) → E (.ref (He.ga K "NoPrime")) none H))
def t_Field___init__ (K : PySem.W.Frag) (E : XK) : TS := (tSeq (tIfS (tOr (tTest (tOp oGt (tVar 1) (tC (.int 1000000)))) (tNot (tB (tCallSD (sp_is_prime K) [] (fun _ => E) (tCons (tVar 1) tNil))))) (xRaise (He.ga K "NoPrime") E) tNext) (xsFld (He.ga K "Field") (tVar 0) (tVar 1) "prime"))
theorem pu_Field___init__ {K : PySem.W.Frag} (vs : List V) (H : Hp) (Q : VK) (E : XK) (h : ∃ x dx n, vs = [.ref x, .int n] ∧ H x = some (.ins (He.ga K "Field") dx []) ∧ n < 2 ^ 60 ∧
  ((n ≤ 1000000 ∧ isPr n = true → Q .non (upd H x (.ins (He.ga K "Field") dx [("prime", .int n)]))) ∧ (¬ (n ≤ 1000000 ∧ isPr n = true) → E (.ref (He.ga K "NoPrime")) none H))) :
    t_Field___init__ K E { nx := fun _ H' => Q .non H', rt := Q } (start ["self", "prime"] vs) H := by
  obtain ⟨x, dx, n, rfl, hx, hn, q1, q2⟩ := h
  walk_at "go"
  refine iteD (fun c => ?_) (fun c => ?_)
  · refine iteT ?_
    exact q2 fun z => by omega
  · walk_at "go"
    cases e : isPr n with
    | false =>
      refine iteT ?_
      exact q2 fun z => by rw [e] at z; exact Bool.false_ne_true z.2
    | true =>
      refine iteF ?_
      walk_at "go"
      exact q1 ⟨by omega, e⟩
/-- Field(n), n a prime -/
theorem use_Field {K : PySem.W.Frag} {H : Hp} {Q : VK} {E : XK} {n : Int} (hn : isPr n = true) (h6 : n ≤ 1000000) (q : ∀ f H', H f = none → Same H H' → IsF K H' f n → Q (.ref f) H') :
    ∀ x dx, H x = none → H dx = none → dx ≠ x → sp_Field___init__ K (.ref x :: ([.int n] ++ [])) (upd (upd H dx (.own x)) x (.ins (He.ga K "Field") dx [])) (fun v H2 => v = .non ∧ Q (.ref x) H2) E := by
  intro x dx nx nd ne
  refine ⟨rfl, x, dx, n, rfl, upd_same, by omega, fun _ => ⟨rfl, ?_⟩, fun z => absurd ⟨h6, hn⟩ z⟩
  refine q x _ nx ?_ ⟨dx, upd_same, hn, h6⟩
  exact same_mut (same_mut (same_new nd) nx) nx
/-- Field(n), n any -/
theorem use_FieldX {K : PySem.W.Frag} {H : Hp} {Q : VK} {E : XK} {n : Int} (hn : n < 2 ^ 60) (q : isPr n = true → n ≤ 1000000 → ∀ f H', H f = none → Same H H' → IsF K H' f n → Q (.ref f) H') (qe : ¬ (n ≤ 1000000 ∧ isPr n = true) → ∀ H', Same H H' → E (.ref (He.ga K "NoPrime")) none H') :
    ∀ x dx, H x = none → H dx = none → dx ≠ x → sp_Field___init__ K (.ref x :: ([.int n] ++ [])) (upd (upd H dx (.own x)) x (.ins (He.ga K "Field") dx [])) (fun v H2 => v = .non ∧ Q (.ref x) H2) E := by
  intro x dx nx nd ne
  refine ⟨rfl, x, dx, n, rfl, upd_same, hn, fun z => ⟨rfl, ?_⟩, fun z => qe z _ (same_mut (same_new nd) nx)⟩
  refine q z.2 z.1 x _ nx ?_ ⟨dx, upd_same, z.2, z.1⟩
  exact same_mut (same_mut (same_new nd) nx) nx
def sp_Field_fit (K : PySem.W.Frag) : Sp := fun vs H Q _ => vs.length = 2 ∧ ∃ f n p, vs = [.ref f, .int n] ∧ IsF K H f p ∧ Q (.int (n % p)) H
def t_Field_fit (K : PySem.W.Frag) : TS := (tRet (tOp oMod (tVar 1) (xFld (He.ga K "Field") (tVar 0) "prime")))
theorem pu_Field_fit {K : PySem.W.Frag} (vs : List V) (H : Hp) (Q : VK) (E : XK) (h : ∃ f n p, vs = [.ref f, .int n] ∧ IsF K H f p ∧ Q (.int (n % p)) H) :
    t_Field_fit K { nx := fun _ H' => Q .non H', rt := Q } (start ["self", "number"] vs) H := by
  obtain ⟨f, n, p, rfl, hf, q⟩ := h
  have hp := hf.pos
  obtain ⟨dx, h1, _⟩ := hf
  walk_at "go"
  exact q
def sp_Field_plus (K : PySem.W.Frag) : Sp := fun vs H Q _ => vs.length = 3 ∧ ∃ f a b p, vs = [.ref f, .int a, .int b] ∧ IsF K H f p ∧ Q (.int ((a + b) % p)) H
def t_Field_plus (K : PySem.W.Frag) : TS := (tRet (xMeth (He.ga K "Field") "fit" (sp_Field_fit K) [] (fun _ => E0) (tVar 0) (tCons (tOp oAdd (tVar 1) (tVar 2)) tNil)))
theorem pu_Field_plus {K : PySem.W.Frag} (vs : List V) (H : Hp) (Q : VK) (E : XK) (h : ∃ f a b p, vs = [.ref f, .int a, .int b] ∧ IsF K H f p ∧ Q (.int ((a + b) % p)) H) :
    t_Field_plus K { nx := fun _ H' => Q .non H', rt := Q } (start ["self", "one", "other"] vs) H := by
  obtain ⟨f, a, b, p, rfl, hf, q⟩ := h
  have hf' := hf
  obtain ⟨dx, h1, _⟩ := hf'
  walk_at "go"
  exact q
def sp_Field_minus (K : PySem.W.Frag) : Sp := fun vs H Q _ => vs.length = 3 ∧ ∃ f a b p, vs = [.ref f, .int a, .int b] ∧ IsF K H f p ∧ Q (.int ((a - b) % p)) H
def t_Field_minus (K : PySem.W.Frag) : TS := (tRet (xMeth (He.ga K "Field") "fit" (sp_Field_fit K) [] (fun _ => E0) (tVar 0) (tCons (tOp oSub (tVar 1) (tVar 2)) tNil)))
theorem pu_Field_minus {K : PySem.W.Frag} (vs : List V) (H : Hp) (Q : VK) (E : XK) (h : ∃ f a b p, vs = [.ref f, .int a, .int b] ∧ IsF K H f p ∧ Q (.int ((a - b) % p)) H) :
    t_Field_minus K { nx := fun _ H' => Q .non H', rt := Q } (start ["self", "one", "other"] vs) H := by
  obtain ⟨f, a, b, p, rfl, hf, q⟩ := h
  have hf' := hf
  obtain ⟨dx, h1, _⟩ := hf'
  walk_at "go"
  exact q
def sp_Field_times (K : PySem.W.Frag) : Sp := fun vs H Q _ => vs.length = 3 ∧ ∃ f a b p, vs = [.ref f, .int a, .int b] ∧ IsF K H f p ∧ CMul a b ∧ Q (.int (a * b % p)) H
def t_Field_times (K : PySem.W.Frag) : TS := (tRet (xMeth (He.ga K "Field") "fit" (sp_Field_fit K) [] (fun _ => E0) (tVar 0) (tCons (tOp oMul (tVar 1) (tVar 2)) tNil)))
theorem pu_Field_times {K : PySem.W.Frag} (vs : List V) (H : Hp) (Q : VK) (E : XK) (h : ∃ f a b p, vs = [.ref f, .int a, .int b] ∧ IsF K H f p ∧ CMul a b ∧ Q (.int (a * b % p)) H) :
    t_Field_times K { nx := fun _ H' => Q .non H', rt := Q } (start ["self", "one", "other"] vs) H := by
  obtain ⟨f, a, b, p, rfl, hf, hc, q⟩ := h
  have hf' := hf
  obtain ⟨dx, h1, _⟩ := hf'
  walk_at "go"
  exact q
/-- numbers of the field -/
abbrev Fd (p n : Int) : Prop := 0 ≤ n ∧ n < p
def sp_Field_back (K : PySem.W.Frag) : Sp := fun vs H Q E => vs.length = 2 ∧ ∃ f n p, vs = [.ref f, .int n] ∧ IsF K H f p ∧ Fd p n ∧
  (n = 0 → E (.ref (He.ga K "NoBack")) none H) ∧ (n ≠ 0 → inv p n * n % p = 1 → ∀ H', Same H H' → Q (.int (inv p n)) H')
def t_Field_back_1 (K : PySem.W.Frag) (E : XK) : TS := (tSeq (tAsg (tCB oDivmod (tCons (tVar 2) (tCons (tVar 3) tNil))) (gTup K 2 (gCons (gName 6) (gCons (gName 7) gNil)))) (tSeq (tPar 2 3 (tCons (tVar 3) (tCons (tVar 7) tNil))) (tPar 4 5 (tCons (tVar 5) (tCons (tOp oSub (tVar 4) (tOp oMul (tVar 6) (tVar 5))) tNil)))))
def t_Field_back_2 (K : PySem.W.Frag) (E : XK) : TS := (tRet (xMeth (He.ga K "Field") "fit" (sp_Field_fit K) [] (fun _ => E) (tVar 0) (tCons (tVar 4) tNil)))
def t_Field_back (K : PySem.W.Frag) (E : XK) : TS := (tSeq (tIfS (tTest (tOp rEq (tVar 1) (tC (.int 0)))) (xRaise (He.ga K "NoBack") E) tNext) (tSeq (tAsg (xFld (He.ga K "Field") (tVar 0) "prime") (gName 2)) (tSeq (tAsg (tVar 1) (gName 3)) (tSeq (tAsg (tC (.int 0)) (gName 4)) (tSeq (tAsg (tC (.int 1)) (gName 5)) (tSeq (tWhile (tTest (tOp oGt (tVar 3) (tC (.int 0)))) (t_Field_back_1 K E)) (t_Field_back_2 K E)))))))
theorem pu_Field_back {K : PySem.W.Frag} (vs : List V) (H : Hp) (Q : VK) (E : XK) (h : ∃ f n p, vs = [.ref f, .int n] ∧ IsF K H f p ∧ Fd p n ∧
  (n = 0 → E (.ref (He.ga K "NoBack")) none H) ∧ (n ≠ 0 → inv p n * n % p = 1 → ∀ H', Same H H' → Q (.int (inv p n)) H')) :
    t_Field_back K E { nx := fun _ H' => Q .non H', rt := Q } (start ["self", "number", "left", "right", "one", "other", "many", "rest"] vs) H := by
  obtain ⟨f, n, p, rfl, hf, hn, q0, q1⟩ := h
  have hp := hf.pos
  have hf' := hf
  obtain ⟨dx, h1, hpr, _⟩ := hf'
  walk_at "go"
  refine iteEq (fun c => q0 c) (fun c => ?_)
  walk_at "go"
  walk_at "nrm"
  refine loopW (fun m σ H' => Same H H' ∧ ∃ (l r o t : Int) (x y : Option V), σ = [some (.ref f), some (.int n), some (.int l), some (.int r), some (.int o), some (.int t), x, y] ∧ 0 ≤ r ∧ r < l ∧ l ≤ p ∧ m = r.toNat ∧
    (o * n - l) % p = 0 ∧ (t * n - r) % p = 0 ∧ ∀ d : Int, 1 ≤ d → l % d = 0 → r % d = 0 → p % d = 0 ∧ n % d = 0) n.toNat ⟨Same.refl H, p, n, 0, 1, none, none, rfl, hn.1, hn.2, Int.le_refl p, rfl, by rw [Int.zero_mul, Int.zero_sub]; exact Int.emod_eq_zero_of_dvd (Int.dvd_neg.mpr (Int.dvd_refl p)), by rw [Int.one_mul, Int.sub_self, Int.zero_emod], fun d _ a b => ⟨a, b⟩⟩ ?_
  rintro m σ H' ⟨hs, l, r, o, t, x, y, rfl, r0, rl, lp, rfl, e1, e2, hd⟩
  walk_at "go"
  refine iteD (fun c1 => turnW ?_) (fun c1 => ?_)
  · have hdm : CDivP l r := divp_ok c1 (by
      have h1 : Builtin.Int.intBits l ≤ 64 := Nat.le_trans (intBits_le_64 (by omega) (by omega)) (by decide : 64 ≤ 64)
      omega)
    have hlr : l / r < 2 ^ 64 ∧ 0 ≤ l / r := ⟨Int.lt_of_le_of_lt (Int.ediv_le_self r (by omega)) (by omega), Int.ediv_nonneg (by omega) r0⟩
    have hcm : CMul (l / r) t := .inl ⟨by omega, hlr.1⟩
    walk_at "go"
    intro T nT
    walk_at "go"
    have m0 := Int.emod_nonneg l (show r ≠ 0 by omega)
    have m1 := Int.emod_lt_of_pos l c1
    refine ⟨⟨_, ?_, hs.trans (same_new nT), r, l % r, t, o - l / r * t, _, _, rfl, m0, m1, by omega, rfl, e2, euc_step e1 e2, fun d d1 a b => ?_⟩⟩
    · omega
    · refine hd d d1 ?_ a
      have q := Int.mul_ediv_add_emod l r
      rw [← q]
      exact Int.emod_eq_zero_of_dvd (Int.dvd_add (Int.dvd_mul_of_dvd_left (Int.dvd_of_emod_eq_zero a)) (Int.dvd_of_emod_eq_zero b))
  · have r00 : r = 0 := by omega
    subst r00
    have hl : l = 1 := by
      obtain ⟨a, b⟩ := hd l (by omega) (by rw [Int.emod_self]) (by rw [Int.zero_emod])
      rcases pr_dvd hpr (by omega) a with z | z
      · exact z
      · rw [z] at b
        rw [Int.emod_eq_of_lt hn.1 hn.2] at b
        exact absurd b c
    subst hl
    have key : o % p * n % p = 1 := by
      have d1 := Int.dvd_of_emod_eq_zero e1
      have : (o * n) % p = 1 % p := Int.emod_eq_emod_iff_emod_sub_eq_zero.mpr e1
      rw [Int.mul_emod, Int.emod_emod, ← Int.mul_emod, this]
      exact Int.emod_eq_of_lt (by omega) (by omega)
    obtain ⟨k1, k2⟩ := inv_of (Int.emod_nonneg o (by omega)) (Int.emod_lt_of_pos o (by omega)) key
    have hf2 := hf.mono hs
    have h12 := hs _ _ h1
    walk_at "nrm"
    unfold t_Field_back_2
    walk_at "go"
    rw [k2]
    exact q1 c k1 H' hs
def sp_Field_over (K : PySem.W.Frag) : Sp := fun vs H Q E => vs.length = 3 ∧ ∃ f a n p, vs = [.ref f, .int a, .int n] ∧ IsF K H f p ∧ Fd p a ∧ Fd p n ∧
  (n = 0 → E (.ref (He.ga K "NoBack")) none H) ∧ (n ≠ 0 → inv p n * n % p = 1 → ∀ H', Same H H' → Q (.int (a * inv p n % p)) H')
def t_Field_over (K : PySem.W.Frag) (E : XK) : TS := (tRet (xMeth (He.ga K "Field") "times" (sp_Field_times K) [] (fun _ => E) (tVar 0) (tCons (tVar 1) (tCons (xMeth (He.ga K "Field") "back" (sp_Field_back K) [] (fun _ => E) (tVar 0) (tCons (tVar 2) tNil)) tNil))))
theorem pu_Field_over {K : PySem.W.Frag} (vs : List V) (H : Hp) (Q : VK) (E : XK) (h : ∃ f a n p, vs = [.ref f, .int a, .int n] ∧ IsF K H f p ∧ Fd p a ∧ Fd p n ∧
  (n = 0 → E (.ref (He.ga K "NoBack")) none H) ∧ (n ≠ 0 → inv p n * n % p = 1 → ∀ H', Same H H' → Q (.int (a * inv p n % p)) H')) :
    t_Field_over K E { nx := fun _ H' => Q .non H', rt := Q } (start ["self", "one", "other"] vs) H := by
  obtain ⟨f, a, n, p, rfl, hf, ha, hn, q0, q1⟩ := h
  have hp := hf.pos
  have hf' := hf
  obtain ⟨dx, h1, hpr, _⟩ := hf'
  walk_at "go"
  intro c k H' hs
  have hf2 := hf.mono hs
  have hc : CMul a (inv p n) := .inl ⟨by omega, by omega⟩
  walk_at "go"
  exact q1 c k H' hs
end Mx

set_option Elab.async false
set_option linter.all false
set_option maxRecDepth 100000
set_option maxHeartbeats 4000000
namespace Mx
open PySem PySem.Spec PyProof.Rows L2 Nt Tb
local macro_rules | `(tactic| walk_at "side") => `(tactic| first
  | assumption
  | rfl
  | exact upd_same
  | exact sqL_new
  | exact ⟨_, sqL_new⟩
  | exact ⟨_, by assumption⟩
  | exact sqT_new
  | exact ⟨_, sqT_new⟩
  | exact ⟨_, sqL_upd (by assumption) (by assumption)⟩
  | exact sqL_upd (by assumption) (by assumption)
  | (refine upd_at ?_ ?_ <;> assumption)
  | exact ty_lst (by assumption)
  | exact ty_lst upd_same
  | exact SqL.of (by assumption)
  | exact .inl (SqL.of (by assumption))
  | exact ⟨_, SqL.of (by assumption)⟩
  | omega
  | exact Nat.le_of_ble_eq_true rfl
  | decide)
local macro_rules | `(tactic| walk_at "go1") => `(tactic| first
  | (fail_if_success (show ∃ W : Nat → Nat → L2.St → Hp → Prop, _)
     fail_if_success (show ∃ W : Nat → L2.St → Hp → Prop, _)
     fail_if_success (show ∃ W : L2.St → Hp → Prop, _)
     apply Exists.intro)
  | (refine And.intro ?_ ?_; (walk_at "side")))
local macro_rules | `(tactic| walk_at "nrm") => `(tactic| dsimp only [tSeq, tAsg, tC, gName, tNext, tIfS, tRet, tDrop, tTest, tB, L2.start, List.map, List.length, List.replicate, List.cons_append, List.nil_append, List.set_cons_zero, List.set_cons_succ])
local macro_rules | `(tactic| walk_at "go") => `(tactic| repeat (walk_at "go1"))
/-! ### rows and tables in a heap -/
abbrev Row (H : Hp) (a : Addr) (xs : List Int) : Prop := H a = some (.lst (xs.map V.int))
structure Rows (H : Hp) (ls : List Addr) (T : List (List Int)) : Prop where
  len : ls.length = T.length
  at_ : ∀ (i : Nat) (l : Addr) (row : List Int), ls[i]? = some l → T[i]? = some row → Row H l row
def TabAt (H : Hp) (a : Addr) (T : List (List Int)) : Prop := ∃ ls : List Addr, H a = some (.lst (ls.map V.ref)) ∧ Rows H ls T
theorem Rows.mono {H H' : Hp} {ls : List Addr} {T : List (List Int)} (r : Rows H ls T) (e : Same H H') : Rows H' ls T := ⟨r.len, fun i l row a b => e _ _ (r.at_ i l row a b)⟩
theorem TabAt.mono {H H' : Hp} {a : Addr} {T : List (List Int)} (r : TabAt H a T) (e : Same H H') : TabAt H' a T := let ⟨ls, h, g⟩ := r; ⟨ls, e _ _ h, g.mono e⟩
theorem TabAt.of_rep {H : Hp} {v : V} {T : List (List Int)} (r : Rep H v (dT T)) : ∃ a, v = .ref a ∧ TabAt H a T := let ⟨a, ls, e, h, l, g⟩ := r.table; ⟨a, e, ls, h, l, g⟩
theorem Rows.row {H : Hp} {ls : List Addr} {T : List (List Int)} (r : Rows H ls T) {i : Nat} (h : i < T.length) : ∃ l, ls[i]? = some l ∧ T[i]? = some (T.getD i []) ∧ Row H l (T.getD i []) := by
  have h2 : i < ls.length := by rw [r.len]; exact h
  exact ⟨ls[i], List.getElem?_eq_getElem h2, at_getD h, r.at_ i _ _ (List.getElem?_eq_getElem h2) (at_getD h)⟩
theorem Rows.refs {H : Hp} {ls : List Addr} {T : List (List Int)} (r : Rows H ls T) {i : Nat} {x : V} (h : (ls.map V.ref)[i]? = some x) : ∃ l, x = .ref l ∧ ls[i]? = some l ∧ i < T.length ∧ Row H l (T.getD i []) := by
  rw [List.getElem?_map] at h
  cases e : ls[i]? with
  | none => rw [e] at h; cases h
  | some l =>
    rw [e] at h; cases h
    have hi : i < T.length := by
      have := (List.getElem?_eq_some_iff.mp e).1
      rw [← r.len]; exact this
    exact ⟨l, rfl, rfl, hi, r.at_ i l _ e (at_getD hi)⟩
theorem ints_at {xs : List Int} {i : Nat} {x : V} (h : (xs.map V.int)[i]? = some x) : i < xs.length ∧ x = .int (xs.getD i 0) ∧ xs[i]? = some (xs.getD i 0) := by
  rw [List.getElem?_map] at h
  cases e : xs[i]? with
  | none => rw [e] at h; cases h
  | some l =>
    rw [e] at h; cases h
    have hi := (List.getElem?_eq_some_iff.mp e).1
    have e2 : xs.getD i 0 = l := by rw [List.getD_eq_getElem?_getD, e]; rfl
    rw [e2]
    exact ⟨hi, rfl, rfl⟩
theorem at_ints {xs : List Int} {i : Int} (h0 : 0 ≤ i) (h : i < xs.length) : atI (xs.map V.int) i = some (.int (xs.getD i.toNat 0)) := by
  have e : xs[i.toNat]? = some (xs.getD i.toNat 0) := by
    rw [List.getD_eq_getElem?_getD, List.getElem?_eq_getElem (by omega)]; rfl
  exact at_of (Int.toNat_of_nonneg h0).symm (by rw [List.getElem?_map, e]; rfl)
theorem at_refs {ls : List Addr} {i : Int} {l : Addr} (h0 : 0 ≤ i) (h : ls[i.toNat]? = some l) : atI (ls.map V.ref) i = some (.ref l) :=
  at_of (Int.toNat_of_nonneg h0).symm (by rw [List.getElem?_map, h]; rfl)
theorem SqLo {K : PySem.W.Frag} {H : Hp} {a : Addr} {xs : List V} (h : SqL K H a xs) : SqL K H a xs ∨ SqT K H a xs := .inl h
theorem getD_of {T : List (List Int)} {i : Nat} {x : List Int} (e : T[i]? = some x) : T.getD i [] = x := by rw [List.getD_eq_getElem?_getD, e]; rfl
theorem getDi_of {T : List Int} {i : Nat} {x : Int} (e : T[i]? = some x) : T.getD i 0 = x := by rw [List.getD_eq_getElem?_getD, e]; rfl
theorem take_map_succ {α β : Type} {A : List α} {i : Nat} {x : α} (f : α → β) (h : A[i]? = some x) : (A.take (i + 1)).map f = (A.take i).map f ++ [f x] := by
  obtain ⟨h1, h2⟩ := List.getElem?_eq_some_iff.mp h
  rw [List.take_succ_eq_append_getElem h1, List.map_append, h2]
  rfl
/-! ### sums -/
abbrev In (p : Int) (xs : List Int) : Prop := ∀ x ∈ xs, 0 ≤ x ∧ x < p
def sp_sum_over (K : PySem.W.Frag) : Sp := fun vs H Q _ => vs.length = 3 ∧ ∃ (f a b : Addr) (p : Int) (xs ys : List Int), vs = [.ref f, .ref a, .ref b] ∧ IsF K H f p ∧ Row H a xs ∧ Row H b ys ∧ In p xs ∧ ∀ H', Same H H' → Q (.int (dot xs ys % p)) H'
def t_sum_over_1 (K : PySem.W.Frag) : TS := (tAsg (xMeth (He.ga K "Field") "plus" (sp_Field_plus K) [] (fun _ => E0) (tVar 0) (tCons (tVar 3) (tCons (xMeth (He.ga K "Field") "times" (sp_Field_times K) [] (fun _ => E0) (tVar 0) (tCons (tVar 4) (tCons (tVar 5) tNil))) tNil))) (gName 3))
def t_sum_over_2 (K : PySem.W.Frag) : TS := (tRet (tVar 3))
def t_sum_over (K : PySem.W.Frag) : TS := (tSeq (tAsg (tC (.int 0)) (gName 3)) (tSeq (tFor (iZip K (tCons (tVar 1) (tCons (tVar 2) tNil))) (gTup K 2 (gCons (gName 4) (gCons (gName 5) gNil))) (t_sum_over_1 K)) (t_sum_over_2 K)))
theorem pu_sum_over {K : PySem.W.Frag} (vs : List V) (H : Hp) (Q : VK) (E : XK) (h : ∃ (f a b : Addr) (p : Int) (xs ys : List Int), vs = [.ref f, .ref a, .ref b] ∧ IsF K H f p ∧ Row H a xs ∧ Row H b ys ∧ In p xs ∧ ∀ H', Same H H' → Q (.int (dot xs ys % p)) H') :
    t_sum_over K { nx := fun _ H' => Q .non H', rt := Q } (start ["field", "one", "other", "whole", "left", "right"] vs) H := by
  obtain ⟨f, a, b, p, xs, ys, rfl, hf, ha, hb, hx, q⟩ := h
  have hp := hf.pos
  have sa : SqL K H a (xs.map V.int) := SqL.of ha
  have sb : SqL K H b (ys.map V.int) := SqL.of hb
  have hf' := hf
  obtain ⟨dx, h1, _⟩ := hf'
  walk_at "go"
  refine loop2 (walk_zip (xs := xs.map V.int) (ys := ys.map V.int) rfl) 4 5 (fun i σ H' => Same H H' ∧ ∃ x4 x5, σ = [some (.ref f), some (.ref a), some (.ref b), some (.int (dot (xs.take i) (ys.take i) % p)), x4, x5]) ⟨Same.refl H, none, none, by rw [show dot (xs.take 0) (ys.take 0) % p = 0 from Int.zero_emod p]; rfl⟩ (fun i σ H' _ h => ⟨h.1.seq sa, h.1.seq sb⟩) ?_ ?_
  · rintro i x y σ H1 H2 hi ⟨s1, x4, x5, rfl⟩ hxi hyi s2
    obtain ⟨i1, rfl, ex⟩ := ints_at hxi
    obtain ⟨i2, rfl, ey⟩ := ints_at hyi
    have s12 := s1.trans s2
    have hf2 := hf.mono s12
    have h12 := s12 _ _ h1
    have rx := hx _ (Tb.getD_mem i1)
    have mm : CMul (xs.getD i 0) (ys.getD i 0) := .inl ⟨by omega, by omega⟩
    unfold t_sum_over_1
    walk_at "go"
    refine ⟨s12, some (.int (xs.getD i 0)), some (.int (ys.getD i 0)), ?_⟩
    rw [dot_take ex ey, Int.add_emod (dot (xs.take i) (ys.take i)) _ p]
    rfl
  · rintro σ H' ⟨s1, x4, x5, rfl⟩
    unfold t_sum_over_2
    walk_at "go"
    rw [List.length_map, List.length_map, dot_min]
    exact q H' s1
def timesR (p : Int) (T : List (List Int)) (ys : List Int) : List Int := T.map fun r => dot r ys % p
def sp_times_row (K : PySem.W.Frag) : Sp := fun vs H Q _ => vs.length = 3 ∧ ∃ (f t b : Addr) (p : Int) (T : List (List Int)) (ys : List Int), vs = [.ref f, .ref t, .ref b] ∧ IsF K H f p ∧ TabAt H t T ∧ Row H b ys ∧ (∀ r ∈ T, In p r) ∧ T.length < sizeLine ∧
  ∀ H' r, Same H H' → H r = none → Row H' r (timesR p T ys) → Q (.ref r) H'
def t_times_row (K : PySem.W.Frag) : TS := (tRet (tLc (iList K (tVar 1)) (gName 4) tYes (tCallSD (sp_sum_over K) [] (fun _ => E0) (tCons (tVar 0) (tCons (tVar 4) (tCons (tVar 2) tNil)))) [3, 4]))
theorem pu_times_row {K : PySem.W.Frag} (vs : List V) (H : Hp) (Q : VK) (E : XK) (h : ∃ (f t b : Addr) (p : Int) (T : List (List Int)) (ys : List Int), vs = [.ref f, .ref t, .ref b] ∧ IsF K H f p ∧ TabAt H t T ∧ Row H b ys ∧ (∀ r ∈ T, In p r) ∧ T.length < sizeLine ∧
    ∀ H' r, Same H H' → H r = none → Row H' r (timesR p T ys) → Q (.ref r) H') :
    t_times_row K { nx := fun _ H' => Q .non H', rt := Q } (start ["field", "table", "row", ".0", "line"] vs) H := by
  obtain ⟨f, t, b, p, T, ys, rfl, hf, ⟨ls, ht, hr⟩, hb, hT, hz, q⟩ := h
  have st : SqL K H t (ls.map V.ref) := SqL.of ht
  walk_at "go"
  refine lcA (walk_list (xs := ls.map V.ref)) (fun i => .int (dot (T.getD i []) ys % p)) (by rw [List.length_map, hr.len]; exact hz) (fun H' s => s.seq st) ?_ ?_
  · rintro i x H1 _ F hi s1 ⟨rfl, hx⟩ hF
    obtain ⟨l, rfl, hl, hi, hrow⟩ := hr.refs hx
    refine ⟨rfl, ?_⟩
    have hf1 := hf.mono s1
    have hrow1 := s1 _ _ hrow
    have hb1 := s1 _ _ hb
    have hin := hT _ (List.mem_of_getElem? (at_getD hi))
    walk_at "go"
    exact fun H2 s2 => hF H2 s2
  · intro r H' nr s1 e1
    refine q H' r s1 nr ?_
    show H' r = _
    rw [e1, List.length_map, hr.len, givn_listA T (fun r => V.int (dot r ys % p)) _ (fun i x e => by rw [getD_of e])]
    unfold timesR
    rw [List.map_map]
    rfl
def sp_product (K : PySem.W.Frag) : Sp := fun vs H Q _ => vs.length = 3 ∧ ∃ (f a b : Addr) (p : Int) (A B : List (List Int)) (w : Nat), vs = [.ref f, .ref a, .ref b] ∧ IsF K H f p ∧ TabAt H a A ∧ TabAt H b B ∧ (∀ r ∈ A, In p r) ∧ 0 < B.length ∧ (∀ r ∈ B, r.length = w) ∧
  A.length < sizeLine ∧ B.length < sizeLine ∧ w < 1000 ∧ ∀ H' r, Same H H' → New H H' (.ref r) (dT (mulT p A B)) → Q (.ref r) H'
def t_product_1 (K : PySem.W.Frag) : TS := (tDrop (tBM K "list" rAppend (tVar 3) (tCons (tLc (iRng1 (tCons (tCB (oLen K) (tCons (tOp (rIxL K) (tVar 2) (tC (.int 0))) tNil)) tNil)) (gName 6) tYes (tCallSD (sp_sum_over K) [] (fun _ => E0) (tCons (tVar 0) (tCons (tVar 4) (tCons (tLc (iList K (tVar 2)) (gName 7) tYes (tOp (rIxL K) (tVar 7) (tVar 6)) [5, 7]) tNil)))) [5, 6]) tNil)))
def t_product_2 (K : PySem.W.Frag) : TS := (tRet (tVar 3))
def t_product (K : PySem.W.Frag) : TS := (tSeq (tAsg (tLst tNil) (gName 3)) (tSeq (tFor (iList K (tVar 1)) (gName 4) (t_product_1 K)) (t_product_2 K)))
theorem pu_product {K : PySem.W.Frag} (vs : List V) (H : Hp) (Q : VK) (E : XK) (h : ∃ (f a b : Addr) (p : Int) (A B : List (List Int)) (w : Nat), vs = [.ref f, .ref a, .ref b] ∧ IsF K H f p ∧ TabAt H a A ∧ TabAt H b B ∧ (∀ r ∈ A, In p r) ∧ 0 < B.length ∧ (∀ r ∈ B, r.length = w) ∧
    A.length < sizeLine ∧ B.length < sizeLine ∧ w < 1000 ∧ ∀ H' r, Same H H' → New H H' (.ref r) (dT (mulT p A B)) → Q (.ref r) H') :
    t_product K { nx := fun _ H' => Q .non H', rt := Q } (start ["field", "one", "other", "found", "line", ".0", "k", "row"] vs) H := by
  obtain ⟨f, a, b, p, A, B, w, rfl, hf, ⟨ls, ha, hA⟩, ⟨ms, hb, hB⟩, hT, hB0, hBw, hzA, hzB, hw, q⟩ := h
  have sa : SqL K H a (ls.map V.ref) := SqL.of ha
  have sb : SqL K H b (ms.map V.ref) := SqL.of hb
  have h10 : (1000 : Nat) < sizeLine := by decide
  walk_at "go"
  intro o no
  walk_at "go"
  have eh : B.headD [] = B.getD 0 [] := by cases B <;> rfl
  refine loop1 (walk_list (xs := ls.map V.ref)) 4 (fun i σ H' => Same H H' ∧ ∃ x4 vs, AccL H H' o vs (((A.take i).map fun line => (List.range w).map fun k => dot line (col B k) % p).map dI) ∧ σ = [some (.ref f), some (.ref a), some (.ref b), some (.ref o), x4, none, none, none]) ⟨same_new no, none, [], AccL.start no, rfl⟩ (fun i σ H' _ h => h.1.seq sa) ?_ ?_
  · rintro i x σ _ H1 hi ⟨s1, x4, vs, ac, rfl⟩ ⟨rfl, hx⟩
    obtain ⟨l, rfl, hl, hi, hrow⟩ := hA.refs hx
    obtain ⟨m0, hm0, _, hrow0⟩ := hB.row hB0
    have hlen : (B.getD 0 []).length = w := hBw _ (List.mem_of_getElem? (at_getD hB0))
    have sb1 := s1.seq sb
    have sm1 : SqL K H1 m0 ((B.getD 0 []).map V.int) := SqL.of (s1 _ _ hrow0)
    have sm1o := SqLo sm1
    have e0 : atI (ms.map V.ref) 0 = some (.ref m0) := at_refs (by omega) hm0
    have hat := ac.at_
    have hl2 : ((B.getD 0 []).map V.int).length = w := by rw [List.length_map, hlen]
    unfold t_product_1
    walk_at "go"
    refine lcA walk_range (fun k => .int (dot (A.getD i []) (col B k) % p)) (show ((B.getD 0 []).map V.int).length < sizeLine by rw [List.length_map, hlen]; omega) (fun _ _ => trivial) ?_ ?_
    · rintro k y _ H2 F hk s2 ⟨rfl, rfl⟩ hF
      rw [List.length_map, hlen] at hk
      refine ⟨rfl, ?_⟩
      have s12 := s1.trans s2
      have sb2 := s12.seq sb
      walk_at "go"
      refine lcA (walk_list (xs := ms.map V.ref)) (fun j => .int ((B.getD j []).getD k 0)) (by rw [List.length_map, hB.len]; exact hzB) (fun H' s => s.seq sb2) ?_ ?_
      · rintro j z _ H3 F3 hj s3 ⟨rfl, hz⟩ hF3
        obtain ⟨m, rfl, hm, hj, hrowj⟩ := hB.refs hz
        have hwj : (B.getD j []).length = w := hBw _ (List.mem_of_getElem? (at_getD hj))
        have sm3 : SqL K H3 m ((B.getD j []).map V.int) := SqL.of (s3 _ _ (s12 _ _ hrowj))
        have e1 : atI ((B.getD j []).map V.int) (0 + (k : Int)) = some (.int ((B.getD j []).getD k 0)) := by
          have := at_ints (xs := B.getD j []) (i := 0 + (k : Int)) (by omega) (by omega)
          rw [show (0 + (k : Int)).toNat = k by omega] at this
          exact this
        refine ⟨rfl, ?_⟩
        walk_at "go"
        exact hF3 _ (Same.refl _)
      · intro c H3 nc s3 ec
        have s13 := s12.trans s3
        have hcol : Row H3 c (col B k) := by
          show H3 c = _
          rw [ec, List.length_map, hB.len, givn_listA B (fun r => V.int (r.getD k 0)) _ (fun j x e => by rw [getD_of e])]
          unfold col
          rw [List.map_map]
          rfl
        have hf3 := hf.mono s13
        have hrow3 := s13 _ _ hrow
        have hin := hT _ (List.mem_of_getElem? (at_getD hi))
        walk_at "go"
        exact fun H4 s4 => hF H4 (s3.trans s4)
    · intro c H2 nc s2 ec
      rw [List.length_map, hlen, givn_all] at ec
      have hat2 := s2 _ _ hat
      have hlv : vs.length < sizeLine := by
        rw [ac.len, List.length_map, List.length_map, List.length_take]
        omega
      walk_at "go"
      refine ⟨same_mut (s1.trans s2) no, some (.ref l), vs ++ [.ref c], ?_, rfl⟩
      rw [take_map_succ _ (at_getD hi), List.map_append]
      refine ac.push s2 s1 (New.ints nc ?_)
      rw [ec, List.map_map]
      rfl
  · rintro σ H' ⟨s1, x4, vs, ac, rfl⟩
    unfold t_product_2
    walk_at "go"
    refine q H' o s1 ?_
    have := ac.toNew
    rw [List.length_map, hA.len, List.take_length] at this
    unfold mulT
    rw [eh, hBw _ (List.mem_of_getElem? (at_getD hB0))]
    exact this
def sp_ones (K : PySem.W.Frag) : Sp := fun vs H Q _ => vs.length = 1 ∧ ∃ (n : Nat), vs = [.int n] ∧ n < 1000 ∧ ∀ H' r, Same H H' → New H H' (.ref r) (dT (onesT n)) → Q (.ref r) H'
def t_ones (K : PySem.W.Frag) : TS := (tRet (tLc (iRng1 (tCons (tVar 0) tNil)) (gName 2) tYes (tLc (iRng1 (tCons (tVar 0) tNil)) (gName 3) tYes (tIf (tTest (tOp rEq (tVar 2) (tVar 3))) (tC (.int 1)) (tC (.int 0))) [1, 3]) [1, 2]))
theorem pu_ones {K : PySem.W.Frag} (vs : List V) (H : Hp) (Q : VK) (E : XK) (h : ∃ (n : Nat), vs = [.int n] ∧ n < 1000 ∧ ∀ H' r, Same H H' → New H H' (.ref r) (dT (onesT n)) → Q (.ref r) H') :
    t_ones K { nx := fun _ H' => Q .non H', rt := Q } (start ["many", ".0", "k", "place"] vs) H := by
  obtain ⟨n, rfl, hn, q⟩ := h
  have h10 : (1000 : Nat) < sizeLine := by decide
  walk_at "go"
  refine lcN walk_range (fun k => dI ((List.range n).map fun j => if k = j then 1 else 0)) (show n < sizeLine by omega) (fun _ _ => trivial) ?_ ?_
  · rintro k x _ H1 F hk s1 ⟨rfl, rfl⟩ hF
    refine ⟨rfl, ?_⟩
    walk_at "go"
    refine lcA walk_range (fun j => .int (if k = j then 1 else 0)) (show n < sizeLine by omega) (fun _ _ => trivial) ?_ ?_
    · rintro j y _ H2 F2 hj s2 ⟨rfl, rfl⟩ hF2
      refine ⟨rfl, ?_⟩
      walk_at "go"
      refine iteEq (fun c => ?_) (fun c => ?_)
      · rw [if_pos (by omega)] at hF2
        exact hF2 _ (Same.refl _)
      · rw [if_neg (by omega)] at hF2
        exact hF2 _ (Same.refl _)
    · intro p H2 np s2 e2
      refine hF _ _ s2 (New.ints np ?_)
      have e2 : H2 p = some (.lst (givn (fun _ => true) (fun j => V.int (if k = j then 1 else 0)) n)) := e2
      rw [e2, givn_all, List.map_map]
      rfl
  · intro p H2 s2 nw
    refine q H2 p s2 ?_
    have nw : New H H2 (.ref p) (.lst (givn (fun _ => true) (fun k => dI ((List.range n).map fun j => if k = j then 1 else 0)) n)) := nw
    rw [givn_all] at nw
    unfold dT onesT
    rw [List.map_map]
    exact nw
def sp_less_row (K : PySem.W.Frag) : Sp := fun vs H Q _ => vs.length = 4 ∧ ∃ (f a b : Addr) (p m : Int) (xs ys : List Int), vs = [.ref f, .ref a, .int m, .ref b] ∧ IsF K H f p ∧ Row H a xs ∧ Row H b ys ∧ (0 ≤ m ∧ m < p) ∧ xs.length < sizeLine ∧
  ∀ H' r, Same H H' → H r = none → Row H' r (lessR p m xs ys) → Q (.ref r) H'
def t_less_row (K : PySem.W.Frag) : TS := (tRet (tLc (iZip K (tCons (tVar 1) (tCons (tVar 3) tNil))) (gTup K 2 (gCons (gName 5) (gCons (gName 6) gNil))) tYes (xMeth (He.ga K "Field") "minus" (sp_Field_minus K) [] (fun _ => E0) (tVar 0) (tCons (tVar 5) (tCons (xMeth (He.ga K "Field") "times" (sp_Field_times K) [] (fun _ => E0) (tVar 0) (tCons (tVar 2) (tCons (tVar 6) tNil))) tNil))) [4, 5, 6]))
theorem pu_less_row {K : PySem.W.Frag} (vs : List V) (H : Hp) (Q : VK) (E : XK) (h : ∃ (f a b : Addr) (p m : Int) (xs ys : List Int), vs = [.ref f, .ref a, .int m, .ref b] ∧ IsF K H f p ∧ Row H a xs ∧ Row H b ys ∧ (0 ≤ m ∧ m < p) ∧ xs.length < sizeLine ∧
    ∀ H' r, Same H H' → H r = none → Row H' r (lessR p m xs ys) → Q (.ref r) H') :
    t_less_row K { nx := fun _ H' => Q .non H', rt := Q } (start ["field", "row", "many", "other", ".0", "left", "right"] vs) H := by
  obtain ⟨f, a, b, p, m, xs, ys, rfl, hf, ha, hb, hm, hz, q⟩ := h
  have hp := hf.pos
  have sa : SqL K H a (xs.map V.int) := SqL.of ha
  have sb : SqL K H b (ys.map V.int) := SqL.of hb
  have hf' := hf
  obtain ⟨dx, h1, _⟩ := hf'
  have hmin : min (xs.map V.int).length (ys.map V.int).length < sizeLine := by
    rw [List.length_map, List.length_map]; omega
  walk_at "go"
  refine lcA (walk_zip (xs := xs.map V.int) (ys := ys.map V.int) rfl) (fun i => .int ((xs.getD i 0 - m * ys.getD i 0 % p) % p)) hmin (fun H' s => ⟨s.seq sa, s.seq sb⟩) ?_ ?_
  · rintro i x H1 H2 F hi s1 hy hF
    obtain ⟨T, x1, y1, rfl, nT, rfl, e1, e2⟩ := hy
    obtain ⟨i1, rfl, ex⟩ := ints_at e1
    obtain ⟨i2, rfl, ey⟩ := ints_at e2
    have s2 := same_new (o := .tup [.int (xs.getD i 0), .int (ys.getD i 0)]) nT
    have s12 := s1.trans s2
    have hf2 := hf.mono s12
    have h12 := s12 _ _ h1
    have mm : CMul m (ys.getD i 0) := .inl ⟨by omega, by omega⟩
    walk_at "go"
    exact hF _ s2
  · intro p' H2 np s2 e2
    refine q H2 p' s2 np ?_
    show H2 p' = _
    rw [e2, List.length_map, List.length_map, givn_all, ← lessR_eq, List.map_map]
    rfl
def sp_first_with (K : PySem.W.Frag) : Sp := fun vs H Q _ => vs.length = 3 ∧ ∃ (a : Addr) (L : List (List Int)) (d j : Nat), vs = [.ref a, .int d, .int j] ∧ TabAt H a L ∧ (∀ r ∈ L, j < r.length) ∧ L.length < 1000 ∧ d ≤ L.length ∧
  (firstW L d j = none → Q .non H) ∧ (∀ k : Nat, firstW L d j = some k → Q (.int k) H)
def t_first_with_1 (K : PySem.W.Frag) : TS := (tIfS (tTest (tOp rNe (tOp (rIxL K) (tOp (rIxL K) (tVar 0) (tVar 3)) (tVar 2)) (tC (.int 0)))) (tRet (tVar 3)) tNext)
def t_first_with_2 (K : PySem.W.Frag) : TS := (tRet (tC .non))
def t_first_with (K : PySem.W.Frag) : TS := (tSeq (tFor (iRng2 (tCons (tVar 1) (tCons (tCB (oLen K) (tCons (tVar 0) tNil)) tNil))) (gName 3) (t_first_with_1 K)) (t_first_with_2 K))
theorem pu_first_with {K : PySem.W.Frag} (vs : List V) (H : Hp) (Q : VK) (E : XK) (h : ∃ (a : Addr) (L : List (List Int)) (d j : Nat), vs = [.ref a, .int d, .int j] ∧ TabAt H a L ∧ (∀ r ∈ L, j < r.length) ∧ L.length < 1000 ∧ d ≤ L.length ∧
    (firstW L d j = none → Q .non H) ∧ (∀ k : Nat, firstW L d j = some k → Q (.int k) H)) :
    t_first_with K { nx := fun _ H' => Q .non H', rt := Q } (start ["rows", "done", "place", "k"] vs) H := by
  obtain ⟨a, L, d, j, rfl, ⟨ls, ha, hL⟩, hj, hn, hd, q0, q1⟩ := h
  have sa : SqL K H a (ls.map V.ref) := SqL.of ha
  have sao := SqLo sa
  have hl2 : (ls.map V.ref).length = L.length := by rw [List.length_map, hL.len]
  walk_at "go"
  refine loop1 (walk_range (lo := (d : Int)) (n := (((ls.map V.ref).length : Int) - (d : Int)).toNat)) 3 (fun i σ H' => H' = H ∧ (∀ k, d ≤ k → k < d + i → g2 L k j = 0) ∧ ∃ x3, σ = [some (.ref a), some (.int d), some (.int j), x3]) ⟨rfl, fun k h1 h2 => by omega, none, rfl⟩ (fun _ _ _ _ _ => trivial) ?_ ?_
  · rintro i x σ _ H1 hi ⟨rfl, hz, x3, rfl⟩ ⟨rfl, rfl⟩
    rw [hl2] at hi
    have hk : d + i < L.length := by omega
    obtain ⟨l, hl, _, hrow⟩ := hL.row hk
    have hw := hj _ (List.mem_of_getElem? (at_getD hk))
    have sl : SqL K H1 l ((L.getD (d + i) []).map V.int) := SqL.of hrow
    have e1 : atI (ls.map V.ref) ((d : Int) + (i : Int)) = some (.ref l) := at_refs (by omega) (by rw [show ((d : Int) + (i : Int)).toNat = d + i by omega]; exact hl)
    have e2 : atI ((L.getD (d + i) []).map V.int) (j : Int) = some (.int (g2 L (d + i) j)) := at_ints (by omega) (by omega)
    unfold t_first_with_1
    walk_at "go"
    refine iteNe (fun c => ?_) (fun c => ?_)
    · have q := q1 (d + i) (firstW_is (by omega) hk c fun k h1 h2 => hz k h1 h2)
      rw [Int.natCast_add] at q
      walk_at "go"
      exact q
    · walk_at "go"
      refine ⟨rfl, fun k h1 h2 => ?_, _, rfl⟩
      by_cases e : k = d + i
      · rw [e]; exact c
      · exact hz k h1 (by omega)
  · rintro σ _ ⟨rfl, hz, x3, rfl⟩
    rw [hl2] at hz
    unfold t_first_with_2
    walk_at "go"
    exact q0 (firstW_no fun k h1 h2 => hz k h1 (by omega))
/-! ### cleared tables -/
/-- the object c made since H0: what its lists hold -/
structure IsC (K : PySem.W.Frag) (H0 H : Hp) (c f L M Pl : Addr) (s : Cl) : Prop where
  obj : ∃ dx, H c = some (.ins (He.ga K "Cleared") dx [("field", .ref f), ("lines", .ref L), ("made_of", .ref M), ("places", .ref Pl)])
  lin : ∃ ls : List Addr, H L = some (.lst (ls.map V.ref)) ∧ Rows H ls s.lines ∧ ∀ l ∈ ls, l ≠ L ∧ l ≠ M ∧ l ≠ Pl
  mad : ∃ ms : List Addr, H M = some (.lst (ms.map V.ref)) ∧ Rows H ms s.made ∧ ms.Nodup ∧ ∀ l ∈ ms, l ≠ L ∧ l ≠ M ∧ l ≠ Pl ∧ H0 l = none
  pls : H Pl = some (.lst (s.places.map fun (q : Nat) => V.int q))
  fre : H0 L = none ∧ H0 M = none ∧ H0 Pl = none
  dif : L ≠ M ∧ L ≠ Pl ∧ M ≠ Pl
theorem IsC.mono {K : PySem.W.Frag} {H0 H H' : Hp} {c f L M Pl : Addr} {s : Cl} (i : IsC K H0 H c f L M Pl s) (e : Same H H') : IsC K H0 H' c f L M Pl s :=
  let ⟨⟨dx, a⟩, ⟨ls, b1, b2, b3⟩, ⟨ms, c1, c2, c3, c4⟩, d, f, g⟩ := i
  ⟨⟨dx, e _ _ a⟩, ⟨ls, e _ _ b1, b2.mono e, b3⟩, ⟨ms, e _ _ c1, c2.mono e, c3, c4⟩, e _ _ d, f, g⟩
theorem ne_kind {H : Hp} {a b : Addr} {o u : HO} (h : H a = some o) (g : H b = some u) (n : o ≠ u) : a ≠ b := fun z => n (by rw [z, g] at h; exact (Option.some.inj h).symm)
theorem Rows.upd {H : Hp} {ls : List Addr} {T : List (List Int)} {a : Addr} {o : HO} (r : Rows H ls T) (h : ∀ l ∈ ls, l ≠ a) : Rows (upd H a o) ls T :=
  ⟨r.len, fun i l row e1 e2 => upd_atN (h l (List.mem_of_getElem? e1)) (r.at_ i l row e1 e2)⟩
/-- one row put in place -/
theorem Rows.set {H : Hp} {ls : List Addr} {T : List (List Int)} {i : Nat} {l : Addr} {row : List Int} (r : Rows H ls T) (h : Row H l row) : Rows H (ls.set i l) (T.set i row) := by
  refine ⟨by rw [List.length_set, List.length_set]; exact r.len, fun k l' row' e1 e2 => ?_⟩
  rw [List.getElem?_set] at e1 e2
  by_cases e : i = k
  · subst e
    rw [if_pos rfl] at e1 e2
    rw [r.len] at e1
    by_cases z : i < T.length
    · rw [if_pos z] at e1 e2
      cases e1; cases e2
      exact h
    · rw [if_neg z] at e1; cases e1
  · rw [if_neg e] at e1 e2
    exact r.at_ k l' row' e1 e2
theorem same_mutN {H H' : Hp} {a : Addr} {o : HO} (e : Same H H') (h : H a = none) : Same H (upd H' a o) := same_mut e h
/-- the rows' list written anew -/
theorem IsC.setL {K : PySem.W.Frag} {H0 H : Hp} {c f L M Pl : Addr} {s : Cl} (i : IsC K H0 H c f L M Pl s) {ls : List Addr} {T : List (List Int)} (hr : Rows H ls T) (hn : ∀ l ∈ ls, l ≠ L ∧ l ≠ M ∧ l ≠ Pl) : IsC K H0 (upd H L (.lst (ls.map V.ref))) c f L M Pl ⟨T, s.made, s.places⟩ := by
  obtain ⟨⟨dx, a⟩, ⟨ls', b1, b2, b3⟩, ⟨ms, c1, c2, c3, c4⟩, d, fr, g⟩ := i
  have hc : c ≠ L := ne_kind a b1 (fun z => by cases z)
  exact ⟨⟨dx, upd_atN hc a⟩, ⟨ls, upd_same, hr.upd fun l hl => (hn l hl).1, hn⟩, ⟨ms, upd_atN (Ne.symm g.1) c1, c2.upd fun l hl => (c4 l hl).1, c3, c4⟩, upd_atN (Ne.symm g.2.1) d, fr, g⟩
theorem IsC.setM {K : PySem.W.Frag} {H0 H : Hp} {c f L M Pl : Addr} {s : Cl} (i : IsC K H0 H c f L M Pl s) {ls : List Addr} {T : List (List Int)} (hr : Rows H ls T) (nd : ls.Nodup) (hn : ∀ l ∈ ls, l ≠ L ∧ l ≠ M ∧ l ≠ Pl ∧ H0 l = none) : IsC K H0 (upd H M (.lst (ls.map V.ref))) c f L M Pl ⟨s.lines, T, s.places⟩ := by
  obtain ⟨⟨dx, a⟩, ⟨ls', b1, b2, b3⟩, ⟨ms, c1, c2, c3, c4⟩, d, fr, g⟩ := i
  have hc : c ≠ M := ne_kind a c1 (fun z => by cases z)
  exact ⟨⟨dx, upd_atN hc a⟩, ⟨ls', upd_atN g.1 b1, b2.upd fun l hl => (b3 l hl).2.1, b3⟩, ⟨ls, upd_same, hr.upd fun l hl => (hn l hl).2.1, nd, hn⟩, upd_atN (Ne.symm g.2.2) d, fr, g⟩
theorem IsC.setP {K : PySem.W.Frag} {H0 H : Hp} {c f L M Pl : Addr} {s : Cl} (i : IsC K H0 H c f L M Pl s) {ps : List Nat} : IsC K H0 (upd H Pl (.lst (ps.map fun (q : Nat) => V.int q))) c f L M Pl ⟨s.lines, s.made, ps⟩ := by
  obtain ⟨⟨dx, a⟩, ⟨ls', b1, b2, b3⟩, ⟨ms, c1, c2, c3, c4⟩, d, fr, g⟩ := i
  have hc : c ≠ Pl := ne_kind a d (fun z => by cases z)
  exact ⟨⟨dx, upd_atN hc a⟩, ⟨ls', upd_atN g.2.1 b1, b2.upd fun l hl => (b3 l hl).2.2, b3⟩, ⟨ms, upd_atN g.2.2 c1, c2.upd fun l hl => (c4 l hl).2.2.1, c3, c4⟩, upd_same, fr, g⟩
/-- a new row put in place -/
theorem IsC.putL {K : PySem.W.Frag} {H0 H : Hp} {c f L M Pl : Addr} {s : Cl} {ls : List Addr} {i : Nat} {l : Addr} {row : List Int} (I : IsC K H0 H c f L M Pl s) (e : H L = some (.lst (ls.map V.ref))) (h : Row H l row) (hl : l ≠ L ∧ l ≠ M ∧ l ≠ Pl) :
    IsC K H0 (upd H L (.lst ((ls.map V.ref).set i (.ref l)))) c f L M Pl ⟨s.lines.set i row, s.made, s.places⟩ := by
  obtain ⟨ls', b1, b2, b3⟩ := I.lin
  have : ls.map V.ref = ls'.map V.ref := by rw [e] at b1; injection b1 with z; injection z
  have : ls = ls' := (List.map_inj_right fun _ _ z => V.ref.inj z).mp this
  subst this
  have := I.setL (b2.set (i := i) h) fun x hx => by
    rcases List.mem_or_eq_of_mem_set hx with hx | rfl
    · exact b3 x hx
    · exact hl
  rw [List.map_set] at this
  exact this
theorem nodup_set {ls : List Addr} {i : Nat} {l : Addr} (h : ls.Nodup) (hl : l ∉ ls) : (ls.set i l).Nodup := by
  refine List.nodup_iff_pairwise_ne.mpr (List.pairwise_iff_getElem.mpr fun a b ha hb hab => ?_)
  rw [List.length_set] at ha hb
  rw [List.getElem_set, List.getElem_set]
  have hp := List.pairwise_iff_getElem.mp (List.nodup_iff_pairwise_ne.mp h) a b ha hb hab
  by_cases e1 : i = a
  · rw [if_pos e1, if_neg (by omega)]
    exact fun z => hl (z ▸ List.getElem_mem _)
  · rw [if_neg e1]
    by_cases e2 : i = b
    · rw [if_pos e2]
      exact fun z => hl (z ▸ List.getElem_mem _)
    · rw [if_neg e2]; exact hp
theorem IsC.putM {K : PySem.W.Frag} {H0 H : Hp} {c f L M Pl : Addr} {s : Cl} {ls : List Addr} {i : Nat} {l : Addr} {row : List Int} (I : IsC K H0 H c f L M Pl s) (e : H M = some (.lst (ls.map V.ref))) (h : Row H l row) (hn : l ∉ ls) (hl : l ≠ L ∧ l ≠ M ∧ l ≠ Pl ∧ H0 l = none) :
    IsC K H0 (upd H M (.lst ((ls.map V.ref).set i (.ref l)))) c f L M Pl ⟨s.lines, s.made.set i row, s.places⟩ := by
  obtain ⟨ls', b1, b2, b4, b3⟩ := I.mad
  have : ls.map V.ref = ls'.map V.ref := by rw [e] at b1; injection b1 with z; injection z
  have : ls = ls' := (List.map_inj_right fun _ _ z => V.ref.inj z).mp this
  subst this
  have := I.setM (b2.set (i := i) h) (nodup_set b4 hn) fun x hx => by
    rcases List.mem_or_eq_of_mem_set hx with hx | rfl
    · exact b3 x hx
    · exact hl
  rw [List.map_set] at this
  exact this
/-- what is new is none of its lists -/
theorem IsC.new {K : PySem.W.Frag} {H0 H : Hp} {c f L M Pl : Addr} {s : Cl} (I : IsC K H0 H c f L M Pl s) (e : Same H0 H) {l : Addr} (n : H l = none) : l ≠ L ∧ l ≠ M ∧ l ≠ Pl ∧ H0 l = none := by
  obtain ⟨ls, b1, _⟩ := I.lin
  obtain ⟨ms, c1, _⟩ := I.mad
  exact ⟨(ne_of_none b1 n).symm, (ne_of_none c1 n).symm, (ne_of_none I.pls n).symm, e.free n⟩
theorem Rows.get {H : Hp} {ls : List Addr} {T : List (List Int)} (r : Rows H ls T) {i : Nat} {row : List Int} (h : T[i]? = some row) : ∃ l, ls[i]? = some l ∧ Row H l row := by
  have h2 : i < ls.length := by rw [r.len]; exact (List.getElem?_eq_some_iff.mp h).1
  exact ⟨ls[i], List.getElem?_eq_getElem h2, r.at_ i _ _ (List.getElem?_eq_getElem h2) h⟩
theorem Rows.ex {H : Hp} {ls : List Addr} {T : List (List Int)} (r : Rows H ls T) {l : Addr} (h : l ∈ ls) : ∃ o, H l = some o := by
  obtain ⟨i, hi⟩ := List.getElem?_of_mem h
  have h2 : i < T.length := by rw [← r.len]; exact (List.getElem?_eq_some_iff.mp hi).1
  exact ⟨_, r.at_ i l _ hi (at_getD h2)⟩
theorem ixN_of {n k : Nat} (h : k < n) : ixN n (k : Int) = some k := by
  unfold ixN
  rw [if_pos (by omega), if_pos (by omega)]
  simp
theorem at_refsN {ls : List Addr} {i : Nat} {l : Addr} (h : ls[i]? = some l) : atI (ls.map V.ref) (i : Int) = some (.ref l) := at_refs (by omega) (by simpa using h)
theorem at_intsN {xs : List Int} {i : Nat} (h : i < xs.length) : atI (xs.map V.int) (i : Int) = some (.int (xs.getD i 0)) := by
  have := at_ints (xs := xs) (i := (i : Int)) (by omega) (by omega)
  simpa using this
def sp_Cleared_clear_others (K : PySem.W.Frag) : Sp := fun vs H Q _ => vs.length = 3 ∧ ∃ (H0 : Hp) (c f L M Pl : Addr) (p : Int) (n w d j : Nat) (s : Cl), vs = [.ref c, .int d, .int j] ∧ IsC K H0 H c f L M Pl s ∧ IsF K H0 f p ∧ Same H0 H ∧ Sh p n w s.lines ∧ Sh p n n s.made ∧ d < n ∧ j < w ∧ n < 1000 ∧ w < 1000 ∧
  ∀ H', Same H0 H' → IsC K H0 H' c f L M Pl ⟨others p d j s.lines s.lines, others p d j s.lines s.made, s.places⟩ → Q .non H'
def t_Cleared_clear_others_1 (K : PySem.W.Frag) : TS := (tSeq (tAsg (tOp (rIxL K) (tOp (rIxL K) (xFld (He.ga K "Cleared") (tVar 0) "lines") (tVar 3)) (tVar 2)) (gName 4)) (tIfS (tAnd (tTest (tOp rNe (tVar 3) (tVar 1))) (tTest (tOp rNe (tVar 4) (tC (.int 0))))) (tSeq (tAsg (tCallSD (sp_less_row K) [] (fun _ => E0) (tCons (xFld (He.ga K "Cleared") (tVar 0) "field") (tCons (tOp (rIxL K) (xFld (He.ga K "Cleared") (tVar 0) "lines") (tVar 3)) (tCons (tVar 4) (tCons (tOp (rIxL K) (xFld (He.ga K "Cleared") (tVar 0) "lines") (tVar 1)) tNil))))) (gSub (xFld (He.ga K "Cleared") (tVar 0) "lines") (tVar 3) rSetL)) (tAsg (tCallSD (sp_less_row K) [] (fun _ => E0) (tCons (xFld (He.ga K "Cleared") (tVar 0) "field") (tCons (tOp (rIxL K) (xFld (He.ga K "Cleared") (tVar 0) "made_of") (tVar 3)) (tCons (tVar 4) (tCons (tOp (rIxL K) (xFld (He.ga K "Cleared") (tVar 0) "made_of") (tVar 1)) tNil))))) (gSub (xFld (He.ga K "Cleared") (tVar 0) "made_of") (tVar 3) rSetL))) tNext))
def t_Cleared_clear_others (K : PySem.W.Frag) : TS := (tFor (iRng1 (tCons (tCB (oLen K) (tCons (xFld (He.ga K "Cleared") (tVar 0) "lines") tNil)) tNil)) (gName 3) (t_Cleared_clear_others_1 K))
theorem pu_Cleared_clear_others {K : PySem.W.Frag} (vs : List V) (H : Hp) (Q : VK) (E : XK) (h : ∃ (H0 : Hp) (c f L M Pl : Addr) (p : Int) (n w d j : Nat) (s : Cl), vs = [.ref c, .int d, .int j] ∧ IsC K H0 H c f L M Pl s ∧ IsF K H0 f p ∧ Same H0 H ∧ Sh p n w s.lines ∧ Sh p n n s.made ∧ d < n ∧ j < w ∧ n < 1000 ∧ w < 1000 ∧
    ∀ H', Same H0 H' → IsC K H0 H' c f L M Pl ⟨others p d j s.lines s.lines, others p d j s.lines s.made, s.places⟩ → Q .non H') :
    t_Cleared_clear_others K { nx := fun _ H' => Q .non H', rt := Q } (start ["self", "done", "place", "k", "many"] vs) H := by
  obtain ⟨H0, c, f, L, M, Pl, p, n, w, d, j, s, rfl, hC, hf, hs, sL, sM, hd, hj, hn, hw, q⟩ := h
  have h10 : (1000 : Nat) < sizeLine := by decide
  have hCk := hC
  obtain ⟨⟨dx, ho⟩, ⟨ls, hL, rL, _⟩, _⟩ := hCk
  have hl0 : (ls.map V.ref).length = n := by rw [List.length_map, rL.len, sL.len]
  have hL' : SqL K H L (ls.map V.ref) ∨ SqT K H L (ls.map V.ref) := .inl (SqL.of hL)
  walk_at "go"
  have hC : IsC K H0 H c f L M Pl ⟨othersTo p d j s.lines s.lines 0, othersTo p d j s.lines s.made 0, s.places⟩ := by
    rw [othersTo_zero, othersTo_zero]; assumption
  refine loop1 (walk_range (lo := 0) (n := (ls.map V.ref).length)) 3 (fun i σ H' => Same H0 H' ∧ IsC K H0 H' c f L M Pl ⟨othersTo p d j s.lines s.lines i, othersTo p d j s.lines s.made i, s.places⟩ ∧ ∃ x3 x4, σ = [some (.ref c), some (.int d), some (.int j), x3, x4]) ⟨hs, hC, none, none, rfl⟩ (fun _ _ _ _ _ => trivial) ?_ ?_
  · rintro i x σ _ H1 hi ⟨s1, hC1, x3, x4, rfl⟩ ⟨rfl, ex⟩
    replace ex : x = .int (i : Int) := ex.trans (congrArg V.int (Int.zero_add _))
    subst ex
    rw [hl0] at hi
    have hiL : i < s.lines.length := by rw [sL.len]; exact hi
    have hiM : i < s.made.length := by rw [sM.len]; exact hi
    have hdL : d < s.lines.length := by rw [sL.len]; exact hd
    have hdM : d < s.made.length := by rw [sM.len]; exact hd
    have hC1' := hC1
    obtain ⟨⟨dx1, ho1⟩, ⟨ls1, hL1, rL1, nL1⟩, ⟨ms1, hM1, rM1, _, nM1⟩, hP1, fr1, df1⟩ := hC1'
    obtain ⟨l, el, rl⟩ := rL1.get (othersTo_self (p := p) (d := d) (pl := j) (R := s.lines) hiL)
    obtain ⟨ld, eld, rld⟩ := rL1.get (othersTo_done (p := p) (pl := j) (i := i) (R := s.lines) hdL)
    obtain ⟨m, em, rm⟩ := rM1.get (othersTo_self (p := p) (d := d) (pl := j) (R := s.lines) hiM)
    obtain ⟨md, emd, rmd⟩ := rM1.get (othersTo_done (p := p) (pl := j) (i := i) (R := s.lines) hdM)
    have hjl : j < (s.lines.getD i []).length := by rw [sL.rlen hi]; exact hj
    have a1 := at_refsN el
    have a2 := at_refsN eld
    have a3 := at_refsN em
    have a4 := at_refsN emd
    have a5 := at_intsN hjl
    have rg := sL.rng hi hj
    have zl : (s.lines.getD i []).length < sizeLine := by rw [sL.rlen hi]; omega
    have zm : (s.made.getD i []).length < sizeLine := by rw [sM.rlen hi]; omega
    have hf1 := hf.mono s1
    unfold t_Cleared_clear_others_1
    walk_at "go"
    refine iteNe (fun c1 => ?_) (fun c1 => ?_)
    · walk_at "go"
      refine iteNe (fun c2 => ?_) (fun c2 => ?_)
      · have cc : i ≠ d ∧ g2 s.lines i j ≠ 0 := ⟨fun z => c1 (by rw [z]), c2⟩
        walk_at "go"
        intro H2 r s2 nr er
        have hC2 := hC1.mono s2
        have s12 := s1.trans s2
        have ho2 := s2 _ _ ho1
        have hL2 := s2 _ _ hL1
        have nr2 := hC1.new s1 nr
        have ix : ixN (ls1.map V.ref).length (i : Int) = some i := ixN_of (by rw [List.length_map, rL1.len, othersTo_len]; exact hiL)
        have hC3 := hC2.putL (i := i) hL2 er ⟨nr2.1, nr2.2.1, nr2.2.2.1⟩
        have s3 : Same H0 (upd H2 L (.lst ((ls1.map V.ref).set i (.ref r)))) := same_mut s12 fr1.1
        have hC3' := hC3
        obtain ⟨⟨dx3, ho3⟩, _, ⟨ms3, hM3, rM3, _, nM3⟩, _, _, _⟩ := hC3'
        obtain ⟨m, em, rm⟩ := rM3.get (othersTo_self (p := p) (d := d) (pl := j) (R := s.lines) hiM)
        obtain ⟨md, emd, rmd⟩ := rM3.get (othersTo_done (p := p) (pl := j) (i := i) (R := s.lines) hdM)
        have a3 := at_refsN em
        have a4 := at_refsN emd
        obtain ⟨ls3, hL3, rL3, _⟩ := hC3.lin
        have hf3 := hf.mono s3
        walk_at "go"
        intro H4 r' s4 nr' er'
        generalize upd H2 L (.lst ((ls1.map V.ref).set i (.ref r))) = H3 at *
        have hC4 := hC3.mono s4
        have s34 := s3.trans s4
        have ho4 := s4 _ _ ho3
        have hM4 := s4 _ _ hM3
        have nr4 := hC3.new s3 nr'
        have nin : r' ∉ ms3 := fun z => by
          obtain ⟨o, e⟩ := rM3.ex z
          rw [nr'] at e; cases e
        have ix3 : ixN (ms3.map V.ref).length (i : Int) = some i := ixN_of (by rw [List.length_map, rM3.len, othersTo_len]; exact hiM)
        walk_at "go"
        have hC5 := hC4.putM (i := i) hM4 er' nin nr4
        rw [← othersTo_set hiL cc, ← othersTo_set hiM cc] at hC5
        exact ⟨same_mut s34 fr1.2.1, hC5, _, _, rfl⟩
      · walk_at "go"
        rw [← othersTo_keep (fun z => z.2 c2), ← othersTo_keep (fun z => z.2 c2)] at hC1
        exact ⟨s1, hC1, _, _, rfl⟩
    · walk_at "go"
      have c1' : i = d := by omega
      rw [← othersTo_keep (fun z => z.1 c1'), ← othersTo_keep (fun z => z.1 c1')] at hC1
      exact ⟨s1, hC1, _, _, rfl⟩
  · rintro σ H' ⟨s1, hC1, x3, x4, rfl⟩
    rw [hl0, othersTo_all sL.len.symm, othersTo_all sM.len.symm] at hC1
    exact q H' s1 hC1
theorem upd_upd {H : Hp} {a : Addr} {x y : HO} : upd (upd H a x) a y = upd H a y := by
  funext b
  by_cases e : b = a
  · subst e; rw [upd_same, upd_same]
  · rw [upd_ne e, upd_ne e, upd_ne e]
theorem swap_nodup {ls : List Addr} {i j : Nat} {a b : Addr} (h : ls.Nodup) (ha : ls[i]? = some a) (hb : ls[j]? = some b) : ((ls.set i b).set j a).Nodup := by
  obtain ⟨hi, ha⟩ := List.getElem?_eq_some_iff.mp ha
  obtain ⟨hj, hb⟩ := List.getElem?_eq_some_iff.mp hb
  refine List.nodup_iff_pairwise_ne.mpr (List.pairwise_iff_getElem.mpr fun x y hx hy hxy => ?_)
  rw [List.length_set, List.length_set] at hx hy
  have inj : ∀ u v (hu : u < ls.length) (hv : v < ls.length), u ≠ v → ls[u] ≠ ls[v] := fun u v hu hv z => by
    have hp := List.pairwise_iff_getElem.mp (List.nodup_iff_pairwise_ne.mp h)
    rcases Nat.lt_or_gt_of_ne z with q | q
    · exact hp u v hu hv q
    · exact (hp v u hv hu q).symm
  rw [List.getElem_set, List.getElem_set, List.getElem_set, List.getElem_set]
  by_cases e1 : j = x
  · rw [if_pos e1, if_neg (by omega)]
    by_cases e2 : i = y
    · rw [if_pos e2]; exact fun z => inj i j hi hj (by omega) (ha.trans (z.trans hb.symm))
    · rw [if_neg e2]; exact fun z => inj i y hi hy (by omega) (ha.trans z)
  · rw [if_neg e1]
    by_cases e2 : i = x
    · rw [if_pos e2]
      by_cases e3 : j = y
      · rw [if_pos e3]; exact fun z => inj j i hj hi (by omega) (hb.trans (z.trans ha.symm))
      · rw [if_neg e3, if_neg (by omega)]; exact fun z => inj j y hj hy (by omega) (hb.trans z)
    · rw [if_neg e2]
      by_cases e3 : j = y
      · rw [if_pos e3]; exact fun z => inj x i hx hi (by omega) (z.trans ha.symm)
      · rw [if_neg e3]
        by_cases e4 : i = y
        · rw [if_pos e4]; exact fun z => inj x j hx hj (by omega) (z.trans hb.symm)
        · rw [if_neg e4]; exact inj x y hx hy (by omega)
theorem Rows.swap {H : Hp} {ls : List Addr} {T : List (List Int)} (r : Rows H ls T) {i j : Nat} {a b : Addr} (ha : ls[i]? = some a) (hb : ls[j]? = some b) : Rows H ((ls.set i b).set j a) (swapL T i j) := by
  have hi : i < T.length := by rw [← r.len]; exact (List.getElem?_eq_some_iff.mp ha).1
  have hj : j < T.length := by rw [← r.len]; exact (List.getElem?_eq_some_iff.mp hb).1
  exact (r.set (r.at_ j b _ hb (at_getD hj))).set (r.at_ i a _ ha (at_getD hi))
theorem mem_swap {ls : List Addr} {i j : Nat} {a b x : Addr} (ha : ls[i]? = some a) (hb : ls[j]? = some b) (h : x ∈ (ls.set i b).set j a) : x ∈ ls := by
  rcases List.mem_or_eq_of_mem_set h with h | rfl
  · rcases List.mem_or_eq_of_mem_set h with h | rfl
    · exact h
    · exact List.mem_of_getElem? hb
  · exact List.mem_of_getElem? ha
theorem IsC.swL {K : PySem.W.Frag} {H0 H : Hp} {c f L M Pl : Addr} {s : Cl} {ls : List Addr} {i j : Nat} {a b : Addr} (I : IsC K H0 H c f L M Pl s) (e : H L = some (.lst (ls.map V.ref))) (ha : ls[i]? = some a) (hb : ls[j]? = some b) :
    IsC K H0 (upd (upd H L (.lst ((ls.map V.ref).set i (.ref b)))) L (.lst (((ls.map V.ref).set i (.ref b)).set j (.ref a)))) c f L M Pl ⟨swapL s.lines i j, s.made, s.places⟩ := by
  obtain ⟨ls', b1, b2, b3⟩ := I.lin
  have : ls.map V.ref = ls'.map V.ref := by rw [e] at b1; injection b1 with z; injection z
  have : ls = ls' := (List.map_inj_right fun _ _ z => V.ref.inj z).mp this
  subst this
  rw [upd_upd]
  have := I.setL (b2.swap ha hb) fun x hx => b3 x (mem_swap ha hb hx)
  rw [List.map_set, List.map_set] at this
  exact this
theorem IsC.swM {K : PySem.W.Frag} {H0 H : Hp} {c f L M Pl : Addr} {s : Cl} {ls : List Addr} {i j : Nat} {a b : Addr} (I : IsC K H0 H c f L M Pl s) (e : H M = some (.lst (ls.map V.ref))) (ha : ls[i]? = some a) (hb : ls[j]? = some b) :
    IsC K H0 (upd (upd H M (.lst ((ls.map V.ref).set i (.ref b)))) M (.lst (((ls.map V.ref).set i (.ref b)).set j (.ref a)))) c f L M Pl ⟨s.lines, swapL s.made i j, s.places⟩ := by
  obtain ⟨ls', b1, b2, b4, b3⟩ := I.mad
  have : ls.map V.ref = ls'.map V.ref := by rw [e] at b1; injection b1 with z; injection z
  have : ls = ls' := (List.map_inj_right fun _ _ z => V.ref.inj z).mp this
  subst this
  rw [upd_upd]
  have := I.setM (b2.swap ha hb) (swap_nodup b4 ha hb) fun x hx => b3 x (mem_swap ha hb hx)
  rw [List.map_set, List.map_set] at this
  exact this
def sp_Cleared_clear_at (K : PySem.W.Frag) : Sp := fun vs H Q _ => vs.length = 2 ∧ ∃ (H0 : Hp) (c f L M Pl : Addr) (p : Int) (n w j : Nat) (T : List (List Int)) (s : Cl), vs = [.ref c, .int j] ∧ IsC K H0 H c f L M Pl s ∧ IsF K H0 f p ∧ Same H0 H ∧ Ok p n w T s j ∧ j < w ∧ n < 1000 ∧ w < 1000 ∧
  ∀ H', Same H0 H' → IsC K H0 H' c f L M Pl (clearAt p (inv p) s j) → Ok p n w T (clearAt p (inv p) s j) (j + 1) → Q .non H'
def t_Cleared_clear_at_1 (K : PySem.W.Frag) : TS := (tAsg (tTup (tCons (tOp (rIxL K) (tVar 4) (tVar 3)) (tCons (tOp (rIxL K) (tVar 4) (tVar 2)) tNil))) (gTup K 2 (gCons (gSub (tVar 4) (tVar 2) rSetL) (gCons (gSub (tVar 4) (tVar 3) rSetL) gNil))))
def t_Cleared_clear_at_2 (K : PySem.W.Frag) : TS := (tAsg (tLc (iList K (tOp (rIxL K) (tVar 4) (tVar 2))) (gName 7) tYes (xMeth (He.ga K "Field") "times" (sp_Field_times K) [] (fun _ => E0) (xFld (He.ga K "Cleared") (tVar 0) "field") (tCons (tVar 5) (tCons (tVar 7) tNil))) [6, 7]) (gSub (tVar 4) (tVar 2) rSetL))
def t_Cleared_clear_at_3 (K : PySem.W.Frag) : TS := (tSeq (tDrop (xMeth (He.ga K "Cleared") "clear_others" (sp_Cleared_clear_others K) [] (fun _ => E0) (tVar 0) (tCons (tVar 2) (tCons (tVar 1) tNil)))) (tDrop (tBM K "list" rAppend (xFld (He.ga K "Cleared") (tVar 0) "places") (tCons (tVar 1) tNil))))
def t_Cleared_clear_at_4 (K : PySem.W.Frag) : TS := (tSeq (tAsg (xMeth (He.ga K "Field") "back" (sp_Field_back K) [] (fun _ => E0) (xFld (He.ga K "Cleared") (tVar 0) "field") (tCons (tOp (rIxL K) (tOp (rIxL K) (xFld (He.ga K "Cleared") (tVar 0) "lines") (tVar 2)) (tVar 1)) tNil)) (gName 5)) (tSeq (tFor (iTup K (tTup (tCons (xFld (He.ga K "Cleared") (tVar 0) "lines") (tCons (xFld (He.ga K "Cleared") (tVar 0) "made_of") tNil)))) (gName 4) (t_Cleared_clear_at_2 K)) (t_Cleared_clear_at_3 K)))
def t_Cleared_clear_at (K : PySem.W.Frag) : TS := (tSeq (tAsg (tCB (oLen K) (tCons (xFld (He.ga K "Cleared") (tVar 0) "places") tNil)) (gName 2)) (tSeq (tAsg (tCallSD (sp_first_with K) [] (fun _ => E0) (tCons (xFld (He.ga K "Cleared") (tVar 0) "lines") (tCons (tVar 2) (tCons (tVar 1) tNil)))) (gName 3)) (tSeq (tIfS (tTest (tOp rIsN (tVar 3) (tC .non))) tRetN tNext) (tSeq (tFor (iTup K (tTup (tCons (xFld (He.ga K "Cleared") (tVar 0) "lines") (tCons (xFld (He.ga K "Cleared") (tVar 0) "made_of") tNil)))) (gName 4) (t_Cleared_clear_at_1 K)) (t_Cleared_clear_at_4 K)))))
theorem pu_Cleared_clear_at {K : PySem.W.Frag} (vs : List V) (H : Hp) (Q : VK) (E : XK) (h : ∃ (H0 : Hp) (c f L M Pl : Addr) (p : Int) (n w j : Nat) (T : List (List Int)) (s : Cl), vs = [.ref c, .int j] ∧ IsC K H0 H c f L M Pl s ∧ IsF K H0 f p ∧ Same H0 H ∧ Ok p n w T s j ∧ j < w ∧ n < 1000 ∧ w < 1000 ∧
    ∀ H', Same H0 H' → IsC K H0 H' c f L M Pl (clearAt p (inv p) s j) → Ok p n w T (clearAt p (inv p) s j) (j + 1) → Q .non H') :
    t_Cleared_clear_at K { nx := fun _ H' => Q .non H', rt := Q } (start ["self", "place", "done", "k", "rows", "back", ".0", "number"] vs) H := by
  obtain ⟨H0, c, f, L, M, Pl, p, n, w, j, T, s, rfl, hC, hf, hs, ok, hj, hn, hw, q⟩ := h
  have h10 : (1000 : Nat) < sizeLine := by decide
  have hp := hf.pos
  have hCk := hC
  obtain ⟨⟨dx, ho⟩, ⟨ls, hL, rL, nL⟩, ⟨ms, hM, rM, _, nM⟩, hP, fr, df⟩ := hCk
  have hPo : SqL K H Pl (s.places.map fun (q : Nat) => V.int q) ∨ SqT K H Pl (s.places.map fun (q : Nat) => V.int q) := .inl (SqL.of hP)
  have hTab : TabAt H L s.lines := ⟨ls, hL, rL⟩
  have hwid : ∀ r ∈ s.lines, j < r.length := fun r hr => by rw [(ok.shL.row r hr).1]; exact hj
  have hlen : s.lines.length < 1000 := by rw [ok.shL.len]; exact hn
  have hle : s.places.length ≤ s.lines.length := by rw [ok.shL.len]; exact ok.le
  have hpl : (s.places.map fun (q : Nat) => V.int q).length = s.places.length := by rw [List.length_map]
  have hle2 : (s.places.map fun (q : Nat) => V.int q).length ≤ s.lines.length := by rw [hpl]; exact hle
  walk_at "go"
  rw [hpl]
  refine ⟨fun hfw => ?_, fun k hfw => ?_⟩
  · have e : clearAt p (inv p) s j = s := by unfold clearAt; rw [hfw]
    have okn := clearAt_ok (p := p) (bk := inv p) (by omega) (fun k z => by rw [hfw] at z; cases z) ok hj
    rw [e] at q okn
    walk_at "go"
    exact q H hs hC okn
  · obtain ⟨k1, k2, k3⟩ := firstW_some hfw
    rw [ok.shL.len] at k2
    have hd : s.places.length < n := by omega
    have ev : g2 (swapL s.lines s.places.length k) s.places.length j = g2 s.lines k j := by
      show ((swapL s.lines s.places.length k).getD s.places.length []).getD j 0 = _
      rw [swap_get (by rw [ok.shL.len]; omega) (by rw [ok.shL.len]; omega)]
      by_cases e : s.places.length = k
      · rw [if_pos e, e]
      · rw [if_neg e, if_pos rfl]
    have o1 := step_swap ok k1 k2
    generalize hd' : s.places.length = d at *
    have rgv := o1.shL.rng (k := d) (j := j) hd hj
    have hv0 : g2 (swapL s.lines d k) d j ≠ 0 := by rw [ev]; exact k3
    walk_at "go"
    intro t nt
    have htL : t ≠ L := (ne_of_none hL nt).symm
    have htM : t ≠ M := (ne_of_none hM nt).symm
    walk_at "go"
    refine loop1 (walk_tup (xs := [.ref L, .ref M])) 4 (fun i σ H' => Same H0 H' ∧ H' t = some (.tup [.ref L, .ref M]) ∧ IsC K H0 H' c f L M Pl ⟨if 0 < i then swapL s.lines d k else s.lines, if 1 < i then swapL s.made d k else s.made, s.places⟩ ∧ ∃ x4, σ = [some (.ref c), some (.int j), some (.int d), some (.int k), x4, none, none, none])
      ⟨hs.trans (same_new nt), upd_same, hC.mono (same_new nt), none, rfl⟩ (fun i σ H' _ h => .inl (.inl h.2.1)) ?_ ?_
    · rintro i x σ _ H1 hi ⟨s1, et, I, x4, rfl⟩ ⟨rfl, hx⟩
      unfold t_Cleared_clear_at_1
      match i, hi, hx with
      | 0, _, hx =>
        cases hx
        have I : IsC K H0 H1 c f L M Pl s := I
        obtain ⟨ls1, hL1, rL1, _⟩ := I.lin
        obtain ⟨a, ea, _⟩ := rL1.row (i := d) (by rw [ok.shL.len]; exact hd)
        obtain ⟨b, eb, _⟩ := rL1.row (i := k) (by rw [ok.shL.len]; exact k2)
        have a1 := at_refsN ea
        have a2 := at_refsN eb
        have lx : (ls1.map V.ref).length = n := by rw [List.length_map, rL1.len, ok.shL.len]
        have ix1 : ixN (ls1.map V.ref).length (d : Int) = some d := ixN_of (by omega)
        have ix2 : ixN ((ls1.map V.ref).set d (.ref b)).length (k : Int) = some k := ixN_of (by rw [List.length_set]; omega)
        walk_at "go"
        intro u nu
        walk_at "go"
        have I2 := (I.mono (same_new (o := .tup [.ref b, .ref a]) nu)).swL (upd_at nu hL1) ea eb
        exact ⟨same_mut (same_mut (s1.trans (same_new nu)) fr.1) fr.1, upd_atN htL (upd_atN htL (upd_at nu et)), I2, _, rfl⟩
      | 1, _, hx =>
        cases hx
        have I : IsC K H0 H1 c f L M Pl ⟨swapL s.lines d k, s.made, s.places⟩ := I
        obtain ⟨ls1, hL1, rL1, _⟩ := I.mad
        obtain ⟨a, ea, _⟩ := rL1.row (i := d) (by rw [ok.shM.len]; exact hd)
        obtain ⟨b, eb, _⟩ := rL1.row (i := k) (by rw [ok.shM.len]; exact k2)
        have a1 := at_refsN ea
        have a2 := at_refsN eb
        have lx : (ls1.map V.ref).length = n := by rw [List.length_map, rL1.len, ok.shM.len]
        have ix1 : ixN (ls1.map V.ref).length (d : Int) = some d := ixN_of (by omega)
        have ix2 : ixN ((ls1.map V.ref).set d (.ref b)).length (k : Int) = some k := ixN_of (by rw [List.length_set]; omega)
        walk_at "go"
        intro u nu
        walk_at "go"
        have I2 := (I.mono (same_new (o := .tup [.ref b, .ref a]) nu)).swM (upd_at nu hL1) ea eb
        exact ⟨same_mut (same_mut (s1.trans (same_new nu)) fr.2.1) fr.2.1, upd_atN htM (upd_atN htM (upd_at nu et)), I2, _, rfl⟩
    · rintro σ H1 ⟨s1, et, I, x4, rfl⟩
      have I : IsC K H0 H1 c f L M Pl ⟨swapL s.lines d k, swapL s.made d k, s.places⟩ := I
      have I' := I
      obtain ⟨⟨dx1, ho1⟩, ⟨ls1, hL1, rL1, nL1⟩, ⟨ms1, hM1, rM1, _, nM1⟩, hP1, _, _⟩ := I'
      obtain ⟨a, ea, _, era⟩ := rL1.row (i := d) (by show d < (swapL s.lines d k).length; rw [swap_len, ok.shL.len]; exact hd)
      have a1 := at_refsN ea
      have hrl : ((swapL s.lines d k).getD d []).length = w := o1.shL.rlen hd
      have a2 : atI (((swapL s.lines d k).getD d []).map V.int) (j : Int) = some (.int (g2 (swapL s.lines d k) d j)) := at_intsN (by rw [hrl]; exact hj)
      have era : H1 a = some (.lst (((swapL s.lines d k).getD d []).map V.int)) := era
      have hf1 := hf.mono s1
      have hf1' := hf1
      obtain ⟨dxf, hfo, _⟩ := hf1'
      have rgv' : Fd p (g2 (swapL s.lines d k) d j) := rgv
      unfold t_Cleared_clear_at_4
      walk_at "go"
      intro _ hb1 H2 s2
      have s12 := s1.trans s2
      have I2 := I.mono s2
      have ho2 := s2 _ _ ho1
      have hL2 := s2 _ _ hL1
      have hM2 := s2 _ _ hM1
      have hr := inv_range (p := p) (n := g2 (swapL s.lines d k) d j) (by omega)
      walk_at "go"
      intro t2 nt2
      have htL : t2 ≠ L := (ne_of_none hL2 nt2).symm
      have htM : t2 ≠ M := (ne_of_none hM2 nt2).symm
      walk_at "go"
      have ebk : ∃ bk, bk = inv p (g2 (swapL s.lines d k) d j) := ⟨_, rfl⟩
      obtain ⟨bk, ebk⟩ := ebk
      rw [← ebk] at hb1 hr ⊢
      have h1p : (1 : Int) % p = 1 := Int.emod_eq_of_lt (by omega) (by omega)
      have hme : Me p (bk * g2 (swapL s.lines d k) d j) 1 := Me.of_emod (by rw [hb1, h1p])
      have okn := clearAt_ok (p := p) (bk := inv p) (by omega) (fun k' z => by
        rw [hd', hfw] at z
        cases z
        rw [← ev, ← ebk]; exact hme) ok hj
      have ecl : clearAt p (inv p) s j = ⟨others p d j ((swapL s.lines d k).set d (scaleR p bk ((swapL s.lines d k).getD d []))) ((swapL s.lines d k).set d (scaleR p bk ((swapL s.lines d k).getD d []))), others p d j ((swapL s.lines d k).set d (scaleR p bk ((swapL s.lines d k).getD d []))) ((swapL s.made d k).set d (scaleR p bk ((swapL s.made d k).getD d []))), s.places ++ [j]⟩ := by
        unfold clearAt
        rw [hd', hfw, ebk]
      rw [ecl] at okn q
      have o2 := step_scale (b := bk) (by omega) o1 (by show s.places.length < n; omega) (by show Me p (bk * g2 (swapL s.lines d k) d j) 1; exact hme)
      have o2L : Sh p n w ((swapL s.lines d k).set d (scaleR p bk ((swapL s.lines d k).getD d []))) := by have := o2.shL; rw [← hd']; exact hd' ▸ this
      have o2M : Sh p n n ((swapL s.made d k).set d (scaleR p bk ((swapL s.made d k).getD d []))) := by have := o2.shM; rw [← hd']; exact hd' ▸ this
      refine loop1 (walk_tup (xs := [.ref L, .ref M])) 4 (fun i σ H' => Same H0 H' ∧ H' t2 = some (.tup [.ref L, .ref M]) ∧ IsC K H0 H' c f L M Pl ⟨if 0 < i then (swapL s.lines d k).set d (scaleR p bk ((swapL s.lines d k).getD d [])) else swapL s.lines d k, if 1 < i then (swapL s.made d k).set d (scaleR p bk ((swapL s.made d k).getD d [])) else swapL s.made d k, s.places⟩ ∧ ∃ x4, σ = [some (.ref c), some (.int j), some (.int d), some (.int k), x4, some (.int bk), none, none])
        ⟨s12.trans (same_new nt2), upd_same, I2.mono (same_new nt2), _, rfl⟩ (fun i σ H' _ h => .inl (.inl h.2.1)) ?_ ?_
      · rintro i x σ _ H3 hi ⟨s3, et, I3, x4, rfl⟩ ⟨rfl, hx⟩
        unfold t_Cleared_clear_at_2
        match i, hi, hx with
        | 0, _, hx =>
          cases hx
          have I3 : IsC K H0 H3 c f L M Pl ⟨swapL s.lines d k, swapL s.made d k, s.places⟩ := I3
          have I3' := I3
          obtain ⟨⟨dx3, ho3⟩, ⟨ls3, hL3, rL3, _⟩, _⟩ := I3'
          obtain ⟨a3, ea3, _, era3⟩ := rL3.row (i := d) (by show d < (swapL s.lines d k).length; rw [swap_len, ok.shL.len]; exact hd)
          have a1 := at_refsN ea3
          have hrl : ((swapL s.lines d k).getD d []).length = w := o1.shL.rlen hd
          have ix1 : ixN (ls3.map V.ref).length (d : Int) = some d := ixN_of (by rw [List.length_map, rL3.len]; show d < (swapL s.lines d k).length; rw [swap_len, ok.shL.len]; exact hd)
          have sr : SqL K H3 a3 (((swapL s.lines d k).getD d []).map V.int) := SqL.of era3
          walk_at "go"
          refine lcA (walk_list (xs := ((swapL s.lines d k).getD d []).map V.int)) (fun i => .int (bk * ((swapL s.lines d k).getD d []).getD i 0 % p)) (by rw [List.length_map, hrl]; omega) (fun H' s => s.seq sr) ?_ ?_
          · rintro i x _ H4 F hi s4 ⟨rfl, hx⟩ hF
            obtain ⟨_, rfl, _⟩ := ints_at hx
            refine ⟨rfl, ?_⟩
            have ho4 := s4 _ _ ho3
            have hf4 := hf.mono (s3.trans s4)
            have hf4' := hf4
            obtain ⟨dxf4, hfo4, _⟩ := hf4'
            have mm : CMul bk (((swapL s.lines d k).getD d []).getD i 0) := .inl ⟨by omega, by omega⟩
            walk_at "go"
            exact hF _ (Same.refl _)
          · intro r H4 nr s4 er
            rw [List.length_map, givn_listA ((swapL s.lines d k).getD d []) (fun x => V.int (bk * x % p)) _ (fun i x e => by rw [getDi_of e])] at er
            have er : Row H4 r (scaleR p bk ((swapL s.lines d k).getD d [])) := by
              show H4 r = _
              rw [er]; unfold scaleR; rw [List.map_map]; rfl
            have hL4 := s4 _ _ hL3
            have nr4 := I3.new s3 nr
            walk_at "go"
            have I5 := (I3.mono s4).putL (i := d) hL4 er ⟨nr4.1, nr4.2.1, nr4.2.2.1⟩
            exact ⟨same_mut (s3.trans s4) fr.1, upd_atN htL (s4 _ _ et), I5, _, rfl⟩
        | 1, _, hx =>
          cases hx
          have I3 : IsC K H0 H3 c f L M Pl ⟨(swapL s.lines d k).set d (scaleR p bk ((swapL s.lines d k).getD d [])), swapL s.made d k, s.places⟩ := I3
          have I3' := I3
          obtain ⟨⟨dx3, ho3⟩, _, ⟨ms3, hM3, rM3, _, _⟩, _⟩ := I3'
          obtain ⟨a3, ea3, _, era3⟩ := rM3.row (i := d) (by show d < (swapL s.made d k).length; rw [swap_len, ok.shM.len]; exact hd)
          have a1 := at_refsN ea3
          have hrl : ((swapL s.made d k).getD d []).length = n := o1.shM.rlen hd
          have ix1 : ixN (ms3.map V.ref).length (d : Int) = some d := ixN_of (by rw [List.length_map, rM3.len]; show d < (swapL s.made d k).length; rw [swap_len, ok.shM.len]; exact hd)
          have sr : SqL K H3 a3 (((swapL s.made d k).getD d []).map V.int) := SqL.of era3
          walk_at "go"
          refine lcA (walk_list (xs := ((swapL s.made d k).getD d []).map V.int)) (fun i => .int (bk * ((swapL s.made d k).getD d []).getD i 0 % p)) (by rw [List.length_map, hrl]; omega) (fun H' s => s.seq sr) ?_ ?_
          · rintro i x _ H4 F hi s4 ⟨rfl, hx⟩ hF
            obtain ⟨_, rfl, _⟩ := ints_at hx
            refine ⟨rfl, ?_⟩
            have ho4 := s4 _ _ ho3
            have hf4 := hf.mono (s3.trans s4)
            have hf4' := hf4
            obtain ⟨dxf4, hfo4, _⟩ := hf4'
            have mm : CMul bk (((swapL s.made d k).getD d []).getD i 0) := .inl ⟨by omega, by omega⟩
            walk_at "go"
            exact hF _ (Same.refl _)
          · intro r H4 nr s4 er
            rw [List.length_map, givn_listA ((swapL s.made d k).getD d []) (fun x => V.int (bk * x % p)) _ (fun i x e => by rw [getDi_of e])] at er
            have er : Row H4 r (scaleR p bk ((swapL s.made d k).getD d [])) := by
              show H4 r = _
              rw [er]; unfold scaleR; rw [List.map_map]; rfl
            have hM4 := s4 _ _ hM3
            have nr4 := I3.new s3 nr
            have nin : r ∉ ms3 := fun z => by
              obtain ⟨o, e⟩ := rM3.ex z
              rw [nr] at e; cases e
            walk_at "go"
            have I5 := (I3.mono s4).putM (i := d) hM4 er nin nr4
            exact ⟨same_mut (s3.trans s4) fr.2.1, upd_atN htM (s4 _ _ et), I5, _, rfl⟩
      · rintro σ H3 ⟨s3, et, I3, x4, rfl⟩
        have I3 : IsC K H0 H3 c f L M Pl ⟨(swapL s.lines d k).set d (scaleR p bk ((swapL s.lines d k).getD d [])), (swapL s.made d k).set d (scaleR p bk ((swapL s.made d k).getD d [])), s.places⟩ := I3
        have I3' := I3
        obtain ⟨⟨dx3, ho3⟩, ⟨ls3, hL3, rL3, nL3⟩, ⟨ms3, hM3, rM3, _, nM3⟩, hP3, _, _⟩ := I3'
        unfold t_Cleared_clear_at_3
        walk_at "go"
        intro H4 s4 I4
        have I4' := I4
        obtain ⟨⟨dx4, ho4⟩, _, _, hP4, _, _⟩ := I4'
        have hP4 : H4 Pl = some (.lst (s.places.map fun (q : Nat) => V.int q)) := hP4
        have zP : (s.places.map fun (q : Nat) => V.int q).length < sizeLine := by rw [hpl]; omega
        walk_at "go"
        have I5 := I4.setP (ps := s.places ++ [j])
        rw [List.map_append] at I5
        exact q _ (same_mut s4 fr.2.2) I5 okn
theorem Trs.table {H : Hp} : ∀ {T : List (List Int)} {vs : List V} {fp : List Addr}, Trs H vs (T.map dI) fp → vs = fp.map V.ref ∧ Rows H fp T
  | [], _, _, t => by
    cases t
    exact ⟨rfl, rfl, fun i l row e => by simp at e⟩
  | x :: T, _, _, t => by
    cases t with
    | cons a t =>
      obtain ⟨e, r⟩ := Trs.table t
      cases a with
      | lst h t2 =>
        obtain ⟨rfl, rfl⟩ := Trs.ints_inv t2
        subst e
        refine ⟨rfl, by show _ + 1 = _ + 1; exact congrArg (· + 1) r.len, fun i l row e1 e2 => ?_⟩
        cases i with
        | zero => cases e1; cases e2; exact h
        | succ i => exact r.at_ i l row e1 e2
theorem New.table {H0 H : Hp} {v : V} {T : List (List Int)} (n : New H0 H v (dT T)) : ∃ (a : Addr) (ls : List Addr), v = .ref a ∧ H a = some (.lst (ls.map V.ref)) ∧ Rows H ls T ∧ (a :: ls).Nodup ∧ ∀ b ∈ a :: ls, H0 b = none := by
  obtain ⟨fp, t, nd, fr⟩ := n
  cases t with
  | lst e t =>
    obtain ⟨rfl, r⟩ := Trs.table t
    exact ⟨_, _, rfl, e, r, nd, fr⟩
def sp_Cleared___init__ (K : PySem.W.Frag) : Sp := fun vs H Q _ => vs.length = 4 ∧ ∃ (H0 : Hp) (c dx f t : Addr) (p : Int) (n w : Nat) (T : List (List Int)), vs = [.ref c, .ref f, .ref t, .int w] ∧ H c = some (.ins (He.ga K "Cleared") dx []) ∧ H0 c = none ∧ Same H0 H ∧ IsF K H0 f p ∧ TabAt H0 t T ∧ Sh p n w T ∧ n < 1000 ∧ w < 1000 ∧
  ∀ H' L M Pl, Same H0 H' → IsC K H0 H' c f L M Pl (cleared p (inv p) T w) → Ok p n w T (cleared p (inv p) T w) w → Q .non H'
def t_Cleared___init___1 (K : PySem.W.Frag) : TS := (tDrop (xMeth (He.ga K "Cleared") "clear_at" (sp_Cleared_clear_at K) [] (fun _ => E0) (tVar 0) (tCons (tVar 4) tNil)))
def t_Cleared___init__ (K : PySem.W.Frag) : TS := (tSeq (xsFld (He.ga K "Cleared") (tVar 0) (tVar 1) "field") (tSeq (xsFld (He.ga K "Cleared") (tVar 0) (tLc (iList K (tVar 2)) (gName 6) tYes (tCB (oList K) (tCons (tVar 6) tNil)) [5, 6]) "lines") (tSeq (xsFld (He.ga K "Cleared") (tVar 0) (tCallSD (sp_ones K) [] (fun _ => E0) (tCons (tCB (oLen K) (tCons (tVar 2) tNil)) tNil)) "made_of") (tSeq (xsFld (He.ga K "Cleared") (tVar 0) (tLst tNil) "places") (tFor (iRng1 (tCons (tVar 3) tNil)) (gName 4) (t_Cleared___init___1 K))))))
theorem pu_Cleared___init__ {K : PySem.W.Frag} (vs : List V) (H : Hp) (Q : VK) (E : XK) (h : ∃ (H0 : Hp) (c dx f t : Addr) (p : Int) (n w : Nat) (T : List (List Int)), vs = [.ref c, .ref f, .ref t, .int w] ∧ H c = some (.ins (He.ga K "Cleared") dx []) ∧ H0 c = none ∧ Same H0 H ∧ IsF K H0 f p ∧ TabAt H0 t T ∧ Sh p n w T ∧ n < 1000 ∧ w < 1000 ∧
    ∀ H' L M Pl, Same H0 H' → IsC K H0 H' c f L M Pl (cleared p (inv p) T w) → Ok p n w T (cleared p (inv p) T w) w → Q .non H') :
    t_Cleared___init__ K { nx := fun _ H' => Q .non H', rt := Q } (start ["self", "field", "table", "width", "place", ".0", "row"] vs) H := by
  obtain ⟨H0, c, dx, f, t, p, n, w, T, rfl, ho, hc0, hs, hf, ht, hT, hn, hw, q⟩ := h
  have h10 : (1000 : Nat) < sizeLine := by decide
  have hp := hf.pos
  have sa : Same H0 (upd H c (.ins (He.ga K "Cleared") dx [("field", .ref f)])) := same_mut hs hc0
  obtain ⟨ls0, ht0, rt0⟩ := ht
  have hoa : upd H c (.ins (He.ga K "Cleared") dx [("field", .ref f)]) c = some (.ins (He.ga K "Cleared") dx [("field", .ref f)]) := upd_same
  have sqa : SqL K (upd H c (.ins (He.ga K "Cleared") dx [("field", .ref f)])) t (ls0.map V.ref) := SqL.of (sa _ _ ht0)
  unfold t_Cleared___init__
  walk_at "go"
  refine lcN (H := upd H c (.ins (He.ga K "Cleared") dx [("field", .ref f)])) (walk_list (xs := ls0.map V.ref)) (fun i => dI (T.getD i [])) (by rw [List.length_map, rt0.len, hT.len]; omega) (fun H' s => s.seq sqa) ?_ ?_
  · rintro i x _ H1 F hi s1 ⟨rfl, hx⟩ hF
    obtain ⟨l, rfl, hl, hi, hrow⟩ := rt0.refs hx
    have hrow1 : SqL K H1 l ((T.getD i []).map V.int) := SqL.of (s1 _ _ (sa _ _ hrow))
    refine ⟨rfl, ?_⟩
    have hrow2 := SqLo hrow1
    walk_at "go"
    intro r nr
    exact hF _ _ (same_new nr) (New.ints nr upd_same)
  · intro L H1 s1 nw
    rw [List.length_map, rt0.len, givn_listA T dI _ (fun i x e => by rw [getD_of e])] at nw
    have nw : New (upd H c (.ins (He.ga K "Cleared") dx [("field", .ref f)])) H1 (.ref L) (dT T) := nw
    obtain ⟨L', ls, eL, hL, rL, ndL, frL⟩ := nw.table
    cases eL
    have ho1 := s1 _ _ hoa
    have s01 := sa.trans s1
    have hcL : L ≠ c := fun z => by
      have := frL L (List.mem_cons_self ..)
      rw [z, hoa] at this; cases this
    have hcl : ∀ l ∈ ls, l ≠ c := fun l hl z => by
      have := frL l (List.mem_cons_of_mem _ hl)
      rw [z, hoa] at this; cases this
    have s2 : Same H0 (upd H1 c (.ins (He.ga K "Cleared") dx [("field", .ref f), ("lines", .ref L)])) := same_mut s01 hc0
    have ho2 : upd H1 c (.ins (He.ga K "Cleared") dx [("field", .ref f), ("lines", .ref L)]) c = some (.ins (He.ga K "Cleared") dx [("field", .ref f), ("lines", .ref L)]) := upd_same
    have hL2 : upd H1 c (.ins (He.ga K "Cleared") dx [("field", .ref f), ("lines", .ref L)]) L = some (.lst (ls.map V.ref)) := upd_atN hcL hL
    have rL2 : Rows (upd H1 c (.ins (He.ga K "Cleared") dx [("field", .ref f), ("lines", .ref L)])) ls T := rL.upd hcl
    have sq2 : SqL K (upd H1 c (.ins (He.ga K "Cleared") dx [("field", .ref f), ("lines", .ref L)])) t (ls0.map V.ref) ∨ SqT K (upd H1 c (.ins (He.ga K "Cleared") dx [("field", .ref f), ("lines", .ref L)])) t (ls0.map V.ref) := .inl (SqL.of (s2 _ _ ht0))
    have hl0 : (ls0.map V.ref).length = n := by rw [List.length_map, rt0.len, hT.len]
    have hlt : (ls0.map V.ref).length < 1000 := by rw [hl0]; exact hn
    walk_at "go"
    intro H3 M s3 nw3
    rw [hl0] at nw3
    have s3 : Same (upd H1 c (.ins (He.ga K "Cleared") dx [("field", .ref f), ("lines", .ref L)])) H3 := s3
    have nw3 : New (upd H1 c (.ins (He.ga K "Cleared") dx [("field", .ref f), ("lines", .ref L)])) H3 (.ref M) (dT (onesT n)) := nw3
    obtain ⟨M', ms, eM, hM, rM, ndM, frM⟩ := nw3.table
    cases eM
    have ho3 := s3 _ _ ho2
    have hL3 := s3 _ _ hL2
    have rL3 := rL2.mono s3
    have s03 := s2.trans s3
    have new3 : ∀ b ∈ M :: ms, b ≠ c ∧ b ≠ L ∧ (∀ l ∈ ls, b ≠ l) ∧ H0 b = none := fun b hb => by
      have := frM b hb
      refine ⟨fun z => ?_, fun z => ?_, fun l hl z => ?_, s2.free this⟩
      · rw [z, ho2] at this; cases this
      · rw [z, hL2] at this; cases this
      · obtain ⟨o, e⟩ := rL2.ex hl
        rw [z, e] at this; cases this
    have hMc := (new3 M (List.mem_cons_self ..)).1
    have s4 : Same H0 (upd H3 c (.ins (He.ga K "Cleared") dx [("field", .ref f), ("lines", .ref L), ("made_of", .ref M)])) := same_mut s03 hc0
    have ho4 : upd H3 c (.ins (He.ga K "Cleared") dx [("field", .ref f), ("lines", .ref L), ("made_of", .ref M)]) c = some (.ins (He.ga K "Cleared") dx [("field", .ref f), ("lines", .ref L), ("made_of", .ref M)]) := upd_same
    walk_at "go"
    intro Pl nP
    have nP : upd H3 c (.ins (He.ga K "Cleared") dx [("field", .ref f), ("lines", .ref L), ("made_of", .ref M)]) Pl = none := nP
    have ho5 : upd (upd H3 c (.ins (He.ga K "Cleared") dx [("field", .ref f), ("lines", .ref L), ("made_of", .ref M)])) Pl (.lst []) c = some (.ins (He.ga K "Cleared") dx [("field", .ref f), ("lines", .ref L), ("made_of", .ref M)]) := upd_at nP ho4
    walk_at "go"
    have hPc : Pl ≠ c := fun z => by rw [z, ho4] at nP; cases nP
    have nP3 : H3 Pl = none := by rw [upd_ne hPc] at nP; exact nP
    have hML : M ≠ L := (new3 M (List.mem_cons_self ..)).2.1
    have hPL : Pl ≠ L := (ne_of_none hL3 nP3).symm
    have hPM : Pl ≠ M := (ne_of_none hM nP3).symm
    have hI : IsC K H0 (upd (upd (upd H3 c (.ins (He.ga K "Cleared") dx [("field", .ref f), ("lines", .ref L), ("made_of", .ref M)])) Pl (.lst [])) c (.ins (He.ga K "Cleared") dx [("field", .ref f), ("lines", .ref L), ("made_of", .ref M), ("places", .ref Pl)])) c f L M Pl ⟨T, onesT n, []⟩ := by
      refine ⟨⟨dx, upd_same⟩, ⟨ls, upd_atN hcL (upd_atN hPL.symm (upd_atN hcL hL3)), ?_, fun l hl => ?_⟩, ⟨ms, upd_atN hMc (upd_atN hPM.symm (upd_atN hMc hM)), ?_, (List.nodup_cons.mp ndM).2, fun l hl => ?_⟩, upd_atN hPc upd_same, ⟨sa.free (frL L (List.mem_cons_self ..)), (new3 M (List.mem_cons_self ..)).2.2.2, s03.free nP3⟩, ⟨hML.symm, hPL.symm, hPM.symm⟩⟩
      · exact ((rL3.upd hcl).upd fun l hl z => by obtain ⟨o, e⟩ := rL3.ex hl; rw [z, nP3] at e; cases e).upd hcl
      · refine ⟨fun z => (List.nodup_cons.mp ndL).1 (z ▸ hl), fun z => (new3 M (List.mem_cons_self ..)).2.2.1 l hl z.symm, fun z => ?_⟩
        obtain ⟨o, e⟩ := rL3.ex hl
        rw [z, nP3] at e; cases e
      · exact ((rM.upd fun l hl => (new3 l (List.mem_cons_of_mem _ hl)).1).upd fun l hl z => by obtain ⟨o, e⟩ := rM.ex hl; rw [z, nP3] at e; cases e).upd fun l hl => (new3 l (List.mem_cons_of_mem _ hl)).1
      · refine ⟨(new3 l (List.mem_cons_of_mem _ hl)).2.1, fun z => (List.nodup_cons.mp ndM).1 (z ▸ hl), fun z => ?_, (new3 l (List.mem_cons_of_mem _ hl)).2.2.2⟩
        obtain ⟨o, e⟩ := rM.ex hl
        rw [z, nP3] at e; cases e
    have s5 : Same H0 (upd (upd (upd H3 c (.ins (He.ga K "Cleared") dx [("field", .ref f), ("lines", .ref L), ("made_of", .ref M)])) Pl (.lst [])) c (.ins (He.ga K "Cleared") dx [("field", .ref f), ("lines", .ref L), ("made_of", .ref M), ("places", .ref Pl)])) := same_mut (same_mut s4 (s03.free nP3)) hc0
    have ok0 := start_ok (p := p) (by omega) hT
    rw [hT.len] at ok0
    have e0 : cleared p (inv p) T 0 = ⟨T, onesT n, []⟩ := by unfold cleared; rw [hT.len]; rfl
    refine loop1 (walk_range (lo := 0) (n := w)) 4 (fun i σ H' => Same H0 H' ∧ IsC K H0 H' c f L M Pl (cleared p (inv p) T i) ∧ Ok p n w T (cleared p (inv p) T i) i ∧ ∃ x4, σ = [some (.ref c), some (.ref f), some (.ref t), some (.int w), x4, none, none]) ⟨s5, by rw [e0]; exact hI, by rw [e0]; exact ok0, none, rfl⟩ (fun _ _ _ _ _ => trivial) ?_ ?_
    · rintro i x σ _ H6 hi ⟨s6, I6, ok6, x4, rfl⟩ ⟨rfl, ex⟩
      replace ex : x = .int (i : Int) := ex.trans (congrArg V.int (Int.zero_add _))
      subst ex
      have I6' := I6
      obtain ⟨⟨dx6, ho6⟩, _⟩ := I6'
      unfold t_Cleared___init___1
      walk_at "go"
      intro H7 s7 I7 ok7
      rw [← cleared_succ] at I7 ok7
      exact ⟨s7, I7, ok7, _, rfl⟩
    · rintro σ H6 ⟨s6, I6, ok6, x4, rfl⟩
      exact q H6 L M Pl s6 I6 ok6
theorem Rows.trs {H : Hp} : ∀ {ls : List Addr} {T : List (List Int)}, Rows H ls T → Trs H (ls.map V.ref) (T.map dI) ls
  | [], [], _ => .nil
  | l :: ls, x :: T, r => .cons (f1 := [l]) (f2 := ls) (.lst (r.at_ 0 l x rfl rfl) (Trs.ints x)) (Rows.trs ⟨by have := r.len; simpa using this, fun i l' row e1 e2 => r.at_ (i + 1) l' row e1 e2⟩)
  | [], _ :: _, r => absurd r.len (by simp)
  | _ :: _, [], r => absurd r.len (by simp)
theorem TabAt.rep {H : Hp} {a : Addr} {T : List (List Int)} (t : TabAt H a T) : Rep H (.ref a) (dT T) := let ⟨_, e, r⟩ := t; ⟨_, .lst e r.trs⟩
theorem use_Cleared {K : PySem.W.Frag} {H : Hp} {Q : Addr → Hp → Prop} {E : XK} {f t : Addr} {p : Int} {n w : Nat} {T : List (List Int)} (hf : IsF K H f p) (ht : TabAt H t T) (hT : Sh p n w T) (hn : n < 1000) (hw : w < 1000)
    (q : ∀ c H' L M Pl, H c = none → Same H H' → IsC K H H' c f L M Pl (cleared p (inv p) T w) → Ok p n w T (cleared p (inv p) T w) w → Q c H') :
    ∀ x dx, H x = none → H dx = none → dx ≠ x → sp_Cleared___init__ K (.ref x :: ([.ref f, .ref t, .int w] ++ [])) (upd (upd H dx (.own x)) x (.ins (He.ga K "Cleared") dx [])) (fun v H2 => v = .non ∧ Q x H2) E := by
  intro x dx nx nd ne
  exact ⟨rfl, H, x, dx, f, t, p, n, w, T, rfl, upd_same, nx, same_mut (same_new nd) nx, hf, ht, hT, hn, hw, fun H' L M Pl s I o => ⟨rfl, q x H' L M Pl nx s I o⟩⟩
def sp_rank (K : PySem.W.Frag) : Sp := fun vs H Q _ => vs.length = 2 ∧ ∃ (f t : Addr) (p : Int) (n w : Nat) (T : List (List Int)), vs = [.ref f, .ref t] ∧ IsF K H f p ∧ TabAt H t T ∧ Sh p n w T ∧ n < 1000 ∧ w < 1000 ∧
  ((0 < n → Ok p n w T (cleared p (inv p) T w) w) → ∀ H', Same H H' → Q (.int (if T = [] then 0 else (cleared p (inv p) T w).places.length : Nat)) H')
def t_rank (K : PySem.W.Frag) : TS := (tSeq (tIfS (tTest (tOp (rEqD K) (tVar 1) (tLst tNil))) (tRet (tC (.int 0))) tNext) (tRet (tCB (oLen K) (tCons (xFld (He.ga K "Cleared") (xMake (He.ga K "Cleared") (sp_Cleared___init__ K) [] (fun _ => E0) (tCons (tVar 0) (tCons (tVar 1) (tCons (tCB (oLen K) (tCons (tOp (rIxL K) (tVar 1) (tC (.int 0))) tNil)) tNil)))) "places") tNil))))
theorem pu_rank {K : PySem.W.Frag} (vs : List V) (H : Hp) (Q : VK) (E : XK) (h : ∃ (f t : Addr) (p : Int) (n w : Nat) (T : List (List Int)), vs = [.ref f, .ref t] ∧ IsF K H f p ∧ TabAt H t T ∧ Sh p n w T ∧ n < 1000 ∧ w < 1000 ∧
    ((0 < n → Ok p n w T (cleared p (inv p) T w) w) → ∀ H', Same H H' → Q (.int (if T = [] then 0 else (cleared p (inv p) T w).places.length : Nat)) H')) :
    t_rank K { nx := fun _ H' => Q .non H', rt := Q } (start ["field", "table"] vs) H := by
  obtain ⟨f, t, p, n, w, T, rfl, hf, ht, hT, hn, hw, q⟩ := h
  walk_at "go"
  intro e ne
  have se := same_new (H := H) (o := .lst []) ne
  refine eqD_rep 2 (ht.mono se).rep (Rep.nil upd_same) (okd_T 0 T) rfl (by decide) fun b hb => ?_
  have hb : b = true ↔ T = [] := hb.trans ⟨fun z => dT_inj (ys := []) z, fun z => (by rw [z]; rfl)⟩
  walk_at "go"
  refine iteB (fun c => ?_) (fun c => ?_)
  · have hT0 := hb.mp c
    walk_at "go"
    have := q (fun z => absurd hT.len (by rw [hT0]; show ¬ 0 = n; omega)) _ se
    rw [if_pos hT0] at this
    exact this
  · have hT0 : T ≠ [] := fun z => by rw [hb.mpr z] at c; cases c
    have h0 : 0 < n := by rw [← hT.len]; exact List.length_pos_iff.mpr hT0
    obtain ⟨ls, hl, hr⟩ := ht.mono se
    obtain ⟨l0, e0, _, hr0⟩ := hr.row (i := 0) (by rw [hT.len]; exact h0)
    have a0 : atI (ls.map V.ref) 0 = some (.ref l0) := at_refs (by omega) e0
    have sq := SqL.of (K := K) hl
    have sq0 := SqLo (SqL.of (K := K) hr0)
    have hlen : ((T.getD 0 []).map V.int).length = w := by rw [List.length_map]; exact hT.rlen h0
    have hf1 := hf.mono se
    walk_at "go"
    rw [hlen]
    refine use_Cleared hf1 ⟨ls, hl, hr⟩ hT hn hw fun c H' L M Pl nc s I o => ?_
    obtain ⟨⟨dxc, hoc⟩, _, _, hPc, _, _⟩ := I
    have sqP := SqLo (SqL.of (K := K) hPc)
    walk_at "go"
    have := q (fun _ => o) _ (se.trans s)
    rw [if_neg hT0] at this
    rw [List.length_map]
    exact this
theorem cutV_take {xs : List V} {w : Nat} : cutV xs none (some (w : Int)) = xs.take w := by
  unfold cutV
  rw [HT.sIx_none, HT.sIx_nat, List.drop_zero, Nat.sub_zero, List.take_eq_take_iff]
  omega
def sp_reader (K : PySem.W.Frag) : Sp := fun vs H Q _ => vs.length = 3 ∧ ∃ (f t : Addr) (p : Int) (n w : Nat) (T : List (List Int)), vs = [.ref f, .ref t, .int w] ∧ IsF K H f p ∧ TabAt H t T ∧ Sh p n w T ∧ n < 1000 ∧ w < 1000 ∧
  (Ok p n w T (cleared p (inv p) T w) w → (readM p (inv p) T w = none → ∀ H', Same H H' → Q .non H') ∧ ∀ R, readM p (inv p) T w = some R → ∀ H' r, Same H H' → New H H' (.ref r) (dT R) → Q (.ref r) H')
def t_reader (K : PySem.W.Frag) : TS := (tSeq (tAsg (xMake (He.ga K "Cleared") (sp_Cleared___init__ K) [] (fun _ => E0) (tCons (tVar 0) (tCons (tVar 1) (tCons (tVar 2) tNil)))) (gName 3)) (tSeq (tIfS (tTest (tOp oLt (tCB (oLen K) (tCons (xFld (He.ga K "Cleared") (tVar 3) "places") tNil)) (tVar 2))) (tRet (tC .non)) tNext) (tRet (tSl (rSlL K) (xFld (He.ga K "Cleared") (tVar 3) "made_of") tNoPart (tPart (tVar 2))))))
theorem pu_reader {K : PySem.W.Frag} (vs : List V) (H : Hp) (Q : VK) (E : XK) (h : ∃ (f t : Addr) (p : Int) (n w : Nat) (T : List (List Int)), vs = [.ref f, .ref t, .int w] ∧ IsF K H f p ∧ TabAt H t T ∧ Sh p n w T ∧ n < 1000 ∧ w < 1000 ∧
    (Ok p n w T (cleared p (inv p) T w) w → (readM p (inv p) T w = none → ∀ H', Same H H' → Q .non H') ∧ ∀ R, readM p (inv p) T w = some R → ∀ H' r, Same H H' → New H H' (.ref r) (dT R) → Q (.ref r) H')) :
    t_reader K { nx := fun _ H' => Q .non H', rt := Q } (start ["field", "table", "many", "cleared"] vs) H := by
  obtain ⟨f, t, p, n, w, T, rfl, hf, ht, hT, hn, hw, q⟩ := h
  walk_at "go"
  refine use_Cleared hf ht hT hn hw fun c H' L M Pl nc s I o => ?_
  obtain ⟨q0, q1⟩ := q o
  obtain ⟨⟨dxc, hoc⟩, _, ⟨ms, hM, rM, ndM, nM⟩, hPc, fr, _⟩ := I
  have sqP := SqLo (SqL.of (K := K) hPc)
  have sqM := SqL.of (K := K) hM
  walk_at "go"
  refine iteD (fun c => ?_) (fun c => ?_)
  · rw [List.length_map] at c
    walk_at "go"
    exact q0 (by unfold readM; rw [if_pos (by omega)]) _ s
  · rw [List.length_map] at c
    walk_at "go"
    intro r nr
    refine q1 _ (by unfold readM; rw [if_neg (by omega)]) _ r (s.trans (same_new nr)) ?_
    rw [cutV_take]
    have rM2 := (rM.mono (same_new (o := .lst ((ms.map V.ref).take w)) nr))
    have ut : Rows (upd H' r (.lst ((ms.map V.ref).take w))) (ms.take w) ((cleared p (inv p) T w).made.take w) := by
      refine ⟨by rw [List.length_take, List.length_take, rM.len], fun i l row e1 e2 => ?_⟩
      rw [List.getElem?_take] at e1 e2
      split at e1
      · rw [if_pos (by assumption)] at e2
        exact rM2.at_ i l row e1 e2
      · cases e1
    refine ⟨r :: ms.take w, .lst (by rw [upd_same, List.map_take]) ut.trs, List.nodup_cons.mpr ⟨fun z => ?_, ndM.sublist (List.take_sublist _ _)⟩, fun b hb => ?_⟩
    · obtain ⟨o, e⟩ := rM.ex (List.mem_of_mem_take z)
      rw [nr] at e; cases e
    · rcases List.mem_cons.mp hb with rfl | hb
      · exact s.free nr
      · exact (nM b (List.mem_of_mem_take hb)).2.2.2
theorem inV_nats {ps : List Nat} {i : Nat} : inV (.int (i : Int)) (ps.map fun (q : Nat) => V.int q) = ps.contains i := by
  unfold inV
  rw [List.any_map]
  induction ps with
  | nil => rfl
  | cons q ps ih =>
    rw [List.any_cons, ih, List.contains_cons]
    congr 1
    show ((q : Int) == (i : Int)) = (i == q)
    rw [Bool.eq_iff_iff]
    simp
    omega
theorem flat_nats (ps : List Nat) : (ps.map fun (q : Nat) => V.int q).all flatV = true := by
  rw [List.all_map]; exact List.all_eq_true.mpr fun _ _ => rfl
def sp_nought (K : PySem.W.Frag) : Sp := fun vs H Q _ => vs.length = 3 ∧ ∃ (f t : Addr) (p : Int) (n w : Nat) (T : List (List Int)), vs = [.ref f, .ref t, .int w] ∧ IsF K H f p ∧ TabAt H t T ∧ Sh p n w T ∧ n < 1000 ∧ w < 1000 ∧
  (Ok p n w T (cleared p (inv p) T w) w → (noughtM p (inv p) T w = none → ∀ H', Same H H' → Q .non H') ∧ ∀ R, noughtM p (inv p) T w = some R → ∀ H' r, Same H H' → H r = none → Row H' r R → Q (.ref r) H')
def t_nought_1 (K : PySem.W.Frag) : TS := (tAsg (xMeth (He.ga K "Field") "minus" (sp_Field_minus K) [] (fun _ => E0) (tVar 0) (tCons (tC (.int 0)) (tCons (tOp (rIxL K) (tOp (rIxL K) (xFld (He.ga K "Cleared") (tVar 3) "lines") (tVar 7)) (tOp (rIxL K) (tVar 5) (tC (.int 0)))) tNil))) (gSub (tVar 6) (tVar 4) rSetL))
def t_nought_2 (K : PySem.W.Frag) : TS := (tRet (tVar 6))
def t_nought (K : PySem.W.Frag) : TS := (tSeq (tAsg (xMake (He.ga K "Cleared") (sp_Cleared___init__ K) [] (fun _ => E0) (tCons (tVar 0) (tCons (tVar 1) (tCons (tVar 2) tNil)))) (gName 3)) (tSeq (tAsg (tLc (iRng1 (tCons (tVar 2) tNil)) (gName 4) (tTest (tOp (rIn K true) (tVar 4) (xFld (He.ga K "Cleared") (tVar 3) "places"))) (tVar 4) [8, 4]) (gName 5)) (tSeq (tIfS (tTest (tOp (rEqD K) (tVar 5) (tLst tNil))) (tRet (tC .non)) tNext) (tSeq (tAsg (tLc (iRng1 (tCons (tVar 2) tNil)) (gName 4) tYes (tC (.int 0)) [8, 4]) (gName 6)) (tSeq (tAsg (tC (.int 1)) (gSub (tVar 6) (tOp (rIxL K) (tVar 5) (tC (.int 0))) rSetL)) (tSeq (tFor (iEnum K (tCons (xFld (He.ga K "Cleared") (tVar 3) "places") tNil)) (gTup K 2 (gCons (gName 7) (gCons (gName 4) gNil))) (t_nought_1 K)) (t_nought_2 K)))))))
theorem pu_nought {K : PySem.W.Frag} (vs : List V) (H : Hp) (Q : VK) (E : XK) (h : ∃ (f t : Addr) (p : Int) (n w : Nat) (T : List (List Int)), vs = [.ref f, .ref t, .int w] ∧ IsF K H f p ∧ TabAt H t T ∧ Sh p n w T ∧ n < 1000 ∧ w < 1000 ∧
    (Ok p n w T (cleared p (inv p) T w) w → (noughtM p (inv p) T w = none → ∀ H', Same H H' → Q .non H') ∧ ∀ R, noughtM p (inv p) T w = some R → ∀ H' r, Same H H' → H r = none → Row H' r R → Q (.ref r) H')) :
    t_nought K { nx := fun _ H' => Q .non H', rt := Q } (start ["field", "table", "many", "cleared", "place", "free", "row", "k", ".0"] vs) H := by
  obtain ⟨f, t, p, n, w, T, rfl, hf, ht, hT, hn, hw, q⟩ := h
  have h10 : (1000 : Nat) < sizeLine := by decide
  have hp := hf.pos
  walk_at "go"
  refine use_Cleared hf ht hT hn hw fun co H1 L M Pl nc s1 I o => ?_
  obtain ⟨q0, q1⟩ := q o
  unfold noughtM at q0 q1
  generalize cleared p (inv p) T w = s at *
  obtain ⟨⟨dxc, hoc⟩, ⟨ls, hL, rL, _⟩, _, hPc, _, _⟩ := I
  have hf1 := hf.mono s1
  walk_at "go"
  refine lcF walk_range (fun i => !s.places.contains i) (fun i => .int (i : Int)) (show w < sizeLine by omega) (fun _ _ => trivial) ?_ ?_
  · rintro i x _ H2 F F' hi s2 ⟨rfl, ex⟩ hF hF'
    replace ex : x = .int (i : Int) := ex.trans (congrArg V.int (Int.zero_add _))
    subst ex
    refine ⟨rfl, ?_⟩
    have hoc2 := s2 _ _ hoc
    have sP := SqLo (SqL.of (K := K) (s2 _ _ hPc))
    have fl := flat_nats s.places
    walk_at "go"
    rw [if_pos rfl, inV_nats]
    cases hc : s.places.contains i with
    | true => exact iteF (hF' (by rw [hc]; rfl) _ (Same.refl _))
    | false =>
      refine iteT ?_
      walk_at "go"
      exact hF (by rw [hc]; rfl) _ (Same.refl _)
  · intro fr H2 nf s2 ef
    rw [show (w : Int).toNat = w from rfl, givn_list (List.range w) (fun q => !s.places.contains q) (fun q => V.int q) (fun i => !s.places.contains i) _ (fun i x e => by
        have := (List.getElem?_eq_some_iff.mp e).2
        rw [List.getElem_range] at this
        rw [this]) (fun i x e => by
        have := (List.getElem?_eq_some_iff.mp e).2
        rw [List.getElem_range] at this
        rw [this]) w (by rw [List.length_range]; exact Nat.le_refl _), show (List.range w).take w = List.range w from List.take_of_length_le (by rw [List.length_range]; exact Nat.le_refl _)] at ef
    have ef : H2 fr = some (.lst ((freeP s w).map fun (q : Nat) => V.int q)) := ef
    have efI : H2 fr = some (.lst (((freeP s w).map fun (q : Nat) => (q : Int)).map V.int)) := by rw [ef, List.map_map]; rfl
    have s12 := s1.trans s2
    walk_at "go"
    intro e ne
    have se := same_new (H := H2) (o := .lst []) ne
    refine eqD_rep 1 (d := dI ((freeP s w).map fun (q : Nat) => (q : Int))) (e := dI []) (Rep.of_ints (se _ _ efI)) (Rep.of_ints upd_same) (okd_I 0 _) (okd_I 0 _) (by decide) fun b hb => ?_
    have hb : b = true ↔ freeP s w = [] := hb.trans ⟨fun z => List.map_eq_nil_iff.mp (dI_inj z), fun z => (by rw [z]; rfl)⟩
    walk_at "go"
    refine iteB (fun c => ?_) (fun c => ?_)
    · rw [hb.mp c] at q0
      walk_at "go"
      exact q0 rfl _ (s12.trans se)
    · cases hfr : freeP s w with
      | nil => rw [hb.mpr hfr] at c; cases c
      | cons c0 rest =>
        rw [hfr] at q1 ef
        have hc0 : c0 < w := List.mem_range.mp (List.mem_filter.mp (show c0 ∈ freeP s w by rw [hfr]; exact List.mem_cons_self ..)).1
        walk_at "go"
        refine lcA walk_range (fun _ => .int 0) (show w < sizeLine by omega) (fun _ _ => trivial) ?_ ?_
        · rintro i x _ H3 F hi s3 ⟨rfl, ex⟩ hF
          refine ⟨rfl, ?_⟩
          walk_at "go"
          exact hF _ (Same.refl _)
        · intro r H3 nr s3 er
          rw [show (w : Int).toNat = w from rfl, givn_all] at er
          have er : H3 r = some (.lst (((List.range w).map fun _ => (0 : Int)).map V.int)) := by rw [er, List.map_map]; rfl
          have s23 := se.trans s3
          have s13 := s12.trans s23
          have ef3 := s23 _ _ ef
          have sf3 := SqL.of (K := K) ef3
          have a0 : atI ((c0 :: rest).map fun (q : Nat) => V.int q) 0 = some (.int c0) := at_of (show (0 : Int) = ((0 : Nat) : Int) from rfl) rfl
          have lz : (((List.range w).map fun _ => (0 : Int)).map V.int).length = w := by rw [List.length_map, List.length_map, List.length_range]
          have ix0 : ixN (((List.range w).map fun _ => (0 : Int)).map V.int).length (c0 : Int) = some c0 := ixN_of (by rw [lz]; exact hc0)
          have hoc3 := s23 _ _ (s2 _ _ hoc)
          have hP3 := s23 _ _ (s2 _ _ hPc)
          have hL3 := s23 _ _ (s2 _ _ hL)
          have rL3 := (rL.mono s2).mono s23
          have nr2 : H2 r = none := se.free nr
          have hoc4 : upd H3 r (.lst ((((List.range w).map fun _ => (0 : Int)).map V.int).set c0 (.int 1))) co = _ := upd_atN (ne_of_none (s2 _ _ hoc) nr2) hoc3
          have hP4 : upd H3 r (.lst ((((List.range w).map fun _ => (0 : Int)).map V.int).set c0 (.int 1))) Pl = _ := upd_atN (ne_of_none (s2 _ _ hPc) nr2) hP3
          have sP4 := SqL.of (K := K) hP4
          walk_at "go"
          have s4 : Same H2 (upd H3 r (.lst ((((List.range w).map fun _ => (0 : Int)).map V.int).set c0 (.int 1)))) := same_mut s23 nr2
          have hr4 : upd H3 r (.lst ((((List.range w).map fun _ => (0 : Int)).map V.int).set c0 (.int 1))) r = some (.lst ((rowAt p s c0 w 0).map V.int)) := by
            rw [upd_same]
            show _ = some (HO.lst ((((List.range w).map fun _ => (0 : Int)).set c0 1).map V.int))
            rw [List.map_set]
          generalize upd H3 r (.lst ((((List.range w).map fun _ => (0 : Int)).map V.int).set c0 (.int 1))) = H4 at *
          refine loop2 (walk_enum (xs := s.places.map fun (q : Nat) => V.int q)) 7 4 (fun i σ H' => Same H2 H' ∧ H' r = some (.lst ((rowAt p s c0 w i).map V.int)) ∧ ∃ x4 x7, σ = [some (.ref f), some (.ref t), some (.int w), some (.ref co), x4, some (.ref fr), some (.ref r), x7, none]) ⟨s4, hr4, _, _, rfl⟩ (fun i σ H' _ h => SqL.of (h.1 _ _ (s2 _ _ hPc))) ?_ ?_
          · rintro i x y σ H5 H6 hi ⟨s5, hr5, x4, x7, rfl⟩ hx hy s6
            cases hx
            rw [List.getElem?_map] at hy
            cases ey : s.places[i]? with
            | none => rw [ey] at hy; cases hy
            | some pq =>
              rw [ey] at hy
              cases hy
              have hpi : i < s.places.length := (List.getElem?_eq_some_iff.mp ey).1
              have hin : i < n := Nat.lt_of_lt_of_le hpi o.le
              have hpw : pq < w := o.pl _ (List.mem_of_getElem? ey)
              have s56 := s5.trans s6
              have hoc6 := s56 _ _ (s2 _ _ hoc)
              have hL6 := SqL.of (K := K) (s56 _ _ (s2 _ _ hL))
              have sf6 := SqL.of (K := K) (s56 _ _ ef)
              obtain ⟨l, el, _, hl⟩ := ((rL.mono s2).mono s56).row (i := i) (by rw [o.shL.len]; exact hin)
              have a1 := at_refsN el
              have a2 : atI ((s.lines.getD i []).map V.int) (c0 : Int) = some (.int (g2 s.lines i c0)) := at_intsN (by rw [o.shL.rlen hin]; exact hc0)
              have sl := SqL.of (K := K) hl
              have hf6 := hf.mono (s12.trans s56)
              have hf6' := hf6
              obtain ⟨dxf, hfo, _⟩ := hf6'
              have hr6 := s6 _ _ hr5
              have ixp : ixN ((rowAt p s c0 w i).map V.int).length (pq : Int) = some pq := ixN_of (by rw [List.length_map, rowAt_len]; exact hpw)
              unfold t_nought_1
              walk_at "go"
              refine ⟨same_mut s56 nr2, ?_, _, _, rfl⟩
              rw [upd_same, rowAt_succ, List.map_set, show s.places.getD i 0 = pq by rw [List.getD_eq_getElem?_getD, ey]; rfl]
          · rintro σ H5 ⟨s5, hr5, x4, x7, rfl⟩
            unfold t_nought_2
            walk_at "go"
            rw [List.length_map] at hr5
            exact q1 _ rfl _ r (s12.trans s5) (s12.free nr2) hr5
end Mx

set_option Elab.async false
set_option linter.all false
set_option maxRecDepth 100000
set_option maxHeartbeats 1000000
namespace Mx
open PySem PySem.Spec PyProof.Rows L2 Nt Tb
local macro_rules | `(tactic| walk_at "side") => `(tactic| first
  | assumption
  | rfl
  | exact upd_same
  | exact sqL_new
  | exact ⟨_, sqL_new⟩
  | exact ⟨_, by assumption⟩
  | exact sqT_new
  | exact ⟨_, sqT_new⟩
  | exact ⟨_, sqL_upd (by assumption) (by assumption)⟩
  | exact sqL_upd (by assumption) (by assumption)
  | (refine upd_at ?_ ?_ <;> assumption)
  | exact ty_lst (by assumption)
  | exact ty_lst upd_same
  | exact SqL.of (by assumption)
  | exact .inl (SqL.of (by assumption))
  | exact ⟨_, SqL.of (by assumption)⟩
  | omega
  | exact Nat.le_of_ble_eq_true rfl
  | decide)
local macro_rules | `(tactic| walk_at "go1") => `(tactic| first
  | (fail_if_success (show ∃ W : Nat → Nat → L2.St → Hp → Prop, _)
     fail_if_success (show ∃ W : Nat → L2.St → Hp → Prop, _)
     fail_if_success (show ∃ W : L2.St → Hp → Prop, _)
     apply Exists.intro)
  | (refine And.intro ?_ ?_; (walk_at "side")))
local macro_rules | `(tactic| walk_at "nrm") => `(tactic| dsimp only [tSeq, tAsg, tC, gName, tNext, tIfS, tRet, tDrop, tTest, tB, L2.start, List.map, List.length, List.replicate, List.cons_append, List.nil_append, List.set_cons_zero, List.set_cons_succ])
local macro_rules | `(tactic| walk_at "go") => `(tactic| repeat (walk_at "go1"))
def sp_law_cell_at (K : PySem.W.Frag) : Sp := fun vs H Q _ => vs.length = 2 ∧ ∃ (a : Addr) (ns : List Int) (k : Int), vs = [.ref a, .int k] ∧ SqL K H a (ns.map V.int) ∧ 0 ≤ k ∧ ∀ n, Q (.int n) H
def t_law_cell_at (K : PySem.W.Frag) : TS := (tSeq (tIfS (tTest (tOp oLt (tVar 1) (tCB (oLen K) (tCons (tVar 0) tNil)))) (tRet (tOp (rIxL K) (tVar 0) (tVar 1))) tNext) (tRet (tC (.int 0))))
theorem pu_law_cell_at {K : PySem.W.Frag} (vs : List V) (H : Hp) (Q : VK) (E : XK) (h : ∃ (a : Addr) (ns : List Int) (k : Int), vs = [.ref a, .int k] ∧ SqL K H a (ns.map V.int) ∧ 0 ≤ k ∧ ∀ n, Q (.int n) H) :
    t_law_cell_at K { nx := fun _ H' => Q .non H', rt := Q } (start ["script", "k"] vs) H := by
  obtain ⟨a, ns, k, rfl, hs, hk, q⟩ := h
  have hs' : SqL K H a (ns.map V.int) ∨ SqT K H a (ns.map V.int) := .inl hs
  walk_at "go"
  refine iteD (fun c => ?_) (fun c => ?_)
  · rw [List.length_map] at c
    have e2 := at_ints (xs := ns) hk c
    walk_at "go"
    exact q _
  · walk_at "nrm"
    exact q _
def sp_law_mixed (K : PySem.W.Frag) : Sp := fun vs H Q _ => vs.length = 2 ∧ ∃ c k, vs = [.int c, .int k] ∧ 0 ≤ k ∧ k < 1000 ∧ ∀ n, 0 ≤ n → n < 2147483647 → Q (.int n) H
def t_law_mixed_1 (K : PySem.W.Frag) : TS := (tAsg (tOp oFdv (tVar 2) (tOp oPow (tC (.int 10)) (tC (.int 9)))) (gName 2))
def t_law_mixed_2 (K : PySem.W.Frag) : TS := (tSeq (tIfS (tTest (tOp oGt (tVar 2) (tC (.int 0)))) (tRet (tOp oMod (tVar 2) (tOp oPow (tC (.int 10)) (tC (.int 9))))) tNext) (tSeq (tAsg (tOp oMod (tOp oMul (tOp oAdd (tOp oAdd (tVar 0) (tOp oMul (tC (.int 7919)) (tVar 1))) (tC (.int 1))) (tC (.int 48271))) (tC (.int 2147483647))) (gName 4)) (tRet (tOp oMod (tOp oMul (tVar 4) (tOp oAdd (tOp oFdv (tVar 4) (tC (.int 1009))) (tC (.int 69621)))) (tC (.int 2147483647))))))
def t_law_mixed (K : PySem.W.Frag) : TS := (tSeq (tAsg (tVar 0) (gName 2)) (tSeq (tFor (iRng1 (tCons (tOp oAdd (tVar 1) (tC (.int 1))) tNil)) (gName 3) (t_law_mixed_1 K)) (t_law_mixed_2 K)))
theorem pu_law_mixed {K : PySem.W.Frag} (vs : List V) (H : Hp) (Q : VK) (E : XK) (h : ∃ c k, vs = [.int c, .int k] ∧ 0 ≤ k ∧ k < 1000 ∧ ∀ n, 0 ≤ n → n < 2147483647 → Q (.int n) H) :
    t_law_mixed K { nx := fun _ H' => Q .non H', rt := Q } (start ["cell", "k", "left", "turn", "number"] vs) H := by
  obtain ⟨c, k, rfl, h0, h1, q⟩ := h
  have w3 : CPow 10 9 := ⟨by decide, by decide, by decide⟩
  have p9 : (0 : Int) < 10 ^ (9 : Int).toNat := by decide
  walk_at "go"
  refine loop1 (walk_range (lo := 0) (n := (k + 1).toNat)) 3 (fun i σ H' => H' = H ∧ ∃ (l : Int) (x3 : Option V), σ = [some (.int c), some (.int k), some (.int l), x3, none]) ⟨rfl, c, none, rfl⟩ (fun _ _ _ _ _ => trivial) ?_ ?_
  · rintro i x σ _ H1 hi ⟨rfl, l, x3, rfl⟩ ⟨rfl, ex⟩
    have d1 : CDivW l (10 ^ (9 : Int).toNat) := ⟨by decide, by decide⟩
    unfold t_law_mixed_1
    walk_at "go"
    exact ⟨rfl, _, _, rfl⟩
  · rintro σ _ ⟨rfl, l, x3, rfl⟩
    unfold t_law_mixed_2
    walk_at "go"
    refine iteD (fun c1 => ?_) (fun c1 => ?_)
    · walk_at "go"
      refine q _ (Int.emod_nonneg _ (by decide)) ?_
      have := Int.emod_lt_of_pos l p9
      have e : (10 : Int) ^ (9 : Int).toNat = 1000000000 := by decide
      rw [e] at this ⊢
      omega
    · have m1 : CMul 7919 k := .inl (by decide)
      have m2 : CMul (c + 7919 * k + 1) 48271 := .inr (by decide)
      have b0 := Int.emod_nonneg ((c + 7919 * k + 1) * 48271) (show (2147483647 : Int) ≠ 0 by decide)
      have b1 := Int.emod_lt_of_pos ((c + 7919 * k + 1) * 48271) (show (0 : Int) < 2147483647 by decide)
      have d1 : CDivW ((c + 7919 * k + 1) * 48271 % 2147483647) 1009 := ⟨by decide, by decide⟩
      have m3 : CMul ((c + 7919 * k + 1) * 48271 % 2147483647) ((c + 7919 * k + 1) * 48271 % 2147483647 / 1009 + 69621) := .inl ⟨by omega, by omega⟩
      walk_at "go"
      exact q _ (Int.emod_nonneg _ (by decide)) (Int.emod_lt_of_pos _ (by decide))
theorem ints_of {P : Int → Prop} : ∀ (ys : List V), (∀ (i : Nat) (v : V), ys[i]? = some v → ∃ n, v = .int n ∧ P n) → ∃ xs : List Int, ys = xs.map V.int ∧ xs.length = ys.length ∧ ∀ x ∈ xs, P x
  | [], _ => ⟨[], rfl, rfl, fun x h => by cases h⟩
  | y :: ys, h => by
    obtain ⟨n, rfl, hn⟩ := h 0 y rfl
    obtain ⟨xs, rfl, e, hx⟩ := ints_of ys fun i v e => h (i + 1) v e
    refine ⟨n :: xs, rfl, by simp, fun x hm => ?_⟩
    rcases List.mem_cons.mp hm with rfl | hm
    · exact hn
    · exact hx x hm
def sp_law_sum (K : PySem.W.Frag) : Sp := fun vs H Q _ => vs.length = 3 ∧ ∃ (p : Int) (a b : Addr) (xs ys : List Int), vs = [.int p, .ref a, .ref b] ∧ (2 ≤ p ∧ p ≤ 1000000) ∧ Row H a xs ∧ Row H b ys ∧ In p xs ∧ xs.length < 1000 ∧ ∀ H', Same H H' → Q (.int (dot xs ys % p)) H'
theorem sum_dot : ∀ (xs ys : List Int), ((List.range (min xs.length ys.length)).map fun i => xs.getD i 0 * ys.getD i 0).sum = dot xs ys
  | [], ys => by simp [dot]
  | x :: xs, [] => by simp [dot]
  | x :: xs, y :: ys => by
    have ih := sum_dot xs ys
    have e : min (x :: xs).length (y :: ys).length = min xs.length ys.length + 1 := by simp only [List.length_cons]; omega
    rw [e, List.range_succ_eq_map, List.map_cons, List.map_map, List.sum_cons]
    show x * y + _ = x * y + dot xs ys
    rw [← ih]
    rfl
def t_law_sum (K : PySem.W.Frag) : TS := (tRet (tOp oMod (tCB (rSum K) (tCons (tLc (iZip K (tCons (tVar 1) (tCons (tVar 2) tNil))) (gTup K 2 (gCons (gName 4) (gCons (gName 5) gNil))) tYes (tOp oMul (tVar 4) (tVar 5)) [3, 4, 5]) tNil)) (tVar 0)))
theorem pu_law_sum {K : PySem.W.Frag} (vs : List V) (H : Hp) (Q : VK) (E : XK) (h : ∃ (p : Int) (a b : Addr) (xs ys : List Int), vs = [.int p, .ref a, .ref b] ∧ (2 ≤ p ∧ p ≤ 1000000) ∧ Row H a xs ∧ Row H b ys ∧ In p xs ∧ xs.length < 1000 ∧ ∀ H', Same H H' → Q (.int (dot xs ys % p)) H') :
    t_law_sum K { nx := fun _ H' => Q .non H', rt := Q } (start ["prime", "one", "other", ".0", "left", "right"] vs) H := by
  obtain ⟨p, a, b, xs, ys, rfl, hp, ha, hb, hx, hl, q⟩ := h
  have h10 : (1000 : Nat) < sizeLine := by decide
  have sa : SqL K H a (xs.map V.int) := SqL.of ha
  have sb : SqL K H b (ys.map V.int) := SqL.of hb
  have hmin : min (xs.map V.int).length (ys.map V.int).length < sizeLine := by
    rw [List.length_map, List.length_map]; omega
  walk_at "go"
  refine lcA (walk_zip (xs := xs.map V.int) (ys := ys.map V.int) rfl) (fun i => .int (xs.getD i 0 * ys.getD i 0)) hmin (fun H' s => ⟨s.seq sa, s.seq sb⟩) ?_ ?_
  · rintro i x H1 H2 F hi s1 hy hF
    obtain ⟨T, x1, y1, rfl, nT, rfl, e1, e2⟩ := hy
    obtain ⟨i1, rfl, ex⟩ := ints_at e1
    obtain ⟨i2, rfl, ey⟩ := ints_at e2
    have s2 := same_new (o := .tup [.int (xs.getD i 0), .int (ys.getD i 0)]) nT
    have rx := hx _ (Tb.getD_mem i1)
    have mm : CMul (xs.getD i 0) (ys.getD i 0) := .inl ⟨by omega, by omega⟩
    walk_at "go"
    exact hF _ s2
  · intro r H2 np s2 er
    rw [List.length_map, List.length_map, givn_all] at er
    have er : SqL K H2 r (((List.range (min xs.length ys.length)).map fun i => xs.getD i 0 * ys.getD i 0).map V.int) := SqL.of (by rw [er, List.map_map]; rfl)
    walk_at "go"
    show Q (.int (_ % p)) H2
    rw [sum_dot]
    exact q _ s2
theorem AccL.rows {H0 H : Hp} {o : Addr} {vs : List V} {T : List (List Int)} (a : AccL H0 H o vs (T.map dI)) : ∃ ls : List Addr, vs = ls.map V.ref ∧ Rows H ls T := by
  obtain ⟨_, fp, t, _⟩ := a
  obtain ⟨e, r⟩ := Trs.table t
  exact ⟨fp, e, r⟩
def sp_law_table (K : PySem.W.Frag) : Sp := fun vs H Q _ => vs.length = 4 ∧ ∃ (c p h w : Int), vs = [.int c, .int p, .int h, .int w] ∧ (2 ≤ p ∧ p ≤ 1000000) ∧ (0 ≤ h ∧ h ≤ 10) ∧ (0 ≤ w ∧ w ≤ 10) ∧
  ∀ H' r T, Same H H' → New H H' (.ref r) (dT T) → Sh p h.toNat w.toNat T → Q (.ref r) H'
def t_law_table_1 (K : PySem.W.Frag) : TS := (tDrop (tBM K "list" rAppend (tVar 4) (tCons (tVar 6) tNil)))
def t_law_table_2 (K : PySem.W.Frag) : TS := (tSeq (tIfS (tAnd (tTest (tOp rEq (tOp oMod (tOp oFdv (tVar 0) (tC (.int 3))) (tC (.int 3))) (tC (.int 2)))) (tAnd (tTest (tOp oGt (tVar 5) (tC (.int 1)))) (tTest (tOp rEq (tOp oMod (tCallSD (sp_law_mixed K) [] (fun _ => E0) (tCons (tVar 0) (tCons (tOp oAdd (tC (.int 500)) (tVar 5)) tNil))) (tC (.int 2))) (tC (.int 0)))))) (tAsg (tLc (iZip K (tCons (tOp (rIxL K) (tVar 4) (tC (.int 0))) (tCons (tOp (rIxL K) (tVar 4) (tOp oSub (tVar 5) (tC (.int 1)))) tNil))) (gTup K 2 (gCons (gName 10) (gCons (gName 11) gNil))) tYes (tOp oMod (tOp oAdd (tVar 10) (tVar 11)) (tVar 1)) [8, 10, 11]) (gName 6)) tNext) (t_law_table_1 K))
def t_law_table_3 (K : PySem.W.Frag) : TS := (tSeq (tAsg (tLc (iRng1 (tCons (tVar 3) tNil)) (gName 9) tYes (tOp oMod (tCallSD (sp_law_mixed K) [] (fun _ => E0) (tCons (tVar 0) (tCons (tOp oAdd (tOp oMul (tC (.int 13)) (tVar 5)) (tVar 9)) tNil))) (tOp (rIxL K) (tLst (tCons (tVar 1) (tCons (tC (.int 2)) (tCons (tC (.int 2)) tNil)))) (tOp oMod (tVar 0) (tC (.int 3))))) [8, 9]) (gName 6)) (tSeq (tIfS (tAnd (tTest (tOp rEq (tOp oMod (tOp oFdv (tVar 0) (tC (.int 3))) (tC (.int 3))) (tC (.int 1)))) (tAnd (tTest (tOp oGt (tVar 5) (tC (.int 0)))) (tTest (tOp rEq (tOp oMod (tCallSD (sp_law_mixed K) [] (fun _ => E0) (tCons (tVar 0) (tCons (tOp oAdd (tC (.int 500)) (tVar 5)) tNil))) (tC (.int 2))) (tC (.int 0)))))) (tSeq (tAsg (tOp oMod (tCallSD (sp_law_mixed K) [] (fun _ => E0) (tCons (tVar 0) (tCons (tOp oAdd (tC (.int 600)) (tVar 5)) tNil))) (tVar 1)) (gName 7)) (tAsg (tLc (iList K (tOp (rIxL K) (tVar 4) (tOp oMod (tCallSD (sp_law_mixed K) [] (fun _ => E0) (tCons (tVar 0) (tCons (tOp oAdd (tC (.int 700)) (tVar 5)) tNil))) (tVar 5)))) (gName 10) tYes (tOp oMod (tOp oMul (tVar 10) (tVar 7)) (tVar 1)) [8, 10]) (gName 6))) tNext) (t_law_table_2 K)))
def t_law_table_4 (K : PySem.W.Frag) : TS := (tRet (tVar 4))
def t_law_table (K : PySem.W.Frag) : TS := (tSeq (tAsg (tLst tNil) (gName 4)) (tSeq (tFor (iRng1 (tCons (tVar 2) tNil)) (gName 5) (t_law_table_3 K)) (t_law_table_4 K)))
theorem tab2 {K : PySem.W.Frag} {D : Ends} {c p h : Int} {w k : Nat} {o r : Addr} {x7 : Option V} {H H1 H2 : Hp} {vs : List V} {T : List (List Int)} {xs : List Int} (hp : 2 ≤ p ∧ p ≤ 1000000) (hk : k < 100) (hw : w ≤ 10) (ac : AccL H H1 o vs (T.map dI)) (hT : Sh p k w T)
    (s2 : Same H1 H2) (nr : H1 r = none) (er : Row H2 r xs) (hx : In p xs) (hl : xs.length = w)
    (hD : ∀ H3 r xs, Same H1 H3 → H1 r = none → Row H3 r xs → In p xs → xs.length = w → D.nx [some (.int c), some (.int p), some (.int h), some (.int w), some (.ref o), some (.int k), some (.ref r), x7, none, none, none, none] (upd H3 o (.lst (vs ++ [.ref r])))) :
    t_law_table_2 K D [some (.int c), some (.int p), some (.int h), some (.int w), some (.ref o), some (.int k), some (.ref r), x7, none, none, none, none] H2 := by
  have h10 : (1000 : Nat) < sizeLine := by decide
  obtain ⟨ls, rfl, rT⟩ := ac.rows
  have ho := ac.at_
  have hlz : (ls.map V.ref).length < sizeLine := by rw [List.length_map, rT.len, hT.len]; omega
  have fin : ∀ H3 r xs, Same H1 H3 → H1 r = none → Row H3 r xs → In p xs → xs.length = w → t_law_table_1 K D [some (.int c), some (.int p), some (.int h), some (.int w), some (.ref o), some (.int k), some (.ref r), x7, none, none, none, none] H3 := by
    intro H3 r xs s3 nr er hx hl
    have ho3 := s3 _ _ ho
    unfold t_law_table_1
    walk_at "go"
    exact hD H3 r xs s3 nr er hx hl
  unfold t_law_table_2
  have d3 : CDivW c 3 := ⟨by decide, by decide⟩
  walk_at "go"
  refine iteEq (fun c1 => ?_) (fun c1 => ?_)
  · walk_at "go"
    refine iteD (fun c2 => ?_) (fun c2 => ?_)
    · walk_at "go"
      intro m m0 m1
      walk_at "go"
      refine iteEq (fun c3 => ?_) (fun c3 => ?_)
      · have ho2 := s2 _ _ ho
        have so2 := SqL.of (K := K) ho2
        obtain ⟨a, ea, _, ra⟩ := rT.row (i := 0) (by rw [hT.len]; omega)
        obtain ⟨b, eb, _, rb⟩ := rT.row (i := k - 1) (by rw [hT.len]; omega)
        have a0 : atI (ls.map V.ref) 0 = some (.ref a) := at_refs (by omega) ea
        have a1 : atI (ls.map V.ref) ((k : Int) - 1) = some (.ref b) := at_refs (by omega) (by rw [show ((k : Int) - 1).toNat = k - 1 by omega]; exact eb)
        have la : (T.getD 0 []).length = w := hT.rlen (by omega)
        have lb : (T.getD (k - 1) []).length = w := hT.rlen (by omega)
        have sa := SqL.of (K := K) (s2 _ _ ra)
        have sb := SqL.of (K := K) (s2 _ _ rb)
        have hmin : min ((T.getD 0 []).map V.int).length ((T.getD (k - 1) []).map V.int).length = w := by rw [List.length_map, List.length_map, la, lb, Nat.min_self]
        walk_at "go"
        refine lcA (walk_zip (xs := (T.getD 0 []).map V.int) (ys := (T.getD (k - 1) []).map V.int) rfl) (fun i => .int (((T.getD 0 []).getD i 0 + (T.getD (k - 1) []).getD i 0) % p)) (by rw [hmin]; omega) (fun H' s => ⟨s.seq sa, s.seq sb⟩) ?_ ?_
        · rintro i x H3 H4 F hi s3 hy hF
          obtain ⟨t, x1, y1, rfl, nt, rfl, e1, e2⟩ := hy
          obtain ⟨i1, rfl, ex⟩ := ints_at e1
          obtain ⟨i2, rfl, ey⟩ := ints_at e2
          have s4 := same_new (o := .tup [.int ((T.getD 0 []).getD i 0), .int ((T.getD (k - 1) []).getD i 0)]) nt
          walk_at "go"
          exact hF _ s4
        · intro q H3 nq s3 eq
          rw [hmin, givn_all] at eq
          refine fin H3 q ((List.range w).map fun i => ((T.getD 0 []).getD i 0 + (T.getD (k - 1) []).getD i 0) % p) (s2.trans s3) (s2.free nq) ?_ (fun x hx => ?_) (by rw [List.length_map, List.length_range])
          · show H3 q = _
            rw [eq, List.map_map]; rfl
          · obtain ⟨i, _, rfl⟩ := List.mem_map.mp hx
            exact mod_range (by omega) _
      · exact fin H2 r xs s2 nr er hx hl
    · exact iteF (fin H2 r xs s2 nr er hx hl)
  · exact iteF (fin H2 r xs s2 nr er hx hl)
theorem pick3 (p c : Int) (hp : 2 ≤ p) : ∃ m, atI [V.int p, .int 2, .int 2] (c % 3) = some (.int m) ∧ 2 ≤ m ∧ m ≤ p := by
  have b0 := Int.emod_nonneg c (show (3 : Int) ≠ 0 by decide)
  have b1 := Int.emod_lt_of_pos c (show (0 : Int) < 3 by decide)
  generalize c % 3 = k at b0 b1
  by_cases k0 : k = 0
  · subst k0; exact ⟨p, rfl, hp, Int.le_refl _⟩
  by_cases k1 : k = 1
  · subst k1; exact ⟨2, rfl, by omega, hp⟩
  have k2 : k = 2 := by omega
  subst k2; exact ⟨2, rfl, by omega, hp⟩
theorem pu_law_table {K : PySem.W.Frag} (vs : List V) (H : Hp) (Q : VK) (E : XK) (h : ∃ (c p h w : Int), vs = [.int c, .int p, .int h, .int w] ∧ (2 ≤ p ∧ p ≤ 1000000) ∧ (0 ≤ h ∧ h ≤ 10) ∧ (0 ≤ w ∧ w ≤ 10) ∧
    ∀ H' r T, Same H H' → New H H' (.ref r) (dT T) → Sh p h.toNat w.toNat T → Q (.ref r) H') :
    t_law_table K { nx := fun _ H' => Q .non H', rt := Q } (start ["cell", "prime", "high", "wide", "rows", "k", "row", "many", ".0", "j", "left", "right"] vs) H := by
  obtain ⟨c, p, h, w, rfl, hp, hh, hw, q⟩ := h
  have h10 : (1000 : Nat) < sizeLine := by decide
  obtain ⟨w, rfl⟩ : ∃ z : Nat, w = (z : Int) := ⟨w.toNat, by omega⟩
  walk_at "go"
  intro o no
  walk_at "go"
  refine loop1 (walk_range (lo := 0) (n := h.toNat)) 5 (fun i σ H' => Same H H' ∧ ∃ vs T x5 x6 x7, AccL H H' o vs (T.map dI) ∧ Sh p i w T ∧ σ = [some (.int c), some (.int p), some (.int h), some (.int w), some (.ref o), x5, x6, x7, none, none, none, none]) ⟨same_new no, [], [], none, none, none, AccL.start no, ⟨rfl, fun r hr => by cases hr⟩, rfl⟩ (fun _ _ _ _ _ => trivial) ?_ ?_
  · rintro k x σ _ H1 hk ⟨s1, vs, T, x5, x6, x7, ac, hT, rfl⟩ ⟨rfl, ex⟩
    replace ex : x = .int (k : Int) := ex.trans (congrArg V.int (Int.zero_add _))
    subst ex
    obtain ⟨m, am, hm⟩ := pick3 p c hp.1
    have d3 : CDivW c 3 := ⟨by decide, by decide⟩
    have hk : k < 100 := by omega
    have fin : ∀ (x7 : Option V) (H3 : Hp) (r : Addr) (xs : List Int), Same H1 H3 → H1 r = none → Row H3 r xs → In p xs → xs.length = w → Same H (upd H3 o (.lst (vs ++ [.ref r]))) ∧ ∃ vs' T' y5 y6 y7, AccL H (upd H3 o (.lst (vs ++ [.ref r]))) o vs' (T'.map dI) ∧ Sh p (k + 1) w T' ∧
        [some (.int c), some (.int p), some (.int h), some (.int (w : Int)), some (.ref o), some (V.int (k : Int)), some (V.ref r), x7, none, none, none, none] = [some (V.int c), some (.int p), some (.int h), some (.int w), some (.ref o), y5, y6, y7, none, none, none, none] := by
      intro x7 H3 r xs s3 nr er hx hl
      refine ⟨same_mut (s1.trans s3) no, vs ++ [.ref r], T ++ [xs], _, _, _, ?_, ⟨by rw [List.length_append, hT.len]; rfl, fun row hr => ?_⟩, rfl⟩
      · rw [List.map_append]
        exact ac.push s3 s1 (New.ints nr er)
      · rcases List.mem_append.mp hr with hr | hr
        · exact hT.row row hr
        · rw [List.mem_singleton.mp hr]; exact ⟨hl, hx⟩
    obtain ⟨ls, rfl, rT⟩ := ac.rows
    have ho := ac.at_
    unfold t_law_table_3
    walk_at "go"
    refine lcH walk_range (fun i v _ => ∃ n, v = .int n ∧ 0 ≤ n ∧ n < p) (fun i v H1 H2 D xs _ _ h => h) (show w < sizeLine by omega) (fun _ _ => trivial) ?_ ?_
    · rintro i x _ H3 F hi s3 ⟨rfl, ex⟩ hF
      replace ex : x = .int (i : Int) := ex.trans (congrArg V.int (Int.zero_add _))
      subst ex
      refine ⟨rfl, ?_⟩
      have hi : i < w := hi
      have m1 : CMul 13 (k : Int) := .inl ⟨by omega, by omega⟩
      walk_at "go"
      intro n n0 n1
      walk_at "go"
      intro l nl
      walk_at "go"
      exact hF _ _ (same_new nl) ⟨_, rfl, Int.emod_nonneg _ (by omega), by have := Int.emod_lt_of_pos n (show 0 < m by omega); omega⟩
    intro r H3 ys nr s3 er hy hyp
    obtain ⟨xs, rfl, hl, hx⟩ := ints_of ys hyp
    have hl : xs.length = w := hl.trans hy
    walk_at "go"
    refine iteEq (fun c1 => ?_) (fun c1 => ?_)
    · walk_at "go"
      refine iteD (fun c2 => ?_) (fun c2 => ?_)
      · walk_at "go"
        intro n n0 n1
        walk_at "go"
        refine iteEq (fun c3 => ?_) (fun c3 => ?_)
        · walk_at "go"
          intro n' n0' n1'
          walk_at "go"
          intro n2 n20 n21
          have sT := SqL.of (K := K) (s3 _ _ ho)
          have z0 := Int.emod_nonneg n2 (show (k : Int) ≠ 0 by omega)
          have z1 := Int.emod_lt_of_pos n2 (show 0 < (k : Int) by omega)
          obtain ⟨a, ea, _, ra⟩ := rT.row (i := (n2 % (k : Int)).toNat) (by rw [hT.len]; omega)
          have a0 : atI (ls.map V.ref) (n2 % (k : Int)) = some (.ref a) := at_refs z0 ea
          have sa := SqL.of (K := K) (s3 _ _ ra)
          have la : (T.getD (n2 % (k : Int)).toNat []).length = w := hT.rlen (by omega)
          have m0 := Int.emod_nonneg n' (show p ≠ 0 by omega)
          have m1 := Int.emod_lt_of_pos n' (show 0 < p by omega)
          walk_at "go"
          refine lcA (walk_list (xs := (T.getD (n2 % (k : Int)).toNat []).map V.int)) (fun i => .int ((T.getD (n2 % (k : Int)).toNat []).getD i 0 * (n' % p) % p)) (by rw [List.length_map, la]; omega) (fun H' s => s.seq sa) ?_ ?_
          · rintro i x _ H4 F hi s4 ⟨rfl, hx⟩ hF
            obtain ⟨_, rfl, _⟩ := ints_at hx
            refine ⟨rfl, ?_⟩
            have mm : CMul ((T.getD (n2 % (k : Int)).toNat []).getD i 0) (n' % p) := .inr ⟨by omega, by omega⟩
            walk_at "go"
            exact hF _ (Same.refl _)
          · intro q H4 nq s4 eq
            rw [List.length_map, la, givn_all] at eq
            refine tab2 hp hk (by omega) ac hT (s3.trans s4) (xs := (List.range w).map fun i => (T.getD (n2 % (k : Int)).toNat []).getD i 0 * (n' % p) % p) (s3.free nq) ?_ (fun x hx => ?_) (by rw [List.length_map, List.length_range]) (fun H5 r' xs' s5 nr' er' hx' hl' => ⟨fin _ H5 r' xs' s5 nr' er' hx' hl'⟩)
            · show H4 q = _
              rw [eq, List.map_map]; rfl
            · obtain ⟨i, _, rfl⟩ := List.mem_map.mp hx
              exact mod_range (by omega) _
        · exact tab2 hp hk (by omega) ac hT s3 nr er hx hl (fun H5 r' xs' s5 nr' er' hx' hl' => ⟨fin _ H5 r' xs' s5 nr' er' hx' hl'⟩)
      · exact tab2 hp hk (by omega) ac hT s3 nr er hx hl (fun H5 r' xs' s5 nr' er' hx' hl' => ⟨fin _ H5 r' xs' s5 nr' er' hx' hl'⟩)
    · exact tab2 hp hk (by omega) ac hT s3 nr er hx hl (fun H5 r' xs' s5 nr' er' hx' hl' => ⟨fin _ H5 r' xs' s5 nr' er' hx' hl'⟩)
  · rintro σ H1 ⟨s1, vs, T, x5, x6, x7, ac, hT, rfl⟩
    unfold t_law_table_4
    walk_at "go"
    exact q H1 o T s1 ac.toNew hT
theorem kind_lst {H : Hp} {a : Addr} {xs : List V} (h : H a = some (.lst xs)) : kindOf H (.ref a) "list" := .inl ⟨⟨xs, h⟩, rfl⟩
def sp_law_rows (K : PySem.W.Frag) : Sp := fun vs H Q _ => vs.length = 4 ∧ ∃ (a : Addr) (n w p : Int) (T : List (List Int)), vs = [.ref a, .int n, .int w, .int p] ∧ TabAt H a T ∧ (0 ≤ n ∧ 0 ≤ w) ∧ Sh p n.toNat w.toNat T ∧ Q (.bl true) H
def t_law_rows_1 (K : PySem.W.Frag) : TS := (tSeq (tIfS (tNot (tB (tCB xIsT (tCons (tVar 5) (tCons (tC (.ty "int")) tNil))))) (tRet (tC (.bl false))) tNext) (tSeq (tIfS (tB (tCB xIsT (tCons (tVar 5) (tCons (tC (.ty "bool")) tNil)))) (tRet (tC (.bl false))) tNext) (tIfS (tNot (tTest (tChain oLe oLt (tC (.int 0)) (tVar 5) (tVar 3)))) (tRet (tC (.bl false))) tNext)))
def t_law_rows_2 (K : PySem.W.Frag) : TS := (tSeq (tIfS (tOr (tNot (tB (tCB xIsT (tCons (tVar 4) (tCons (tC (.ty "list")) tNil))))) (tTest (tOp rNe (tCB (oLen K) (tCons (tVar 4) tNil)) (tVar 2)))) (tRet (tC (.bl false))) tNext) (tFor (iList K (tVar 4)) (gName 5) (t_law_rows_1 K)))
def t_law_rows_3 (K : PySem.W.Frag) : TS := (tRet (tC (.bl true)))
def t_law_rows (K : PySem.W.Frag) : TS := (tSeq (tIfS (tOr (tNot (tB (tCB xIsT (tCons (tVar 0) (tCons (tC (.ty "list")) tNil))))) (tTest (tOp rNe (tCB (oLen K) (tCons (tVar 0) tNil)) (tVar 1)))) (tRet (tC (.bl false))) tNext) (tSeq (tFor (iList K (tVar 0)) (gName 4) (t_law_rows_2 K)) (t_law_rows_3 K)))
theorem pu_law_rows {K : PySem.W.Frag} (vs : List V) (H : Hp) (Q : VK) (E : XK) (h : ∃ (a : Addr) (n w p : Int) (T : List (List Int)), vs = [.ref a, .int n, .int w, .int p] ∧ TabAt H a T ∧ (0 ≤ n ∧ 0 ≤ w) ∧ Sh p n.toNat w.toNat T ∧ Q (.bl true) H) :
    t_law_rows K { nx := fun _ H' => Q .non H', rt := Q } (start ["found", "high", "wide", "prime", "row", "number"] vs) H := by
  obtain ⟨a, n, w, p, T, rfl, ⟨ls, ha, hr⟩, hnw, hT, q⟩ := h
  have k1 := kind_lst ha
  have i1 : "list" ∈ kinds := by decide
  have i2 : "int" ∈ kinds := by decide
  have i3 : "bool" ∈ kinds := by decide
  have sa := SqL.of (K := K) ha
  have sao := SqLo sa
  have hl : ((ls.map V.ref).length : Int) = n := by rw [List.length_map, hr.len, hT.len]; omega
  walk_at "go"
  refine iteNe (fun z => absurd hl z) (fun _ => ?_)
  walk_at "go"
  refine loop1 (walk_list (xs := ls.map V.ref)) 4 (fun i σ H' => H' = H ∧ ∃ x4 x5, σ = [some (.ref a), some (.int n), some (.int w), some (.int p), x4, x5]) ⟨rfl, none, none, rfl⟩ (fun i σ H' _ h => by rw [h.1]; exact sa) ?_ ?_
  · rintro i x σ _ H1 hi ⟨rfl, x4, x5, rfl⟩ ⟨rfl, hx⟩
    obtain ⟨l, rfl, hl1, hi, hrow⟩ := hr.refs hx
    have k2 := kind_lst hrow
    have hT1 := hT.row _ (List.mem_of_getElem? (at_getD hi))
    have sr := SqL.of (K := K) hrow
    have sro := SqLo sr
    have hl2 : (((T.getD i []).map V.int).length : Int) = w := by rw [List.length_map, hT1.1]; omega
    unfold t_law_rows_2
    walk_at "go"
    refine iteNe (fun z => absurd hl2 z) (fun _ => ?_)
    walk_at "go"
    refine loop1 (walk_list (xs := (T.getD i []).map V.int)) 5 (fun j σ H' => H' = H1 ∧ ∃ x5, σ = [some (.ref a), some (.int n), some (.int w), some (.int p), some (.ref l), x5]) ⟨rfl, _, rfl⟩ (fun i σ H' _ h => by rw [h.1]; exact sr) ?_ ?_
    · rintro j x σ _ H2 hj ⟨rfl, x5, rfl⟩ ⟨rfl, hx⟩
      obtain ⟨hj, rfl, _⟩ := ints_at hx
      have rg := hT1.2 _ (Tb.getD_mem hj)
      have k3 : kindOf H2 (.int ((T.getD i []).getD j 0)) "int" := rfl
      unfold t_law_rows_1
      walk_at "go"
      refine iteD (fun c1 => ?_) (fun c1 => absurd rg.1 c1)
      walk_at "go"
      refine iteN (fun c2 => absurd rg.2 c2) (fun c2 => ?_)
      walk_at "go"
      exact ⟨rfl, _, rfl⟩
    · rintro σ _ ⟨rfl, x5, rfl⟩
      exact ⟨rfl, _, _, rfl⟩
  · rintro σ _ ⟨rfl, x4, x5, rfl⟩
    unfold t_law_rows_3
    walk_at "go"
    exact q
/-- a column told anew -/
theorem colOf {K : PySem.W.Frag} {H : Hp} {ms : List Addr} {B : List (List Int)} {b : Addr} {σ : L2.St} {te : TE} {r0 : Nat} {vs : List Nat} {k : Nat} {Q : Addr → Hp → Prop} (_hb : H b = some (.lst (ms.map V.ref))) (hB : Rows H ms B) (hz : B.length < sizeLine) (hw : ∀ r ∈ B, k < r.length)
    (hq : ∀ c H', H c = none → Same H H' → Row H' c (col B k) → Q c H')
    (turn : ∀ (m : Addr) (row : List Int) (H1 : Hp) (F : VK), Row H1 m row → k < row.length → F (.int (row.getD k 0)) H1 → gName r0 (.ref m) (wipe σ vs) H1 fun σ2 H2 => wipe σ2 vs = wipe σ vs ∧ te σ2 H2 F) :
    LcGoal (Itl K b) (gName r0) tYes te vs σ H Q := by
  have sb := SqL.of (K := K) _hb
  refine lcA (walk_list (xs := ms.map V.ref)) (fun j => .int ((B.getD j []).getD k 0)) (by rw [List.length_map, hB.len]; exact hz) (fun H' s => s.seq sb) ?_ ?_
  · rintro j z _ H3 F3 hj s3 ⟨rfl, hz⟩ hF3
    obtain ⟨m, rfl, hm, hj, hrowj⟩ := hB.refs hz
    exact turn m _ H3 F3 (s3 _ _ hrowj) (hw _ (List.mem_of_getElem? (at_getD hj))) (hF3 _ (Same.refl _))
  · intro c H3 nc s3 ec
    refine hq c H3 nc s3 ?_
    show H3 c = _
    rw [ec, List.length_map, hB.len, givn_listA B (fun r => V.int (r.getD k 0)) _ (fun j x e => by rw [getD_of e])]
    unfold col
    rw [List.map_map]
    rfl
def sp_law_reads (K : PySem.W.Frag) : Sp := fun vs H Q _ => vs.length = 4 ∧ ∃ (r t : Addr) (n w : Nat) (p : Int) (R T : List (List Int)), vs = [.ref r, .ref t, .int w, .int p] ∧ TabAt H r R ∧ TabAt H t T ∧ Sh p w n R ∧ Sh p n w T ∧ (2 ≤ p ∧ p ≤ 1000000) ∧ n < 1000 ∧ w < 1000 ∧
  (∀ k j, k < w → j < w → Me p (dot (R.getD k []) (col T j)) (if k = j then 1 else 0)) ∧ ∀ H', Same H H' → Q (.bl true) H'
def t_law_reads_1 (K : PySem.W.Frag) : TS := (tIfS (tTest (tOp rNe (tCallSD (sp_law_sum K) [] (fun _ => E0) (tCons (tVar 3) (tCons (tOp (rIxL K) (tVar 0) (tVar 4)) (tCons (tLc (iList K (tVar 1)) (gName 7) tYes (tOp (rIxL K) (tVar 7) (tVar 5)) [6, 7]) tNil)))) (tOp oMod (tCB oInt1 (tCons (tOp rEq (tVar 4) (tVar 5)) tNil)) (tVar 3)))) (tRet (tC (.bl false))) tNext)
def t_law_reads_2 (K : PySem.W.Frag) : TS := (tFor (iRng1 (tCons (tVar 2) tNil)) (gName 5) (t_law_reads_1 K))
def t_law_reads_3 (K : PySem.W.Frag) : TS := (tRet (tC (.bl true)))
def t_law_reads_4 (K : PySem.W.Frag) : TS := (tSeq (tFor (iRng1 (tCons (tVar 2) tNil)) (gName 4) (t_law_reads_2 K)) (t_law_reads_3 K))
def t_law_reads (K : PySem.W.Frag) : TS := (tSeq (tIfS (tNot (tB (tCallSD (sp_law_rows K) [] (fun _ => E0) (tCons (tVar 0) (tCons (tVar 2) (tCons (tCB (oLen K) (tCons (tVar 1) tNil)) (tCons (tVar 3) tNil))))))) (tRet (tC (.bl false))) tNext) (t_law_reads_4 K))
theorem pu_law_reads {K : PySem.W.Frag} (vs : List V) (H : Hp) (Q : VK) (E : XK) (h : ∃ (r t : Addr) (n w : Nat) (p : Int) (R T : List (List Int)), vs = [.ref r, .ref t, .int w, .int p] ∧ TabAt H r R ∧ TabAt H t T ∧ Sh p w n R ∧ Sh p n w T ∧ (2 ≤ p ∧ p ≤ 1000000) ∧ n < 1000 ∧ w < 1000 ∧
    (∀ k j, k < w → j < w → Me p (dot (R.getD k []) (col T j)) (if k = j then 1 else 0)) ∧ ∀ H', Same H H' → Q (.bl true) H') :
    t_law_reads K { nx := fun _ H' => Q .non H', rt := Q } (start ["found", "table", "wide", "prime", "k", "j", ".0", "row"] vs) H := by
  obtain ⟨r, t, n, w, p, R, T, rfl, hR, hT, sR, sT, hp, hn, hw, hm, q⟩ := h
  have h10 : (1000 : Nat) < sizeLine := by decide
  have hR' := hR
  have hT' := hT
  obtain ⟨ls, hr, rR⟩ := hR'
  obtain ⟨ms, ht, rT⟩ := hT'
  have sr := SqL.of (K := K) hr
  have sto := SqLo (SqL.of (K := K) ht)
  have hlt : ((ms.map V.ref).length : Int) = (n : Int) := by rw [List.length_map, rT.len, sT.len]
  have sR' : Sh p (w : Int).toNat (((ms.map V.ref).length : Int)).toNat R := by rw [hlt]; exact sR
  have n0 : (0 : Int) ≤ (w : Int) ∧ (0 : Int) ≤ ((ms.map V.ref).length : Int) := ⟨by omega, by omega⟩
  walk_at "go"
  refine loop1 (walk_range (lo := 0) (n := w)) 4 (fun i σ H' => Same H H' ∧ ∃ x4 x5, σ = [some (.ref r), some (.ref t), some (.int w), some (.int p), x4, x5, none, none]) ⟨Same.refl H, none, none, rfl⟩ (fun _ _ _ _ _ => trivial) ?_ ?_
  · rintro k x σ _ H1 hk ⟨s1, x4, x5, rfl⟩ ⟨rfl, ex⟩
    replace ex : x = .int (k : Int) := ex.trans (congrArg V.int (Int.zero_add _))
    subst ex
    unfold t_law_reads_2
    walk_at "go"
    refine loop1 (walk_range (lo := 0) (n := w)) 5 (fun i σ H' => Same H H' ∧ ∃ x5, σ = [some (.ref r), some (.ref t), some (.int w), some (.int p), some (.int k), x5, none, none]) ⟨s1, _, rfl⟩ (fun _ _ _ _ _ => trivial) ?_ ?_
    · rintro j x σ _ H2 hj ⟨s2, x5, rfl⟩ ⟨rfl, ex⟩
      replace ex : x = .int (j : Int) := ex.trans (congrArg V.int (Int.zero_add _))
      subst ex
      obtain ⟨l, el, _, hl⟩ := rR.row (i := k) (by rw [sR.len]; exact hk)
      have a1 := at_refsN el
      have sr2 := s2.seq sr
      have ht2 := s2 _ _ ht
      have st2 := SqL.of (K := K) ht2
      unfold t_law_reads_1
      walk_at "go"
      refine colOf ht2 (rT.mono s2) (by rw [sT.len]; omega) (fun r hr => by rw [(sT.row r hr).1]; exact hj) (k := j) ?_ ?_
      · intro c H3 nc s3 ec
        have hl3 : Row H3 l (R.getD k []) := s3 _ _ (s2 _ _ hl)
        have hin := (sR.row _ (sR.get hk)).2
        have hle : (R.getD k []).length < 1000 := by rw [sR.rlen hk]; exact hn
        walk_at "go"
        intro H4 s4
        walk_at "go"
        refine .inr ⟨_, rfl, ?_⟩
        have e := (hm k j hk hj).emod
        walk_at "go"
        refine iteNe (fun z => absurd ?_ z) (fun _ => ?_)
        · rw [e]
          by_cases c : k = j
          · subst c; simp
          · have c2 : ¬ V.int (k : Int) = V.int (j : Int) := fun z => c (by have := V.int.inj z; omega)
            rw [if_neg c, decide_eq_false c2]; rfl
        · walk_at "go"
          exact ⟨(s2.trans s3).trans s4, _, rfl⟩
      · intro m row H3 F hrow hjr hF
        have sm := SqL.of (K := K) hrow
        have a2 := at_intsN hjr
        refine ⟨rfl, ?_⟩
        walk_at "go"
        exact hF
    · rintro σ H2 ⟨s2, x5, rfl⟩
      exact ⟨s2, _, _, rfl⟩
  · rintro σ H1 ⟨s1, x4, x5, rfl⟩
    unfold t_law_reads_3
    walk_at "go"
    exact q H1 s1
def sp_law_sent (K : PySem.W.Frag) : Sp := fun vs H Q _ => vs.length = 4 ∧ ∃ (r t : Addr) (n w : Nat) (p : Int) (xs : List Int) (T : List (List Int)), vs = [.ref r, .ref t, .int w, .int p] ∧ Row H r xs ∧ TabAt H t T ∧ Sh p n w T ∧ (2 ≤ p ∧ p ≤ 1000000) ∧ n < 1000 ∧ w < 1000 ∧ xs.length = w ∧ In p xs ∧
  (∃ j, j < w ∧ xs.getD j 0 ≠ 0) ∧ (∀ k, k < n → Me p (dot (T.getD k []) xs) 0) ∧ ∀ H', Same H H' → Q (.bl true) H'
def t_law_sent (K : PySem.W.Frag) : TS := (tSeq (tIfS (tNot (tB (tCallSD (sp_law_rows K) [] (fun _ => E0) (tCons (tLst (tCons (tVar 0) tNil)) (tCons (tC (.int 1)) (tCons (tVar 2) (tCons (tVar 3) tNil))))))) (tRet (tC (.bl false))) tNext) (tSeq (tIfS (tTest (tOp (rEqD K) (tLc (iList K (tVar 0)) (gName 5) (tTest (tOp rNe (tVar 5) (tC (.int 0)))) (tVar 5) [4, 5]) (tLst tNil))) (tRet (tC (.bl false))) tNext) (tRet (tOp (rEqD K) (tLc (iList K (tVar 1)) (gName 6) (tTest (tOp rNe (tCallSD (sp_law_sum K) [] (fun _ => E0) (tCons (tVar 3) (tCons (tVar 6) (tCons (tVar 0) tNil)))) (tC (.int 0)))) (tVar 6) [4, 6]) (tLst tNil)))))
theorem pu_law_sent {K : PySem.W.Frag} (vs : List V) (H : Hp) (Q : VK) (E : XK) (h : ∃ (r t : Addr) (n w : Nat) (p : Int) (xs : List Int) (T : List (List Int)), vs = [.ref r, .ref t, .int w, .int p] ∧ Row H r xs ∧ TabAt H t T ∧ Sh p n w T ∧ (2 ≤ p ∧ p ≤ 1000000) ∧ n < 1000 ∧ w < 1000 ∧ xs.length = w ∧ In p xs ∧
    (∃ j, j < w ∧ xs.getD j 0 ≠ 0) ∧ (∀ k, k < n → Me p (dot (T.getD k []) xs) 0) ∧ ∀ H', Same H H' → Q (.bl true) H') :
    t_law_sent K { nx := fun _ H' => Q .non H', rt := Q } (start ["row", "table", "wide", "prime", ".0", "number", "line"] vs) H := by
  obtain ⟨r, t, n, w, p, xs, T, rfl, hr, hT, sT, hp, hn, hw, hl, hx, ⟨j0, hj0, hj1⟩, hm, q⟩ := h
  have h10 : (1000 : Nat) < sizeLine := by decide
  obtain ⟨ms, ht, rT⟩ := hT
  walk_at "go"
  intro u nu
  have su := same_new (H := H) (o := .lst [.ref r]) nu
  have htab : TabAt (upd H u (.lst [.ref r])) u [xs] := ⟨[r], upd_same, rfl, fun i l row e1 e2 => by
    match i, e1, e2 with
    | 0, e1, e2 => cases e1; cases e2; exact su _ _ hr⟩
  have sh1 : Sh p (1 : Int).toNat (w : Int).toNat [xs] := ⟨rfl, fun row h => by rw [List.mem_singleton.mp h]; exact ⟨hl, hx⟩⟩
  have w0 : (0 : Int) ≤ (1 : Int) ∧ (0 : Int) ≤ (w : Int) := ⟨by omega, by omega⟩
  have hr1 := su _ _ hr
  have sr1 := SqL.of (K := K) hr1
  walk_at "go"
  refine lcF (walk_list (xs := xs.map V.int)) (fun i => decide (xs.getD i 0 ≠ 0)) (fun i => .int (xs.getD i 0)) (by rw [List.length_map, hl]; omega) (fun H' s => s.seq sr1) ?_ ?_
  · rintro i x _ H2 F F' hi s2 ⟨rfl, hxi⟩ hF hF'
    obtain ⟨hi, rfl, _⟩ := ints_at hxi
    refine ⟨rfl, ?_⟩
    walk_at "go"
    refine iteNe (fun c => ?_) (fun c => ?_)
    · walk_at "go"
      exact hF (decide_eq_true c) _ (Same.refl _)
    · exact hF' (decide_eq_false (fun z => z c)) _ (Same.refl _)
  · intro c H2 nc s2 ec
    rw [givn_list xs (fun x => decide (x ≠ 0)) V.int (fun i => decide (xs.getD i 0 ≠ 0)) _ (fun i x e => by rw [getDi_of e]) (fun i x e => by rw [getDi_of e]) _ (by rw [List.length_map]; exact Nat.le_refl _)] at ec
    rw [List.length_map, List.take_length] at ec
    walk_at "go"
    intro e ne
    have se := same_new (H := H2) (o := .lst []) ne
    refine eqD_rep 1 (d := dI (xs.filter fun x => decide (x ≠ 0))) (e := dI []) (Rep.of_ints (se _ _ ec)) (Rep.of_ints upd_same) (okd_I 0 _) (okd_I 0 _) (by decide) fun b hb => ?_
    have hb : b = false := by
      cases b with
      | false => rfl
      | true =>
        have := dI_inj (hb.mp rfl)
        have := List.filter_eq_nil_iff.mp this _ (Tb.getD_mem (show j0 < xs.length by omega))
        simp at this
        exact absurd this hj1
    subst hb
    have s12 := (su.trans s2).trans se
    have ht2 := s12 _ _ ht
    have st2 := SqL.of (K := K) ht2
    walk_at "go"
    refine lcF (walk_list (xs := ms.map V.ref)) (fun i => false) (fun i => .non) (by rw [List.length_map, rT.len, sT.len]; omega) (fun H' s => s.seq st2) ?_ ?_
    · rintro i x _ H3 F F' hi s3 ⟨rfl, hxi⟩ hF hF'
      obtain ⟨l, rfl, _, hi, hrow⟩ := rT.refs hxi
      rw [sT.len] at hi
      refine ⟨rfl, ?_⟩
      have s13 := s12.trans s3
      have h1 : Row H3 l (T.getD i []) := s13 _ _ hrow
      have h2 : Row H3 r xs := s13 _ _ hr
      have hin := (sT.row _ (sT.get hi)).2
      have hle : (T.getD i []).length < 1000 := by rw [sT.rlen hi]; exact hw
      walk_at "go"
      intro H4 s4
      walk_at "go"
      have e0 := Me.zero.mp (hm i hi)
      refine iteNe (fun z => absurd e0 z) (fun _ => ?_)
      exact hF' rfl _ s4
    · intro d H3 nd s3 ed
      have hg : ∀ n, givn (fun _ => false) (fun _ => V.non) n = [] := fun n => by induction n with
        | zero => rfl
        | succ n ih => unfold givn; rw [if_neg Bool.false_ne_true]; exact ih
      rw [hg] at ed
      walk_at "go"
      intro e' ne'
      have se' := same_new (H := H3) (o := .lst []) ne'
      refine eqD_rep 1 (d := dI []) (e := dI []) (Rep.of_ints (se' _ _ ed)) (Rep.of_ints upd_same) (okd_I 0 _) (okd_I 0 _) (by decide) fun b hb => ?_
      rw [hb.mpr rfl]
      exact q _ ((s12.trans s3).trans se')
theorem two_thousand : (2000 : Nat) < sizeLine := by decide
/-- lists, each made longer -/
theorem longer {K : PySem.W.Frag} {H0 H1 : Hp} {a : Addr} {ls : List Addr} {R : List (List Int)} {tb : TS} {D : Ends} {σ0 : L2.St} {s7 : Nat} {x0 : Option V} (ha : H1 a = some (.lst (ls.map V.ref))) (hR : Rows H1 ls R) (hl : ∀ r ∈ R, r.length < 1000) (hn : R.length < 1000) (nd : (a :: ls).Nodup) (s1 : Same H0 H1) (fr : ∀ b ∈ a :: ls, H0 b = none) (e0 : σ0.set s7 x0 = σ0)
    (turn : ∀ (l : Addr) (xs : List V) (D' : Ends) (H : Hp) (x : Option V), H l = some (.lst xs) → xs.length < 2000 → D'.nx ((σ0.set s7 x).set s7 (some (.ref l))) (upd H l (.lst (xs ++ [.int 0]))) → tb D' ((σ0.set s7 x).set s7 (some (.ref l))) H)
    (hset : ∀ x y, (σ0.set s7 x).set s7 y = σ0.set s7 y)
    (hd : ∀ x H', Same H0 H' → H' a = some (.lst (ls.map V.ref)) → D.nx (σ0.set s7 x) H') :
    ∃ W : Nat → Nat → L2.St → Hp → Prop, (∃ m, W 0 m σ0 H1) ∧ ∀ i m σ H, W i m σ H →
      ((Itl K a).stop i H ∧ D.nx σ H) ∨ ((Itl K a).go i H ∧ ∃ N : L2.St → Hp → Prop, (∀ σ' H', N σ' H' → ∃ m', m' < m ∧ W (i + 1) m' σ' H') ∧ ∀ x H', (Itl K a).yld i H x H' → gName s7 x σ H' fun σ2 H2 => tb { D with nx := N, ct := N, bk := D.nx } σ2 H2) := by
  have hna : a ∉ ls := (List.nodup_cons.mp nd).1
  refine loop1 (walk_list (xs := ls.map V.ref)) s7 (fun i σ H' => Same H0 H' ∧ H' a = some (.lst (ls.map V.ref)) ∧ (∀ l ∈ ls, ∃ xs : List V, H' l = some (.lst xs) ∧ xs.length < 1000 + i) ∧ ∃ x, σ = σ0.set s7 x) ⟨s1, ha, fun l hl' => ?_, x0, e0.symm⟩ (fun i σ H' _ h => SqL.of h.2.1) ?_ ?_
  · obtain ⟨i, hi⟩ := List.getElem?_of_mem hl'
    have h2 : i < R.length := by rw [← hR.len]; exact (List.getElem?_eq_some_iff.mp hi).1
    refine ⟨_, hR.at_ i l _ hi (at_getD h2), ?_⟩
    rw [List.length_map]
    exact hl _ (List.mem_of_getElem? (at_getD h2))
  · rintro i x σ _ H' hi ⟨s, ea, hx, y, rfl⟩ ⟨rfl, hxi⟩
    rw [List.getElem?_map] at hxi
    cases e : ls[i]? with
    | none => rw [e] at hxi; cases hxi
    | some l =>
      rw [e] at hxi; cases hxi
      have hm := List.mem_of_getElem? e
      obtain ⟨xs, el, hz⟩ := hx l hm
      have hla : a ≠ l := fun z => hna (z ▸ hm)
      rw [List.length_map] at hi
      have hi1 : i < 1000 := by have := hR.len; omega
      refine turn l xs _ H' y el (by omega) ⟨same_mut s (fr l (List.mem_cons_of_mem _ hm)), upd_atN hla ea, fun l' hl' => ?_, some (.ref l), hset _ _⟩
      by_cases z : l' = l
      · subst z
        exact ⟨_, upd_same, by rw [List.length_append]; show xs.length + 1 < _; omega⟩
      · obtain ⟨ys, e2, h2⟩ := hx l' hl'
        exact ⟨ys, upd_atN z e2, by omega⟩
  · rintro σ H' ⟨s, ea, _, y, rfl⟩
    exact hd y H' s ea
def sp_law_one_right (K : PySem.W.Frag) : Sp := fun vs H Q _ => vs.length = 4 ∧ ∃ (f t : Addr) (n w : Nat) (p : Int) (T : List (List Int)), vs = [.ref f, .ref t, .int w, .int p] ∧ IsF K H f p ∧ TabAt H t T ∧ Sh p n w T ∧ n < 1000 ∧ w < 1000 ∧ 0 < w ∧ ∀ H', Same H H' → Q (.bl true) H'
def t_law_one_right_1 (K : PySem.W.Frag) : TS := (tDrop (tBM K "list" rAppend (tVar 7) (tCons (tC (.int 0)) tNil)))
def t_law_one_right_2 (K : PySem.W.Frag) : TS := (tSeq (tDrop (tBM0 K "list" rClear (tVar 4))) (tRet (tVar 6)))
def t_law_one_right_3 (K : PySem.W.Frag) : TS := (tSeq (tAsg (tCallSD (sp_law_reads K) [] (fun _ => E0) (tCons (tVar 4) (tCons (tVar 1) (tCons (tVar 2) (tCons (tVar 3) tNil))))) (gName 6)) (tSeq (tFor (iList K (tVar 4)) (gName 7) (t_law_one_right_1 K)) (t_law_one_right_2 K)))
def t_law_one_right_4 (K : PySem.W.Frag) : TS := (tSeq (tIfS (tTest (tOp rIsN (tVar 4) (tC .non))) (tSeq (tAsg (tCallSD (sp_law_sent K) [] (fun _ => E0) (tCons (tVar 5) (tCons (tVar 1) (tCons (tVar 2) (tCons (tVar 3) tNil))))) (gName 6)) (tSeq (tDrop (tBM0 K "list" rClear (tVar 5))) (tRet (tVar 6)))) tNext) (t_law_one_right_3 K))
def t_law_one_right_5 (K : PySem.W.Frag) : TS := (tSeq (tIfS (tTest (tOp rNe (tOp rEq (tCallSD (sp_rank K) [] (fun _ => E0) (tCons (tVar 0) (tCons (tVar 1) tNil))) (tVar 2)) (tOp rNotN (tVar 4) (tC .non)))) (tRet (tC (.bl false))) tNext) (t_law_one_right_4 K))
def t_law_one_right (K : PySem.W.Frag) : TS := (tSeq (tAsg (tCallSD (sp_reader K) [] (fun _ => E0) (tCons (tVar 0) (tCons (tVar 1) (tCons (tVar 2) tNil)))) (gName 4)) (tSeq (tAsg (tCallSD (sp_nought K) [] (fun _ => E0) (tCons (tVar 0) (tCons (tVar 1) (tCons (tVar 2) tNil)))) (gName 5)) (tSeq (tIfS (tTest (tOp rEq (tOp rIsN (tVar 4) (tC .non)) (tOp rIsN (tVar 5) (tC .non)))) (tRet (tC (.bl false))) tNext) (t_law_one_right_5 K))))
theorem pu_law_one_right {K : PySem.W.Frag} (vs : List V) (H : Hp) (Q : VK) (E : XK) (h : ∃ (f t : Addr) (n w : Nat) (p : Int) (T : List (List Int)), vs = [.ref f, .ref t, .int w, .int p] ∧ IsF K H f p ∧ TabAt H t T ∧ Sh p n w T ∧ n < 1000 ∧ w < 1000 ∧ 0 < w ∧ ∀ H', Same H H' → Q (.bl true) H') :
    t_law_one_right K { nx := fun _ H' => Q .non H', rt := Q } (start ["field", "table", "wide", "prime", "one", "other", "good", "row"] vs) H := by
  obtain ⟨f, t, n, w, p, T, rfl, hf, hT, sT, hn, hw, hw0, q⟩ := h
  have hp := hf.pos
  walk_at "go"
  intro o
  refine ⟨fun e1 H1 s1 => ?_, fun R e1 H1 r s1 nw => ?_⟩
  · have hf1 := hf.mono s1
    have hT1 := hT.mono s1
    walk_at "go"
    intro _
    refine ⟨fun e2 => absurd e2 ((one_right o).mp e1), fun row e2 H2 c s2 nc ec => ?_⟩
    obtain ⟨r1, r2, r3, r4⟩ := nought_some (by omega) o e2
    have s12 := s1.trans s2
    have hf2 := hf.mono s12
    have hT2 := hT.mono s12
    walk_at "go"
    intro _ H3 s3
    have hlt : (cleared p (inv p) T w).places.length < w := by
      unfold readM at e1
      by_cases z : (cleared p (inv p) T w).places.length < w
      · exact z
      · rw [if_neg z] at e1; cases e1
    have hx : decide (V.int ((if T = [] then 0 else (cleared p (inv p) T w).places.length : Nat) : Int) = V.int (w : Int)) = false := by
      refine decide_eq_false fun z => ?_
      have z := V.int.inj z
      by_cases c : T = []
      · rw [if_pos c] at z; omega
      · rw [if_neg c] at z; omega
    walk_at "go"
    rw [hx]
    refine iteF ?_
    have s13 := s12.trans s3
    have hT3 := hT.mono s13
    have ec3 : Row H3 c row := s3 _ _ ec
    have r3' : ∃ j, j < w ∧ row.getD j 0 ≠ 0 := r3
    have hpp : 2 ≤ p ∧ p ≤ 1000000 := hp
    walk_at "go"
    intro H4 s4
    have ec4 := s4 _ _ ec3
    walk_at "go"
    exact q _ (same_mut (s13.trans s4) (s1.free nc))
  · obtain ⟨r1, r2, r3⟩ := read_some o e1
    obtain ⟨r', ls, er, hr, rR, nd, fr⟩ := nw.table
    cases er
    have hf1 := hf.mono s1
    have hT1 := hT.mono s1
    walk_at "go"
    intro _
    refine ⟨fun e2 H2 s2 => ?_, fun row e2 => absurd (by rw [e2]; simp) (fun z => absurd ((one_right o).mpr z) (by rw [e1]; simp))⟩
    have s12 := s1.trans s2
    have hf2 := hf.mono s12
    have hT2 := hT.mono s12
    walk_at "go"
    intro _ H3 s3
    have hge : ¬ (cleared p (inv p) T w).places.length < w := by
      intro z
      unfold readM at e1
      rw [if_pos z] at e1; cases e1
    have hx : decide (V.int ((if T = [] then 0 else (cleared p (inv p) T w).places.length : Nat) : Int) = V.int (w : Int)) = true := by
      refine decide_eq_true ?_
      rw [if_neg (fun z => by have := sT.len; rw [z] at this; have : 0 = n := this; omega), (o.full hge).1]
    walk_at "go"
    rw [hx]
    refine iteF ?_
    have s13 := s12.trans s3
    have s23 := s2.trans s3
    have hT3 := hT.mono s13
    have hr3 := s23 _ _ hr
    have rR3 := rR.mono s23
    have hR3 : TabAt H3 r R := ⟨ls, hr3, rR3⟩
    have hpp : 2 ≤ p ∧ p ≤ 1000000 := hp
    walk_at "go"
    intro H4 s4
    have s14 := s13.trans s4
    have hr4 := s4 _ _ hr3
    have sr4 := SqL.of (K := K) hr4
    walk_at "go"
    refine longer (H0 := H) hr4 (rR3.mono s4) (fun x hx => by rw [(r2.row x hx).1]; omega) (by rw [r2.len]; exact hw) nd s14 fr (x0 := none) rfl ?_ (fun _ _ => rfl) ?_
    · intro l xs D' H5 x el hz hD
      have h2 := two_thousand
      unfold t_law_one_right_1
      walk_at "go"
      exact hD
    · intro x H5 s5 e5
      unfold t_law_one_right_2
      walk_at "go"
      exact q _ (same_mut s5 (fr r (List.mem_cons_self ..)))
def sp_law_product_right (K : PySem.W.Frag) : Sp := fun vs H Q _ => vs.length = 5 ∧ ∃ (f t : Addr) (n w : Nat) (p c : Int) (T : List (List Int)), vs = [.ref f, .ref t, .int w, .int p, .int c] ∧ IsF K H f p ∧ TabAt H t T ∧ Sh p n w T ∧ n < 1000 ∧ w ≤ 10 ∧ 0 < w ∧ ∀ H', Same H H' → Q (.bl true) H'
def t_law_product_right_1 (K : PySem.W.Frag) : TS := (tDrop (tBM K "list" rAppend (tVar 6) (tCons (tLc (iRng1 (tCons (tCB (oLen K) (tCons (tOp (rIxL K) (tVar 5) (tC (.int 0))) tNil)) tNil)) (gName 14) tYes (tCallSD (sp_law_sum K) [] (fun _ => E0) (tCons (tVar 3) (tCons (tVar 7) (tCons (tLc (iList K (tVar 5)) (gName 8) tYes (tOp (rIxL K) (tVar 8) (tVar 14)) [13, 8]) tNil)))) [13, 14]) tNil)))
def t_law_product_right_2 (K : PySem.W.Frag) : TS := (tDrop (tBM K "list" rAppend (tVar 8) (tCons (tC (.int 0)) tNil)))
def t_law_product_right_3 (K : PySem.W.Frag) : TS := (tSeq (tDrop (tBM0 K "list" rClear (tOp (rIxL K) (tVar 12) (tC (.int 0))))) (tRet (tC (.bl true))))
def t_law_product_right_4 (K : PySem.W.Frag) : TS := (tSeq (tDrop (tBM K "list" rAppend (tVar 11) (tCons (tC (.int 0)) tNil))) (tSeq (tAsg (tCallSD (sp_ones K) [] (fun _ => E0) (tCons (tVar 2) tNil)) (gName 12)) (tSeq (tIfS (tTest (tOp (rNeD K) (tVar 12) (tLc (iRng1 (tCons (tVar 2) tNil)) (gName 15) tYes (tLc (iRng1 (tCons (tVar 2) tNil)) (gName 14) tYes (tCB oInt1 (tCons (tOp rEq (tVar 14) (tVar 15)) tNil)) [13, 14]) [13, 15]))) (tRet (tC (.bl false))) tNext) (t_law_product_right_3 K))))
def t_law_product_right_5 (K : PySem.W.Frag) : TS := (tSeq (tAsg (tLc (iList K (tVar 5)) (gName 8) tYes (tOp (rIxL K) (tVar 8) (tC (.int 0))) [13, 8]) (gName 10)) (tSeq (tAsg (tCallSD (sp_times_row K) [] (fun _ => E0) (tCons (tVar 0) (tCons (tVar 1) (tCons (tVar 10) tNil)))) (gName 11)) (tSeq (tIfS (tTest (tOp (rNeD K) (tVar 11) (tLc (iList K (tVar 1)) (gName 7) tYes (tCallSD (sp_law_sum K) [] (fun _ => E0) (tCons (tVar 3) (tCons (tVar 7) (tCons (tVar 10) tNil)))) [13, 7]))) (tRet (tC (.bl false))) tNext) (t_law_product_right_4 K))))
def t_law_product_right_6 (K : PySem.W.Frag) : TS := (tSeq (tFor (iList K (tVar 9)) (gName 8) (t_law_product_right_2 K)) (t_law_product_right_5 K))
def t_law_product_right_7 (K : PySem.W.Frag) : TS := (tSeq (tAsg (tCallSD (sp_product K) [] (fun _ => E0) (tCons (tVar 0) (tCons (tVar 1) (tCons (tVar 5) tNil)))) (gName 9)) (tSeq (tIfS (tTest (tOp (rNeD K) (tVar 9) (tVar 6))) (tRet (tC (.bl false))) tNext) (t_law_product_right_6 K)))
def t_law_product_right (K : PySem.W.Frag) : TS := (tSeq (tAsg (tCallSD (sp_law_table K) [] (fun _ => E0) (tCons (tVar 4) (tCons (tVar 3) (tCons (tVar 2) (tCons (tOp oAdd (tC (.int 1)) (tOp oMod (tOp oFdv (tVar 4) (tC (.int 9))) (tC (.int 5)))) tNil))))) (gName 5)) (tSeq (tAsg (tLst tNil) (gName 6)) (tSeq (tFor (iList K (tVar 1)) (gName 7) (t_law_product_right_1 K)) (t_law_product_right_7 K))))
theorem pu_law_product_right {K : PySem.W.Frag} (vs : List V) (H : Hp) (Q : VK) (E : XK) (h : ∃ (f t : Addr) (n w : Nat) (p c : Int) (T : List (List Int)), vs = [.ref f, .ref t, .int w, .int p, .int c] ∧ IsF K H f p ∧ TabAt H t T ∧ Sh p n w T ∧ n < 1000 ∧ w ≤ 10 ∧ 0 < w ∧ ∀ H', Same H H' → Q (.bl true) H') :
    t_law_product_right K { nx := fun _ H' => Q .non H', rt := Q } (start ["field", "table", "wide", "prime", "cell", "more", "due", "line", "row", "found", "column", "told", "middle", ".0", "k", "j"] vs) H := by
  obtain ⟨f, t, n, w, p, c, T, rfl, hf, hT, sT, hn, hw, hw0, q⟩ := h
  have h10 : (1000 : Nat) < sizeLine := by decide
  have h2k := two_thousand
  have hp := hf.pos
  have hpp : 2 ≤ p ∧ p ≤ 1000000 := hp
  have d9 : CDivW c 9 := ⟨by decide, by decide⟩
  have c0 := Int.emod_nonneg (c / 9) (show (5 : Int) ≠ 0 by decide)
  have c1 := Int.emod_lt_of_pos (c / 9) (show (0 : Int) < 5 by decide)
  have hww : 0 ≤ (w : Int) ∧ (w : Int) ≤ 10 := ⟨by omega, by omega⟩
  have hcc : 0 ≤ 1 + c / 9 % 5 ∧ 1 + c / 9 % 5 ≤ 10 := ⟨by omega, by omega⟩
  clear c0 c1
  have hTk := hT
  obtain ⟨ls, ht, rT⟩ := hTk
  walk_at "go"
  intro H1 b B s1 nB sB
  obtain ⟨b', ms, eb, hb, rB, _, _⟩ := nB.table
  cases eb
  obtain ⟨w2, hw2, hw2b⟩ : ∃ w2 : Nat, (1 + c / 9 % 5).toNat = w2 ∧ w2 ≤ 10 := ⟨_, rfl, by omega⟩
  rw [hw2] at sB
  have sB : Sh p w w2 B := sB
  have eh : B.headD [] = B.getD 0 [] := by cases B <;> rfl
  have hB0 : 0 < B.length := by rw [sB.len]; exact hw0
  have hlen0 : (B.getD 0 []).length = w2 := sB.rlen hw0
  have eM : mulT p T B = T.map fun line => (List.range w2).map fun k => dot line (col B k) % p := by unfold mulT; rw [eh, hlen0]
  have st1 := SqL.of (K := K) (s1 _ _ ht)
  have sb1 := SqL.of (K := K) hb
  walk_at "go"
  intro o no
  have so := same_new (H := H1) (o := .lst []) no
  have sto := so.seq st1
  walk_at "go"
  refine loop1 (walk_list (xs := ls.map V.ref)) 7 (fun i σ H' => Same H1 H' ∧ ∃ x7 vs, AccL H1 H' o vs (((T.take i).map fun line => (List.range w2).map fun k => dot line (col B k) % p).map dI) ∧ σ = [some (.ref f), some (.ref t), some (.int w), some (.int p), some (.int c), some (.ref b), some (.ref o), x7, none, none, none, none, none, none, none, none]) ⟨so, none, [], AccL.start no, rfl⟩ (fun i σ H' _ h => h.1.seq st1) ?_ ?_
  · rintro i x σ _ H2 hi ⟨s2, x7, vs, ac, rfl⟩ ⟨rfl, hx⟩
    obtain ⟨l, rfl, hl, hi, hrow⟩ := rT.refs hx
    obtain ⟨m0, hm0, _, hrow0⟩ := rB.row hB0
    have hat := ac.at_
    have hl2 : ((B.getD 0 []).map V.int).length = w2 := by rw [List.length_map, hlen0]
    have sm1o := SqLo (SqL.of (K := K) (s2 _ _ hrow0))
    have sb2 := s2.seq sb1
    have e0 : atI (ms.map V.ref) 0 = some (.ref m0) := at_refs (by omega) hm0
    have hiT : i < n := by rw [← sT.len]; exact hi
    unfold t_law_product_right_1
    walk_at "go"
    refine lcA walk_range (fun k => .int (dot (T.getD i []) (col B k) % p)) (show ((B.getD 0 []).map V.int).length < sizeLine by rw [hl2]; omega) (fun _ _ => trivial) ?_ ?_
    · rintro k y _ H3 F hk s3 ⟨rfl, ex⟩ hF
      replace ex : y = .int (k : Int) := ex.trans (congrArg V.int (Int.zero_add _))
      subst ex
      rw [hl2] at hk
      refine ⟨rfl, ?_⟩
      have s23 := s2.trans s3
      have hb3 := s23 _ _ hb
      have sb3 := SqL.of (K := K) hb3
      walk_at "go"
      refine colOf hb3 (rB.mono s23) (by rw [sB.len]; omega) (fun r hr => by rw [(sB.row r hr).1]; exact hk) (k := k) ?_ ?_
      · intro d H4 nd s4 ed
        have hl4 : Row H4 l (T.getD i []) := (s1.trans (s23.trans s4)) _ _ hrow
        have hin := (sT.row _ (sT.get hiT)).2
        have hle : (T.getD i []).length < 1000 := by rw [sT.rlen hiT]; omega
        walk_at "go"
        exact fun H5 s5 => hF H5 (s4.trans s5)
      · intro m row H4 F4 hrow4 hkr hF4
        have sm := SqL.of (K := K) hrow4
        have a2 := at_intsN hkr
        refine ⟨rfl, ?_⟩
        walk_at "go"
        exact hF4
    · intro d H3 nd s3 ed
      rw [hl2, givn_all] at ed
      have hat3 := s3 _ _ hat
      have hlv : vs.length < sizeLine := by
        rw [ac.len, List.length_map, List.length_map, List.length_take]
        omega
      walk_at "go"
      refine ⟨same_mut (s2.trans s3) no, some (.ref l), vs ++ [.ref d], ?_, rfl⟩
      rw [take_map_succ _ (at_getD hi), List.map_append]
      refine ac.push s3 s2 (New.ints nd ?_)
      rw [ed, List.map_map]
      rfl
  · rintro σ H2 ⟨s2, x7, vs, ac, rfl⟩
    rw [List.length_map, rT.len, List.take_length, ← eM] at ac
    have due := ac.toNew.rep
    have s12 := s1.trans s2
    have hf2 := hf.mono s12
    have hT2 := hT.mono s12
    have hB2 : TabAt H2 b B := ⟨ms, s2 _ _ hb, rB.mono s2⟩
    have hIn : ∀ r ∈ T, In p r := fun r hr => (sT.row r hr).2
    have hBw : ∀ r ∈ B, r.length = w2 := fun r hr => (sB.row r hr).1
    have z1 : T.length < sizeLine := by rw [sT.len]; omega
    have z2 : B.length < sizeLine := by rw [sB.len]; omega
    have z3 : w2 < 1000 := by omega
    unfold t_law_product_right_7
    walk_at "go"
    intro H3 fo s3 nfo
    have s13 := s12.trans s3
    iterate 4 walk_at "go1"
    refine neD_rep 2 nfo.rep (due.mono s3) (okd_T 0 _) (okd_T 0 _) (by decide) fun bb hbb => ?_
    have hbb : bb = false := by
      cases bb with
      | false => rfl
      | true => exact absurd rfl (hbb.mp rfl)
    subst hbb
    obtain ⟨fo', fs, efo, hfo, rfo, ndfo, frfo⟩ := nfo.table
    cases efo
    have sfo := SqL.of (K := K) hfo
    walk_at "go"
    refine longer (H0 := H2) hfo rfo (fun x hx => ?_) (by rw [eM, List.length_map, sT.len]; exact hn) ndfo s3 frfo (x0 := none) rfl ?_ (fun _ _ => rfl) ?_
    · rw [eM] at hx
      obtain ⟨y, _, rfl⟩ := List.mem_map.mp hx
      rw [List.length_map, List.length_range]; exact z3
    · intro l xs D' H5 x el hz hD
      unfold t_law_product_right_2
      walk_at "go"
      exact hD
    · intro x H4 s4 e4
      have s14 := s12.trans s4
      have s24 := s2.trans s4
      have hb4 := s24 _ _ hb
      have sb4 := SqL.of (K := K) hb4
      unfold t_law_product_right_5
      walk_at "go"
      refine colOf hb4 (rB.mono s24) (by rw [sB.len]; omega) (fun r hr => by rw [(sB.row r hr).1]; omega) (k := 0) ?_ ?_
      · intro co H5 nco s5 eco
        have s15 := s14.trans s5
        have hf5 := hf.mono s15
        have hT5 := hT.mono s15
        walk_at "go"
        intro H6 to s6 nto eto
        have s16 := s15.trans s6
        have st6 := SqL.of (K := K) (s16 _ _ ht)
        walk_at "go"
        refine lcA (walk_list (xs := ls.map V.ref)) (fun i => .int (dot (T.getD i []) (col B 0) % p)) (by rw [List.length_map, rT.len]; exact z1) (fun H' s => s.seq st6) ?_ ?_
        · rintro i x _ H7 F hi s7 ⟨rfl, hx⟩ hF
          obtain ⟨l, rfl, hl, hi, hrow⟩ := rT.refs hx
          rw [sT.len] at hi
          refine ⟨rfl, ?_⟩
          have hrow7 : Row H7 l (T.getD i []) := (s16.trans s7) _ _ hrow
          have eco7 : Row H7 co (col B 0) := (s6.trans s7) _ _ eco
          have hin := (sT.row _ (sT.get hi)).2
          have hle : (T.getD i []).length < 1000 := by rw [sT.rlen hi]; omega
          walk_at "go"
          exact fun H8 s8 => hF H8 s8
        · intro d H7 nd s7 ed
          rw [List.length_map, rT.len, givn_listA T (fun r => V.int (dot r (col B 0) % p)) _ (fun i x e => by rw [getD_of e])] at ed
          have ed : Row H7 d (timesR p T (col B 0)) := by
            show H7 d = _
            rw [ed]; unfold timesR; rw [List.map_map]; rfl
          have eto7 : Row H7 to (timesR p T (col B 0)) := s7 _ _ eto
          have zt : ((timesR p T (col B 0)).map V.int).length < sizeLine := by unfold timesR; rw [List.length_map, List.length_map]; exact z1
          refine neD_rep 1 (Rep.of_ints eto7) (Rep.of_ints ed) (okd_I 0 _) (okd_I 0 _) (by decide) fun bb hbb => ?_
          have hbb : bb = false := by
            cases bb with
            | false => rfl
            | true => exact absurd rfl (hbb.mp rfl)
          subst hbb
          have w1k : w < 1000 := by omega
          have s17 := s16.trans s7
          have s18 : Same H (upd H7 to (.lst ((timesR p T (col B 0)).map V.int ++ [.int 0]))) := same_mut s17 (s15.free nto)
          walk_at "go"
          intro H9 mi s9 nmi
          have s19 := s18.trans s9
          walk_at "go"
          refine lcN walk_range (fun k => dI ((List.range w).map fun j => if k = j then 1 else 0)) (show w < sizeLine by omega) (fun _ _ => trivial) ?_ ?_
          · rintro k x _ H10 F hk sa ⟨rfl, ex⟩ hF
            replace ex : x = .int (k : Int) := ex.trans (congrArg V.int (Int.zero_add _))
            subst ex
            refine ⟨rfl, ?_⟩
            walk_at "go"
            refine lcA walk_range (fun j => .int (if k = j then 1 else 0)) (show w < sizeLine by omega) (fun _ _ => trivial) ?_ ?_
            · rintro j y _ H11 F2 hj sb ⟨rfl, ex⟩ hF2
              replace ex : y = .int (j : Int) := ex.trans (congrArg V.int (Int.zero_add _))
              subst ex
              refine ⟨rfl, ?_⟩
              walk_at "go"
              refine .inr ⟨_, rfl, ?_⟩
              by_cases c : k = j
              · subst c
                have := hF2 _ (Same.refl H11)
                rw [if_pos rfl] at this
                rw [decide_eq_true rfl]
                exact this
              · have c2 : ¬ V.int (j : Int) = V.int (k : Int) := fun z => c (by have := V.int.inj z; omega)
                have := hF2 _ (Same.refl H11)
                rw [if_neg c] at this
                rw [decide_eq_false c2]
                exact this
            · intro pp H11 np sb eb
              have eb : H11 pp = some (.lst (givn (fun _ => true) (fun j => V.int (if k = j then 1 else 0)) w)) := eb
              refine hF _ _ sb (New.ints np ?_)
              rw [eb, givn_all, List.map_map]
              rfl
          · intro d2 H10 sa nd2
            have nd2 : New H9 H10 (.ref d2) (.lst (givn (fun _ => true) (fun k => dI ((List.range w).map fun j => if k = j then 1 else 0)) w)) := nd2
            have e2 : Dat.lst (givn (fun _ => true) (fun k => dI ((List.range w).map fun j => if k = j then 1 else 0)) w) = dT (onesT w) := by
              rw [givn_all]; unfold dT onesT; rw [List.map_map]; rfl
            rw [e2] at nd2
            refine neD_rep 2 (nmi.rep.mono sa) nd2.rep (okd_T 0 _) (okd_T 0 _) (by decide) fun bb hbb => ?_
            have hbb : bb = false := by
              cases bb with
              | false => rfl
              | true => exact absurd rfl (hbb.mp rfl)
            subst hbb
            obtain ⟨mi', mls, emi, hmi, rmi, _, frm⟩ := nmi.table
            cases emi
            have hmi10 := sa _ _ hmi
            have smi := SqL.of (K := K) hmi10
            obtain ⟨m0, em0, _, hm0⟩ := (rmi.mono sa).row (i := 0) (by unfold onesT; rw [List.length_map, List.length_range]; exact hw0)
            have a0 : atI (mls.map V.ref) 0 = some (.ref m0) := at_refs (by omega) em0
            have hm0' : H10 m0 = some (.lst (((onesT w).getD 0 []).map V.int)) := hm0
            have fm0 : H m0 = none := s18.free (frm m0 (List.mem_cons_of_mem _ (List.mem_of_getElem? em0)))
            walk_at "go"
            exact q _ (same_mut (s19.trans sa) fm0)
      · intro m row H5 F5 hrow5 hkr hF5
        have sm := SqL.of (K := K) hrow5
        have a2 : atI (row.map V.int) 0 = some (.int (row.getD 0 0)) := at_intsN hkr
        refine ⟨rfl, ?_⟩
        walk_at "go"
        exact hF5
end Mx

set_option Elab.async false
set_option linter.all false
set_option maxRecDepth 100000
set_option maxHeartbeats 1000000
namespace Mx
open PySem PySem.Spec PyProof.Rows L2 Nt Tb
local macro_rules | `(tactic| walk_at "side") => `(tactic| first
  | assumption
  | rfl
  | exact upd_same
  | exact sqL_new
  | exact ⟨_, sqL_new⟩
  | exact ⟨_, by assumption⟩
  | exact sqT_new
  | exact ⟨_, sqT_new⟩
  | exact ⟨_, sqL_upd (by assumption) (by assumption)⟩
  | exact sqL_upd (by assumption) (by assumption)
  | (refine upd_at ?_ ?_ <;> assumption)
  | exact ty_lst (by assumption)
  | exact ty_lst upd_same
  | exact SqL.of (by assumption)
  | exact .inl (SqL.of (by assumption))
  | exact ⟨_, SqL.of (by assumption)⟩
  | omega
  | exact Nat.le_of_ble_eq_true rfl
  | decide)
local macro_rules | `(tactic| walk_at "go1") => `(tactic| first
  | (fail_if_success (show ∃ W : Nat → Nat → L2.St → Hp → Prop, _)
     fail_if_success (show ∃ W : Nat → L2.St → Hp → Prop, _)
     fail_if_success (show ∃ W : L2.St → Hp → Prop, _)
     apply Exists.intro)
  | (refine And.intro ?_ ?_; (walk_at "side")))
local macro_rules | `(tactic| walk_at "nrm") => `(tactic| dsimp only [tSeq, tAsg, tC, gName, tNext, tIfS, tRet, tDrop, tTest, tB, L2.start, List.map, List.length, List.replicate, List.cons_append, List.nil_append, List.set_cons_zero, List.set_cons_succ])
local macro_rules | `(tactic| walk_at "go") => `(tactic| repeat (walk_at "go1"))
def sp_law (K : PySem.W.Frag) : Sp := fun vs H Q _ => vs.length = 1 ∧ ∃ (a : Addr) (ns : List Int), vs = [.ref a] ∧ SqL K H a (ns.map V.int) ∧ ns.length ≤ 63 ∧ ∀ H', Q (.bl true) H'
def t_law_1 (K : PySem.W.Frag) : TS := (tSeq (tAsg (tCallSD (sp_law_cell_at K) [] (fun _ => E0) (tCons (tVar 0) (tCons (tOp oAdd (tC (.int 1)) (tVar 6)) tNil))) (gName 7)) (tSeq (tAsg (tOp oMod (tCallSD (sp_law_mixed K) [] (fun _ => E0) (tCons (tVar 7) (tCons (tC (.int 900)) tNil))) (tC (.int 2))) (gName 8)) (tSeq (tAsg (tOp oAdd (tC (.int 1)) (tOp oMod (tCallSD (sp_law_mixed K) [] (fun _ => E0) (tCons (tVar 7) (tCons (tC (.int 901)) tNil))) (tC (.int 5)))) (gName 9)) (tSeq (tAsg (tCallSD (sp_law_table K) [] (fun _ => E0) (tCons (tVar 7) (tCons (tOp (rIxL K) (tVar 3) (tVar 8)) (tCons (tOp oMod (tCallSD (sp_law_mixed K) [] (fun _ => E0) (tCons (tVar 7) (tCons (tC (.int 902)) tNil))) (tC (.int 7))) (tCons (tVar 9) tNil))))) (gName 10)) (tDrop (tBM K "list" rAppend (tVar 5) (tCons (tTup (tCons (tVar 8) (tCons (tVar 10) (tCons (tVar 9) tNil)))) tNil)))))))
def t_law_2 (K : PySem.W.Frag) : TS := (tSeq (tIfS (tTest (tOp oLt (tOp oMod (tCallSD (sp_law_mixed K) [] (fun _ => E0) (tCons (tVar 7) (tCons (tC (.int 4)) tNil))) (tC (.int 3))) (tC (.int 2)))) (tAsg (tCallSD (sp_law_one_right K) [] (fun _ => E0) (tCons (tOp (rIxL K) (tVar 4) (tVar 8)) (tCons (tVar 10) (tCons (tVar 9) (tCons (tOp (rIxL K) (tVar 3) (tVar 8)) tNil))))) (gName 14)) (tAsg (tCallSD (sp_law_product_right K) [] (fun _ => E0) (tCons (tOp (rIxL K) (tVar 4) (tVar 8)) (tCons (tVar 10) (tCons (tVar 9) (tCons (tOp (rIxL K) (tVar 3) (tVar 8)) (tCons (tVar 7) tNil)))))) (gName 14))) (tIfS (tOr (tNot (tB (tVar 14))) (tTest (tOp (rNeD K) (tLc (iList K (tVar 5)) (gName 18) tYes (tOp (rIxT K) (tVar 18) (tC (.int 1))) [15, 18]) (tVar 12)))) (tRet (tC (.bl false))) tNext))
def t_law_3 (K : PySem.W.Frag) : TS := (tSeq (tAsg (tOp (rIxL K) (tVar 5) (tOp oMod (tCallSD (sp_law_mixed K) [] (fun _ => E0) (tCons (tVar 7) (tCons (tC (.int 3)) tNil))) (tC (.int 3)))) (gTup K 3 (gCons (gName 8) (gCons (gName 10) (gCons (gName 9) gNil))))) (tFor (iRng1 (tCons (tC (.int 2)) tNil)) (gName 13) (t_law_2 K)))
def t_law_4 (K : PySem.W.Frag) : TS := (tRet (tC (.bl true)))
def t_law_5 (K : PySem.W.Frag) : TS := (tSeq (tAsg (tOp (rIxL K) (tVar 5) (tC (.int 0))) (gTup K 3 (gCons (gName 8) (gCons (gName 10) (gCons (gName 9) gNil))))) (tSeq (tAsg (tCallSD (sp_law_cell_at K) [] (fun _ => E0) (tCons (tVar 0) (tCons (tC (.int 4)) tNil))) (gName 11)) (tSeq (tAsg (tTup (tCons (tVar 8) (tCons (tOp rCat (tSl (rSlL K) (tVar 10) tNoPart (tPart (tOp oAdd (tC (.int 1)) (tOp oMod (tVar 11) (tC (.int 6)))))) (tOp rRep (tLst (tCons (tOp rRep (tLst (tCons (tC (.int 0)) tNil)) (tVar 9)) tNil)) (tOp oMod (tOp oFdv (tVar 11) (tC (.int 6))) (tC (.int 2))))) (tCons (tVar 9) tNil)))) (gSub (tVar 5) (tC (.int 2)) rSetL)) (tSeq (tAsg (tLc (iList K (tVar 5)) (gTup K 3 (gCons (gName 8) (gCons (gName 10) (gCons (gName 9) gNil)))) tYes (tLc (iList K (tVar 10)) (gName 17) tYes (tCB (oList K) (tCons (tVar 17) tNil)) [15, 17]) [15, 8, 10, 9]) (gName 12)) (tSeq (tFor (iList K (tOp rCat (tSl (rSlL K) (tVar 0) (tPart (tC (.int 5))) (tPart (tC (.int 17)))) (tLst (tCons (tC (.int 3)) (tCons (tC (.int 8)) tNil))))) (gName 7) (t_law_3 K)) (t_law_4 K))))))
def t_law (K : PySem.W.Frag) : TS := (tSeq (tAsg (tCallSD (sp_law_cell_at K) [] (fun _ => E0) (tCons (tVar 0) (tCons (tC (.int 0)) tNil))) (gName 1)) (tSeq (tAsg (tLst (tCons (tC (.int 2)) (tCons (tC (.int 3)) (tCons (tC (.int 5)) (tCons (tC (.int 7)) (tCons (tC (.int 11)) (tCons (tC (.int 13)) (tCons (tC (.int 999983)) tNil)))))))) (gName 2)) (tSeq (tAsg (tLst (tCons (tOp (rIxL K) (tVar 2) (tOp oMod (tVar 1) (tC (.int 7)))) (tCons (tOp (rIxL K) (tVar 2) (tOp oMod (tOp oFdv (tVar 1) (tC (.int 7))) (tC (.int 7)))) tNil))) (gName 3)) (tSeq (tAsg (tLc (iList K (tVar 3)) (gName 16) tYes (xMake (He.ga K "Field") (sp_Field___init__ K) [] (fun _ => E0) (tCons (tVar 16) tNil)) [15, 16]) (gName 4)) (tSeq (tAsg (tLst tNil) (gName 5)) (tSeq (tFor (iRng1 (tCons (tC (.int 3)) tNil)) (gName 6) (t_law_1 K)) (t_law_5 K)))))))
theorem prime7 (k : Int) : ∃ p, atI [V.int 2, .int 3, .int 5, .int 7, .int 11, .int 13, .int 999983] (k % 7) = some (.int p) ∧ isPr p = true ∧ p ≤ 1000000 := by
  have b0 := Int.emod_nonneg k (show (7 : Int) ≠ 0 by decide)
  have b1 := Int.emod_lt_of_pos k (show (0 : Int) < 7 by decide)
  have sm := some_run
  generalize k % 7 = j at b0 b1
  by_cases k0 : j = 0
  · subst k0; exact ⟨2, rfl, by decide +kernel, by decide⟩
  by_cases k1 : j = 1
  · subst k1; exact ⟨3, rfl, by decide +kernel, by decide⟩
  by_cases k2 : j = 2
  · subst k2; exact ⟨5, rfl, by decide +kernel, by decide⟩
  by_cases k3 : j = 3
  · subst k3; exact ⟨7, rfl, by decide +kernel, by decide⟩
  by_cases k4 : j = 4
  · subst k4; exact ⟨11, rfl, by decide +kernel, by decide⟩
  by_cases k5 : j = 5
  · subst k5; exact ⟨13, rfl, by decide +kernel, by decide⟩
  have k6 : j = 6 := by omega
  subst k6; exact ⟨999983, rfl, big_run, by decide⟩
/-- one of the things: which field, the table, its width -/
def Th (H : Hp) (p0 p1 : Int) (v : V) (T : List (List Int)) : Prop := ∃ (tp t : Addr) (wh : Int) (n w : Nat), v = .ref tp ∧ H tp = some (.tup [.int wh, .ref t, .int w]) ∧ TabAt H t T ∧ Sh (if wh = 0 then p0 else p1) n w T ∧ n ≤ 11 ∧ w ≤ 10 ∧ 0 < w ∧ (wh = 0 ∨ wh = 1)
theorem Th.mono {H H' : Hp} {p0 p1 : Int} {v : V} {T : List (List Int)} (h : Th H p0 p1 v T) (s : Same H H') : Th H' p0 p1 v T := by
  obtain ⟨tp, t, wh, n, w, a, b, c, d⟩ := h
  exact ⟨tp, t, wh, n, w, a, s _ _ b, c.mono s, d⟩
/-- a heap without one of its objects -/
def hide (H : Hp) (o : Addr) : Hp := fun b => if b = o then none else H b
theorem hide_at {H : Hp} {o b : Addr} {x : HO} (n : b ≠ o) (h : H b = some x) : hide H o b = some x := by unfold hide; rw [if_neg n]; exact h
theorem hide_same {H H' : Hp} {o : Addr} {x : HO} (s : Same H H') : Same (hide H o) (hide (upd H' o x) o) := fun b y e => by
  unfold hide at e ⊢
  by_cases z : b = o
  · rw [if_pos z] at e; cases e
  · rw [if_neg z] at e ⊢
    rw [upd_ne z]; exact s b y e
theorem hide_in {H : Hp} {o : Addr} : Same (hide H o) H := fun b y e => by
  unfold hide at e
  by_cases z : b = o
  · rw [if_pos z] at e; cases e
  · rw [if_neg z] at e; exact e
theorem things_tables {H : Hp} {p0 p1 : Int} : ∀ {vs : List V} {Ts : List (List (List Int))}, vs.length = Ts.length → (∀ (j : Nat) (v : V) (T : List (List Int)), vs[j]? = some v → Ts[j]? = some T → Th H p0 p1 v T) →
    ∃ (ts : List Addr) (fp : List Addr), ts.length = vs.length ∧ Trs H (ts.map V.ref) (Ts.map dT) fp ∧ ∀ i v, vs[i]? = some v → ∃ tp a b, v = .ref tp ∧ H tp = some (.tup [a, .ref (ts.getD i 0), b])
  | [], [], _, _ => ⟨[], [], rfl, .nil, fun i v e => by rw [List.getElem?_nil] at e; cases e⟩
  | v :: vs, T :: Ts, hl, h => by
    obtain ⟨ts, fp, h1, h2, h3⟩ := things_tables (vs := vs) (Ts := Ts) (by simpa using hl) fun j v T a b => h (j + 1) v T a b
    obtain ⟨tp, t, wh, n, w, rfl, htp, hT, _⟩ := h 0 v T rfl rfl
    obtain ⟨gp, ht⟩ := hT.rep
    refine ⟨t :: ts, gp ++ fp, by rw [List.length_cons, List.length_cons, h1], .cons ht h2, fun i v e => ?_⟩
    cases i with
    | zero => cases e; exact ⟨tp, _, _, rfl, htp⟩
    | succ i => exact h3 i v e
  | [], _ :: _, hl, _ => by simp at hl
  | _ :: _, [], hl, _ => by simp at hl
theorem main_turn {K : PySem.W.Frag} {Q : VK} {D : Ends} {p0 p1 c : Int} {f0 f1 o pr fl ke : Addr} {vs : List V} {Ts : List (List (List Int))} {H : Hp} {x0 x1 x2 x6 x8 x9 x10 x11 x13 x14 : Option V}
    (hvs : H o = some (.lst vs)) (l3 : vs.length = 3) (lT : Ts.length = 3) (hTh : ∀ (j : Nat) (v : V) (T : List (List Int)), vs[j]? = some v → Ts[j]? = some T → Th H p0 p1 v T) (hpr : H pr = some (.lst [.int p0, .int p1])) (hfl : H fl = some (.lst [.ref f0, .ref f1])) (g0 : IsF K H f0 p0) (g1 : IsF K H f1 p1)
    (hke : Rep H (.ref ke) (.lst (Ts.map dT)))
    (hrt : D.rt = Q) (hD : ∀ H' y6 y8 y9 y10 y11 y13 y14, Same H H' → D.nx [x0, x1, x2, some (.ref pr), some (.ref fl), some (.ref o), y6, some (.int c), y8, y9, y10, y11, some (.ref ke), y13, y14, none, none, none, none] H') :
    t_law_3 K D [x0, x1, x2, some (.ref pr), some (.ref fl), some (.ref o), x6, some (.int c), x8, x9, x10, x11, some (.ref ke), x13, x14, none, none, none, none] H := by
  have so := SqL.of (K := K) hvs
  unfold t_law_3
  walk_at "go"
  intro m m0 m1
  obtain ⟨j, hj, hj3⟩ : ∃ j : Nat, m % 3 = (j : Int) ∧ j < 3 := ⟨(m % 3).toNat, by omega, by omega⟩
  clear m0 m1
  obtain ⟨v, hv⟩ : ∃ v, vs[j]? = some v := ⟨_, List.getElem?_eq_getElem (by omega)⟩
  obtain ⟨T, hT⟩ : ∃ T, Ts[j]? = some T := ⟨_, List.getElem?_eq_getElem (by omega)⟩
  obtain ⟨tp, t, wh, n, w, rfl, htp, hTT, sT, hn, hw, hw0, hwh⟩ := hTh j v T hv hT
  have av : atI vs (m % 3) = some (.ref tp) := at_of hj hv
  have stp : SqT K H tp [.int wh, .ref t, .int w] := .inl (.inl htp)
  obtain ⟨f, p, af, ap, hf, ep⟩ : ∃ f p, atI [V.ref f0, .ref f1] wh = some (.ref f) ∧ atI [V.int p0, .int p1] wh = some (.int p) ∧ IsF K H f p ∧ p = if wh = 0 then p0 else p1 := by
    rcases hwh with rfl | rfl
    · exact ⟨f0, p0, rfl, rfl, g0, rfl⟩
    · exact ⟨f1, p1, rfl, rfl, g1, rfl⟩
  rw [← ep] at sT
  obtain ⟨ts, fp, lts, tts, hts⟩ := things_tables (l3.trans lT.symm) hTh
  have okd3 : okd 3 (.lst (Ts.map dT)) = true := okd_l dT Ts fun x _ => okd_T 0 x
  walk_at "go"
  refine loop1 (walk_range (lo := 0) (n := 2)) 13 (fun i σ H' => Same H H' ∧ ∃ y13 y14, σ = [x0, x1, x2, some (.ref pr), some (.ref fl), some (.ref o), x6, some (.int c), some (.int wh), some (.int w), some (.ref t), x11, some (.ref ke), y13, y14, none, none, none, none]) ⟨Same.refl H, _, _, rfl⟩ (fun _ _ _ _ _ => trivial) ?_ ?_
  · rintro i x σ _ H1 hi ⟨s1, y13, y14, rfl⟩ ⟨rfl, ex⟩
    clear ex
    have hf1 := hf.mono s1
    have hTT1 := hTT.mono s1
    have sfl := SqL.of (K := K) (s1 _ _ hfl)
    have spr := SqL.of (K := K) (s1 _ _ hpr)
    have hn1 : n < 1000 := by omega
    have hw1 : w < 1000 := by omega
    unfold t_law_2
    walk_at "go"
    intro m' _ _
    walk_at "go"
    refine iteD (fun c => ?_) (fun c => ?_) <;> (
      walk_at "go"
      intro H2 s2
      have s02 := s1.trans s2
      have so2 := SqL.of (K := K) (s02 _ _ hvs)
      walk_at "go"
      refine lcA (walk_list (xs := vs)) (fun i => .ref (ts.getD i 0)) (by rw [l3]; decide) (fun H' s => s.seq so2) ?_ ?_
      · rintro i x _ H3 F hi s3 ⟨rfl, hx⟩ hF
        obtain ⟨tp', a', b', rfl, ht'⟩ := hts i x hx
        have st' : SqT K H3 tp' [a', .ref (ts.getD i 0), b'] := .inl (.inl ((s02.trans s3) _ _ ht'))
        have at1 : atI [a', .ref (ts.getD i 0), b'] 1 = some (.ref (ts.getD i 0)) := rfl
        refine ⟨rfl, ?_⟩
        walk_at "go"
        exact hF _ (Same.refl _)
      · intro q H3 nq s3 eq
        rw [← lts, givn_listA ts V.ref _ (fun i x e => by rw [List.getD_eq_getElem?_getD, e]; rfl)] at eq
        have rq : Rep H3 (.ref q) (.lst (Ts.map dT)) := ⟨_, .lst eq (tts.mono fun b _ o h => (s02.trans s3) b o h)⟩
        iterate 2 walk_at "go1"
        refine neD_rep 3 rq (hke.mono (s02.trans s3)) okd3 okd3 (by decide) (fun b hb => ?_)
        have hbf : b = false := by
          cases b with
          | false => rfl
          | true => exact absurd rfl (hb.mp rfl)
        subst hbf
        walk_at "go"
        refine iteF ?_
        exact ⟨s02.trans s3, _, _, rfl⟩)
  · rintro σ H1 ⟨s1, y13, y14, rfl⟩
    exact hD H1 _ _ _ _ _ _ _ s1
/-- the inner comprehension of kept: the table's rows copied -/
theorem kept_in {K : PySem.W.Frag} {x0 x1 x2 x3 x4 x5 x6 x7 x8 x9 x11 x12 x13 x14 x16 x18 : Option V} {H : Hp} {tt : Addr} {T : List (List Int)} {F : VK} {lq : List Addr} (htt : H tt = some (.lst (lq.map V.ref))) (rq : Rows H lq T) (hz : T.length < 1000)
    (hF : ∀ r H', Same H H' → New H H' (.ref r) (dT T) → F (.ref r) H') :
    tLc (iList K (tVar 10)) (gName 17) tYes (tCB (oList K) (tCons (tVar 17) tNil)) [15, 17] [x0, x1, x2, x3, x4, x5, x6, x7, x8, x9, some (.ref tt), x11, x12, x13, x14, none, x16, none, x18] H F := by
  have h10 : (1000 : Nat) < sizeLine := by decide
  have stt := SqL.of (K := K) htt
  walk_at "go"
  refine lcN (walk_list (xs := lq.map V.ref)) (fun i => dI (T.getD i [])) (by rw [List.length_map, rq.len]; omega) (fun H' s => s.seq stt) ?_ ?_
  · rintro i x _ H1 G hi s1 ⟨rfl, hx⟩ hG
    obtain ⟨l, rfl, hl, hi, hrow⟩ := rq.refs hx
    have hrow2 := SqLo (SqL.of (K := K) (s1 _ _ hrow))
    refine ⟨rfl, ?_⟩
    walk_at "go"
    intro r nr
    exact hG _ _ (same_new nr) (New.ints nr upd_same)
  · intro r H1 s1 nw
    rw [List.length_map, rq.len, givn_listA T dI _ (fun i x e => by rw [getD_of e])] at nw
    exact hF r H1 s1 nw
theorem pu_law {K : PySem.W.Frag} (vs : List V) (H : Hp) (Q : VK) (E : XK) (h : ∃ (a : Addr) (ns : List Int), vs = [.ref a] ∧ SqL K H a (ns.map V.int) ∧ ns.length ≤ 63 ∧ ∀ H', Q (.bl true) H') :
    t_law K { nx := fun _ H' => Q .non H', rt := Q } (start ["script", "first", "some", "primes", "fields", "things", "k", "cell", "which", "wide", "table", "more", "kept", "turn", "good", ".0", "prime", "row", "one"] vs) H := by
  obtain ⟨a, ns, rfl, hs, hl, q⟩ := h
  walk_at "go"
  intro c0
  walk_at "go"
  intro so nso
  have s1 := same_new (H := H) (o := .lst [.int 2, .int 3, .int 5, .int 7, .int 11, .int 13, .int 999983]) nso
  have sso : SqL K (upd H so (.lst [.int 2, .int 3, .int 5, .int 7, .int 11, .int 13, .int 999983])) so [.int 2, .int 3, .int 5, .int 7, .int 11, .int 13, .int 999983] := sqL_new
  obtain ⟨p0, e0, i0, l0⟩ := prime7 c0
  obtain ⟨p1, e1, i1, l1⟩ := prime7 (c0 / 7)
  have d7 : CDivW c0 7 := ⟨by decide, by decide⟩
  generalize upd H so (.lst [.int 2, .int 3, .int 5, .int 7, .int 11, .int 13, .int 999983]) = H1 at *
  walk_at "go"
  intro pr npr
  have s2 := same_new (H := H1) (o := .lst [.int p0, .int p1]) npr
  have hpr0 : upd H1 pr (.lst [.int p0, .int p1]) pr = some (.lst [.int p0, .int p1]) := upd_same
  generalize upd H1 pr (.lst [.int p0, .int p1]) = H2 at *
  have spr : SqL K H2 pr [.int p0, .int p1] := SqL.of hpr0
  walk_at "go"
  refine lcH (walk_list (xs := [.int p0, .int p1])) (fun i v H => ∃ f p, v = .ref f ∧ ([p0, p1] : List Int)[i]? = some p ∧ IsF K H f p) ?_ (show 2 < sizeLine by decide) (fun _ s => s.seq spr) ?_ ?_
  · rintro i v H1 H2 D xs hb hD ⟨f, p, rfl, e, dx, h1, h2⟩
    refine ⟨f, p, rfl, e, dx, hb _ _ (fun z => ?_) h1, h2⟩
    rw [z, hD] at h1
    cases h1
  · rintro i x _ H3 F hi s3 ⟨rfl, hx⟩ hF
    refine ⟨rfl, ?_⟩
    have hi : i < 2 := hi
    obtain ⟨r, rfl, hr, hr1, hr2⟩ : ∃ r, x = .int r ∧ ([p0, p1] : List Int)[i]? = some r ∧ isPr r = true ∧ r ≤ 1000000 := by
      match i, hi, hx with
      | 0, _, hx => cases hx; exact ⟨p0, rfl, rfl, i0, l0⟩
      | 1, _, hx => cases hx; exact ⟨p1, rfl, rfl, i1, l1⟩
    walk_at "go"
    refine use_Field hr1 hr2 (fun f H3 nf s3 hf => hF _ _ s3 ⟨f, r, rfl, hr, hf⟩)
  intro fl H3 fs nfl s3 efl hyf hpf
  obtain ⟨f0, f1, rfl, g0, g1⟩ : ∃ f0 f1 : Addr, fs = [.ref f0, .ref f1] ∧ IsF K H3 f0 p0 ∧ IsF K H3 f1 p1 := by
    match fs, hyf, hpf with
    | [x, y], _, hp =>
      obtain ⟨u0, v0, rfl, w0, t0⟩ := hp 0 x rfl
      obtain ⟨u1, v1, rfl, w1, t1⟩ := hp 1 y rfl
      cases w0; cases w1
      exact ⟨u0, u1, rfl, t0, t1⟩
  have q0 := isPr_pos i0
  have q1 := isPr_pos i1
  have hq0 : 2 ≤ p0 ∧ p0 ≤ 1000000 := ⟨q0, l0⟩
  have hq1 : 2 ≤ p1 ∧ p1 ≤ 1000000 := ⟨q1, l1⟩
  clear q0 q1
  have s13 := s1.trans (s2.trans s3)
  have hs3 := s13.seq hs
  have hpr3 := s3 _ _ hpr0
  walk_at "go"
  intro o no
  have s4 := same_new (H := H3) (o := .lst []) no
  have ho4 : upd H3 o (.lst []) o = some (.lst []) := upd_same
  generalize upd H3 o (.lst []) = H4 at *
  walk_at "go"
  refine loop1 (walk_range (lo := 0) (n := 3)) 6 (fun i σ H' => Same H3 H' ∧ ∃ (vs : List V) (Ts : List (List (List Int))) (x6 x7 x8 x9 x10 : Option V), H' o = some (.lst vs) ∧ vs.length = i ∧ Ts.length = i ∧ (∀ (j : Nat) (v : V) (T : List (List Int)), vs[j]? = some v → Ts[j]? = some T → Th (hide H' o) p0 p1 v T) ∧
      σ = [some (.ref a), some (.int c0), some (.ref so), some (.ref pr), some (.ref fl), some (.ref o), x6, x7, x8, x9, x10, none, none, none, none, none, none, none, none]) ⟨s4, [], [], none, none, none, none, none, ho4, rfl, rfl, fun j v T e => (by rw [List.getElem?_nil] at e; cases e), rfl⟩ (fun _ _ _ _ _ => trivial) ?_ ?_
  · rintro i x σ _ H5 hi ⟨s5, vs, Ts, x6, x7, x8, x9, x10, hvs, lv, lT, hTh, rfl⟩ ⟨rfl, ex⟩
    replace ex : x = .int (i : Int) := ex.trans (congrArg V.int (Int.zero_add _))
    subst ex
    have hs5 := s5.seq hs3
    have spr5 := SqL.of (K := K) (s5 _ _ hpr3)
    unfold t_law_1
    walk_at "go"
    intro c
    walk_at "go"
    intro m m0 m1
    obtain ⟨p, ap, hpp, hpe⟩ : ∃ p, atI [V.int p0, .int p1] (m % 2) = some (.int p) ∧ (2 ≤ p ∧ p ≤ 1000000) ∧ (p = if m % 2 = 0 then p0 else p1) := by
      have b0 := Int.emod_nonneg m (show (2 : Int) ≠ 0 by decide)
      have b1 := Int.emod_lt_of_pos m (show (0 : Int) < 2 by decide)
      generalize m % 2 = k at b0 b1
      by_cases k0 : k = 0
      · subst k0; exact ⟨p0, rfl, hq0, rfl⟩
      have k1 : k = 1 := by omega
      subst k1; exact ⟨p1, rfl, hq1, rfl⟩
    have mm : 0 ≤ m ∧ m < 2147483647 := ⟨m0, m1⟩
    clear m0 m1
    walk_at "go"
    intro m' m0' m1'
    have hw : 0 ≤ 1 + m' % 5 ∧ 1 + m' % 5 ≤ 10 := by omega
    clear m0' m1'
    walk_at "go"
    intro m2 m20 m21
    have hh : 0 ≤ m2 % 7 ∧ m2 % 7 ≤ 10 := by omega
    clear m20 m21
    walk_at "go"
    intro H6 t T s6 nT sT
    have ho6 := s6 _ _ hvs
    have lv2 : vs.length < 3 := by omega
    have lv3 : vs.length < sizeLine := Nat.lt_trans lv2 (by decide)
    obtain ⟨t', ls', et, ht6, rt6, _, fr6⟩ := nT.table
    cases et
    have hno : ∀ b ∈ t :: ls', b ≠ o := fun b hb z => by
      have := fr6 b hb
      rw [z, hvs] at this; cases this
    walk_at "go"
    intro tp ntp
    have s7 := same_new (H := H6) (o := .tup [.int (m % 2), .ref t, .int (1 + m' % 5)]) ntp
    have htp : upd H6 tp (.tup [.int (m % 2), .ref t, .int (1 + m' % 5)]) tp = some (.tup [.int (m % 2), .ref t, .int (1 + m' % 5)]) := upd_same
    generalize upd H6 tp (.tup [.int (m % 2), .ref t, .int (1 + m' % 5)]) = H7 at *
    have ho7 := s7 _ _ ho6
    walk_at "go"
    have nto : tp ≠ o := (ne_of_none ho6 ntp).symm
    have s57 := s6.trans s7
    refine ⟨same_mut (s5.trans s57) no, vs ++ [.ref tp], Ts ++ [T], _, _, _, _, _, upd_same, by rw [List.length_append, lv]; rfl, by rw [List.length_append, lT]; rfl, fun j v T' e1 e2 => ?_, rfl⟩
    by_cases hj : j < i
    · rw [List.getElem?_append_left (by omega)] at e1 e2
      exact (hTh j v T' e1 e2).mono (hide_same s57)
    · have hj2 : j = i := by
        have := (List.getElem?_eq_some_iff.mp e1).1
        rw [List.length_append] at this
        have : [V.ref tp].length = 1 := rfl
        omega
      subst hj2
      rw [← lv, List.getElem?_concat_length] at e1
      rw [← lT, List.getElem?_concat_length] at e2
      cases e1; cases e2
      have htp2 : hide (upd H7 o (.lst (vs ++ [.ref tp]))) o tp = _ := hide_at nto (upd_atN nto htp)
      have ht2 : hide (upd H7 o (.lst (vs ++ [.ref tp]))) o t = _ := hide_at (hno t (List.mem_cons_self ..)) (upd_atN (hno t (List.mem_cons_self ..)) (s7 _ _ ht6))
      have rt2 : Rows (hide (upd H7 o (.lst (vs ++ [.ref tp]))) o) ls' T := ⟨rt6.len, fun k l row a b => hide_at (hno l (List.mem_cons_of_mem _ (List.mem_of_getElem? a))) (upd_atN (hno l (List.mem_cons_of_mem _ (List.mem_of_getElem? a))) (s7 _ _ (rt6.at_ k l row a b)))⟩
      have e5 : ((1 + m' % 5).toNat : Int) = 1 + m' % 5 := by omega
      refine ⟨tp, t, m % 2, (m2 % 7).toNat, (1 + m' % 5).toNat, rfl, by rw [e5]; exact htp2, ⟨ls', ht2, rt2⟩, by rw [← hpe]; exact sT, by omega, by omega, ?_, by omega⟩
      have := Int.emod_nonneg m' (show (5 : Int) ≠ 0 by decide)
      omega
  · rintro σ H5 ⟨s5, vs, Ts, x6, x7, x8, x9, x10, hvs, lv, lT, hTh, rfl⟩
    obtain ⟨v0, v1, v2, T0, T1, T2, rfl, rfl⟩ : ∃ v0 v1 v2 T0 T1 T2, vs = [v0, v1, v2] ∧ Ts = [T0, T1, T2] := by
      match vs, lv, Ts, lT with
      | [v0, v1, v2], _, [T0, T1, T2], _ => exact ⟨v0, v1, v2, T0, T1, T2, rfl, rfl⟩
    have th0 := hTh 0 v0 T0 rfl rfl
    have th1 := hTh 1 v1 T1 rfl rfl
    have th0k := th0
    obtain ⟨tp, t, wh, n, w, rfl, htpH, ⟨ls, htH, rTH⟩, sT, hn, hw, hw0, hwh⟩ := th0k
    have htp := hide_in _ _ htpH
    have ht := hide_in _ _ htH
    have rT := rTH.mono hide_in
    have so5 := SqL.of (K := K) hvs
    have a0 : atI [V.ref tp, v1, v2] 0 = some (.ref tp) := rfl
    have stp : SqT K H5 tp [.int wh, .ref t, .int w] := .inl (.inl htp)
    have hs5 := s5.seq hs3
    have st := SqL.of (K := K) ht
    unfold t_law_5
    walk_at "go"
    intro mo
    obtain ⟨mk, hmk, hmk2⟩ : ∃ mk : Nat, 1 + mo % 6 = (mk : Int) ∧ mk ≤ 6 := ⟨(1 + mo % 6).toNat, by omega, by omega⟩
    have d6 : CDivW mo 6 := ⟨by decide, by decide⟩
    have ecut : cutV (ls.map V.ref) none (some (1 + mo % 6)) = (ls.take mk).map V.ref := by rw [hmk, cutV_take, List.map_take]
    walk_at "go"
    intro sa nsa
    rw [ecut]
    have s6 := same_new (H := H5) (o := .lst ((ls.take mk).map V.ref)) nsa
    have hsa : upd H5 sa (.lst ((ls.take mk).map V.ref)) sa = some (.lst ((ls.take mk).map V.ref)) := upd_same
    generalize upd H5 sa (.lst ((ls.take mk).map V.ref)) = H6 at *
    walk_at "go"
    intro z1 nz1
    have s7 := same_new (H := H6) (o := .lst [.int 0]) nz1
    have hz1 : upd H6 z1 (.lst [.int 0]) z1 = some (.lst [.int 0]) := upd_same
    generalize upd H6 z1 (.lst [.int 0]) = H7 at *
    have wz : [V.int 0].length * (w : Int).toNat ≤ sizeLine := by
      have : (100 : Nat) ≤ sizeLine := by decide
      show 1 * (w : Int).toNat ≤ sizeLine
      omega
    iterate 2 walk_at "go1"
    refine ⟨z1, (w : Int), [.int 0], rfl, rfl, hz1, by omega, by omega, wz, ?_⟩
    intro z2 nz2
    have ezz : (List.replicate (w : Int).toNat [V.int 0]).flatten = (List.replicate w (0 : Int)).map V.int := by
      rw [Int.toNat_natCast]
      clear wz
      have : ∀ w : Nat, (List.replicate w [V.int 0]).flatten = (List.replicate w (0 : Int)).map V.int := fun w => by
        induction w with
        | zero => rfl
        | succ w ih => rw [List.replicate_succ, List.replicate_succ, List.flatten_cons, ih]; rfl
      exact this w
    rw [ezz]
    have s8 := same_new (H := H7) (o := .lst ((List.replicate w (0 : Int)).map V.int)) nz2
    have hz2 : upd H7 z2 (.lst ((List.replicate w (0 : Int)).map V.int)) z2 = some (.lst ((List.replicate w (0 : Int)).map V.int)) := upd_same
    generalize upd H7 z2 (.lst ((List.replicate w (0 : Int)).map V.int)) = H8 at *
    walk_at "go"
    intro z3 nz3
    have s9 := same_new (H := H8) (o := .lst [.ref z2]) nz3
    have hz3 : upd H8 z3 (.lst [.ref z2]) z3 = some (.lst [.ref z2]) := upd_same
    generalize upd H8 z3 (.lst [.ref z2]) = H9 at *
    obtain ⟨b, hb, hb2⟩ : ∃ b : Nat, mo / 6 % 2 = (b : Int) ∧ b ≤ 1 := ⟨(mo / 6 % 2).toNat, by omega, by omega⟩
    have wz3 : [V.ref z2].length * (mo / 6 % 2).toNat ≤ sizeLine := by
      have : (100 : Nat) ≤ sizeLine := by decide
      show 1 * (mo / 6 % 2).toNat ≤ sizeLine
      omega
    iterate 12 walk_at "go1"
    refine ⟨z3, mo / 6 % 2, [.ref z2], rfl, rfl, hz3, by omega, by omega, wz3, ?_⟩
    intro z4 nz4
    have ez4 : (List.replicate (mo / 6 % 2).toNat [V.ref z2]).flatten = (List.replicate b z2).map V.ref := by
      rw [hb, Int.toNat_natCast]
      clear wz3 hb hb2
      induction b with
      | zero => rfl
      | succ b ih => rw [List.replicate_succ, List.replicate_succ, List.flatten_cons, ih]; rfl
    rw [ez4]
    have s10 := same_new (H := H9) (o := .lst ((List.replicate b z2).map V.ref)) nz4
    have hz4 : upd H9 z4 (.lst ((List.replicate b z2).map V.ref)) z4 = some (.lst ((List.replicate b z2).map V.ref)) := upd_same
    generalize upd H9 z4 (.lst ((List.replicate b z2).map V.ref)) = H10 at *
    have hsa10 := s10 _ _ (s9 _ _ (s8 _ _ (s7 _ _ hsa)))
    have lcat : ((ls.take mk).map V.ref).length + ((List.replicate b z2).map V.ref).length ≤ sizeLine := by
      have : (100 : Nat) ≤ sizeLine := by decide
      rw [List.length_map, List.length_map, List.length_take, List.length_replicate]; omega
    walk_at "go"
    intro ct nct
    have ecat : (ls.take mk).map V.ref ++ (List.replicate b z2).map V.ref = (ls.take mk ++ List.replicate b z2).map V.ref := by rw [List.map_append]
    rw [ecat]
    have s11 := same_new (H := H10) (o := .lst ((ls.take mk ++ List.replicate b z2).map V.ref)) nct
    have hct : upd H10 ct (.lst ((ls.take mk ++ List.replicate b z2).map V.ref)) ct = some (.lst ((ls.take mk ++ List.replicate b z2).map V.ref)) := upd_same
    generalize upd H10 ct (.lst ((ls.take mk ++ List.replicate b z2).map V.ref)) = H11 at *
    walk_at "go"
    intro tp2 ntp2
    have s12 := same_new (H := H11) (o := .tup [.int wh, .ref ct, .int w]) ntp2
    have htp2 : upd H11 tp2 (.tup [.int wh, .ref ct, .int w]) tp2 = some (.tup [.int wh, .ref ct, .int w]) := upd_same
    generalize upd H11 tp2 (.tup [.int wh, .ref ct, .int w]) = H12 at *
    have s512 : Same H5 H12 := s6.trans (s7.trans (s8.trans (s9.trans (s10.trans (s11.trans s12)))))
    have ho12 := s512 _ _ hvs
    have ix2 : ixN [V.ref tp, v1, v2].length 2 = some 2 := rfl
    have hne : ∀ b, H5 b = none → b ≠ o := fun b e z => by rw [z, hvs] at e; cases e
    have n12 : ∀ b x, H12 b = some x → (H5 b = none) → hide (upd H12 o (.lst [.ref tp, v1, .ref tp2])) o b = some x := fun b x e n => hide_at (hne b n) (upd_atN (hne b n) e)
    have th2 : Th (hide (upd H12 o (.lst [.ref tp, v1, .ref tp2])) o) p0 p1 (.ref tp2) (T0.take mk ++ List.replicate b (List.replicate w 0)) := by
      have hz212 := s12 _ _ (s11 _ _ (s10 _ _ (s9 _ _ hz2)))
      have rH := rTH.mono (hide_same (x := .lst [.ref tp, v1, .ref tp2]) s512)
      have f2 : H5 z2 = none := (s6.trans s7).free nz2
      have fct : H5 ct = none := (s6.trans (s7.trans (s8.trans (s9.trans s10)))).free nct
      have ftp : H5 tp2 = none := (s6.trans (s7.trans (s8.trans (s9.trans (s10.trans s11))))).free ntp2
      refine ⟨tp2, ct, wh, (T0.take mk ++ List.replicate b (List.replicate w 0)).length, w, rfl, n12 tp2 _ htp2 ftp, ⟨ls.take mk ++ List.replicate b z2, n12 ct _ (s12 _ _ hct) fct, by rw [List.length_append, List.length_append, List.length_take, List.length_take, List.length_replicate, List.length_replicate, rT.len], fun i l row e1 e2 => ?_⟩, ⟨rfl, fun row hr => ?_⟩, ?_, hw, hw0, hwh⟩
      · by_cases hi : i < (ls.take mk).length
        · have hi2 : i < (T0.take mk).length := by rw [List.length_take] at hi ⊢; rw [← rT.len]; exact hi
          rw [List.getElem?_append_left hi] at e1
          rw [List.getElem?_append_left hi2] at e2
          rw [List.length_take] at hi
          rw [List.getElem?_take_of_lt (by omega)] at e1 e2
          exact rH.at_ i l row e1 e2
        · have el : (ls.take mk).length = (T0.take mk).length := by rw [List.length_take, List.length_take, rT.len]
          rw [List.getElem?_append_right (by omega)] at e1
          rw [List.getElem?_append_right (by omega)] at e2
          have m1 := List.eq_of_mem_replicate (List.mem_of_getElem? e1)
          have m2 := List.eq_of_mem_replicate (List.mem_of_getElem? e2)
          subst m1 m2
          exact n12 _ _ hz212 f2
      · rcases List.mem_append.mp hr with hr | hr
        · exact sT.row row (List.mem_of_mem_take hr)
        · rw [List.eq_of_mem_replicate hr]
          refine ⟨List.length_replicate .., fun x hx => ?_⟩
          rw [List.eq_of_mem_replicate hx]
          by_cases c : wh = 0
          · rw [if_pos c]; omega
          · rw [if_neg c]; omega
      · rw [List.length_append, List.length_take, List.length_replicate]; omega
    have hTh2 : ∀ (j : Nat) (v : V) (T : List (List Int)), [V.ref tp, v1, V.ref tp2][j]? = some v → [T0, T1, T0.take mk ++ List.replicate b (List.replicate w 0)][j]? = some T → Th (upd H12 o (.lst [.ref tp, v1, .ref tp2])) p0 p1 v T := by
      intro j v T e1 e2
      match j, e1, e2 with
      | 0, e1, e2 => cases e1; cases e2; exact (th0.mono (hide_same s512)).mono hide_in
      | 1, e1, e2 => cases e1; cases e2; exact (th1.mono (hide_same s512)).mono hide_in
      | 2, e1, e2 => cases e1; cases e2; exact th2.mono hide_in
    generalize hT2 : T0.take mk ++ List.replicate b (List.replicate w 0) = T2' at *
    have so13 : SqL K (upd H12 o (.lst ([V.ref tp, v1, v2].set 2 (.ref tp2)))) o [.ref tp, v1, .ref tp2] := sqL_new
    walk_at "go"
    have hTg : ∀ i x, [V.ref tp, v1, V.ref tp2][i]? = some x → Th (upd H12 o (.lst [.ref tp, v1, .ref tp2])) p0 p1 x ([T0, T1, T2'].getD i []) := fun i x hx => by
      match i, hx with
      | 0, hx => exact hTh2 0 x _ hx rfl
      | 1, hx => exact hTh2 1 x _ hx rfl
      | 2, hx => exact hTh2 2 x _ hx rfl
    refine lcN (H := upd H12 o (.lst [.ref tp, v1, .ref tp2])) (walk_list (xs := [.ref tp, v1, .ref tp2])) (fun i => dT ([T0, T1, T2'].getD i [])) (show 3 < sizeLine by decide) (fun H' s => s.seq so13) ?_ ?_
    · rintro i x _ H14 F hi s14 ⟨rfl, hx⟩ hF
      obtain ⟨tq, tt, wq, nq, wn, rfl, htq, ⟨lq, htt, rq⟩, sq, hnq, _⟩ := (hTg i x hx).mono s14
      generalize [T0, T1, T2'].getD i [] = T at *
      have stq : SqT K H14 tq [.int wq, .ref tt, .int wn] := .inl (.inl htq)
      have stt := SqL.of (K := K) htt
      refine ⟨tq, [.int wq, .ref tt, .int wn], rfl, stq, rfl, .int wq, [.ref tt, .int wn], rfl, .ref tt, [.int wn], rfl, .int wn, [], rfl, rfl, rfl, ?_⟩
      exact kept_in htt rq (by rw [sq.len]; omega) (fun r H' s nw => hF _ _ s nw)
    · intro ke H14 s14 nke
      have hne : ∀ (j : Nat) (v : V) (T : List (List Int)), [V.ref tp, v1, V.ref tp2][j]? = some v → [T0, T1, T2'][j]? = some T → Th H14 p0 p1 v T := fun j v T e1 e2 => (hTh2 j v T e1 e2).mono s14
      have rke : Rep H14 (.ref ke) (.lst ([T0, T1, T2'].map dT)) := nke.rep
      have s314 : Same H3 (upd H12 o (.lst [.ref tp, v1, .ref tp2])) := same_mut (s5.trans s512) no
      have s3e := s314.trans s14
      have hs14 := s3e.seq hs3
      have hpr14 := s3e _ _ hpr3
      have hfl14 := s3e _ _ efl
      have ho14 := s14 _ _ (upd_same (H := H12) (a := o) (o := .lst [.ref tp, v1, .ref tp2]))
      have g014 := g0.mono s3e
      have g114 := g1.mono s3e
      clear hTg hTh2 nke th2 th0 th1 sT hTh
      walk_at "go"
      intro c1 nc1
      walk_at "go"
      intro c2 nc2
      have hlen : (cutV (ns.map V.int) (some 5) (some 17)).length + 2 ≤ sizeLine := by
        have : (cutV (ns.map V.int) (some 5) (some 17)).length ≤ 63 := by
          unfold cutV
          rw [List.length_take, List.length_drop, List.length_map]
          omega
        have h2 : (65 : Nat) ≤ sizeLine := by decide
        omega
      have ec1 := upd_at (u := .lst [.int 3, .int 8]) nc2 (upd_same (H := H14) (a := c1) (o := .lst (cutV (ns.map V.int) (some 5) (some 17))))
      walk_at "go"
      intro c3 nc3
      have s15 := ((same_new nc1).trans (same_new nc2)).trans (same_new (o := .lst (cutV (ns.map V.int) (some 5) (some 17) ++ [.int 3, .int 8])) nc3)
      walk_at "go"
      have hall : ∀ x ∈ cutV (ns.map V.int) (some 5) (some 17) ++ [.int 3, .int 8], ∃ n, x = V.int n := by
        intro x hx
        rcases List.mem_append.mp hx with hx | hx
        · have : x ∈ ns.map V.int := List.mem_of_mem_drop (List.mem_of_mem_take hx)
          obtain ⟨n, _, e⟩ := List.mem_map.mp this
          exact ⟨n, e.symm⟩
        · simp only [List.mem_cons, List.not_mem_nil, or_false] at hx
          rcases hx with rfl | rfl
          · exact ⟨3, rfl⟩
          · exact ⟨8, rfl⟩
      generalize hcs : cutV (ns.map V.int) (some 5) (some 17) ++ [.int 3, .int 8] = cs at *
      generalize hH3 : upd _ c3 (.lst cs) = H15 at *
      have ecs : SqL K H15 c3 cs := by rw [← hH3]; exact sqL_new
      refine loop1 (walk_list (xs := cs)) 7 (fun i σ H' => Same H15 H' ∧ ∃ y6 y7 y8 y9 y10 y11 y13 y14, σ = [some (.ref a), some (.int c0), some (.ref so), some (.ref pr), some (.ref fl), some (.ref o), y6, y7, y8, y9, y10, y11, some (.ref ke), y13, y14, none, none, none, none]) ⟨Same.refl H15, _, _, _, _, _, _, _, _, rfl⟩ (fun i σ H' _ h => h.1.seq ecs) ?_ ?_
      · rintro i x σ H16 _ hi ⟨s16, y6, y7, y8, y9, y10, y11, y13, y14, rfl⟩ ⟨rfl, hx⟩
        obtain ⟨c, rfl⟩ := hall x (List.mem_of_getElem? hx)
        have s := s15.trans s16
        exact main_turn (Q := Q) (s _ _ ho14) rfl rfl (fun j v T e1 e2 => (hne j v T e1 e2).mono s) (s _ _ hpr14) (s _ _ hfl14) (g014.mono s) (g114.mono s) (rke.mono s) rfl (fun H' _ _ _ _ _ _ _ s' => ⟨s16.trans s', _, _, _, _, _, _, _, _, rfl⟩)
      · rintro σ H' ⟨s4, y6, y7, y8, y9, y10, y11, y13, y14, rfl⟩
        unfold t_law_4
        walk_at "nrm"
        exact q _
end Mx

set_option Elab.async false
set_option linter.all false
set_option maxRecDepth 100000
set_option maxHeartbeats 0
namespace LX
open PySem PySem.Spec PyProof.Rows L2 Mx
def top (i : Nat) : Stmt := PySem.Challenge.pw_mixposts_k14_whole_tables_by_turns.main.body.getD i (.Pass ⟨0, 0, 0, 0⟩)
abbrev s_law_cell_at : Stmt := top 20
abbrev s_is_prime : Stmt := top 17
abbrev s_Field___init__ : Stmt := inClass (top 18) 0
abbrev s_law_mixed : Stmt := top 21
abbrev s_law_table : Stmt := top 22
abbrev s_ones : Stmt := top 4
abbrev s_first_with : Stmt := top 6
abbrev s_Field_fit : Stmt := inClass (top 18) 1
abbrev s_Field_back : Stmt := inClass (top 18) 5
abbrev s_Field_times : Stmt := inClass (top 18) 4
abbrev s_Field_minus : Stmt := inClass (top 18) 3
abbrev s_less_row : Stmt := top 5
abbrev s_Cleared_clear_others : Stmt := inClass (top 7) 2
abbrev s_Cleared_clear_at : Stmt := inClass (top 7) 1
abbrev s_Cleared___init__ : Stmt := inClass (top 7) 0
abbrev s_reader : Stmt := top 9
abbrev s_nought : Stmt := top 10
abbrev s_rank : Stmt := top 8
abbrev s_law_rows : Stmt := top 24
abbrev s_law_sum : Stmt := top 23
abbrev s_law_sent : Stmt := top 26
abbrev s_law_reads : Stmt := top 25
abbrev s_law_one_right : Stmt := top 27
abbrev s_Field_plus : Stmt := inClass (top 18) 2
abbrev s_sum_over : Stmt := top 1
abbrev s_product : Stmt := top 3
abbrev s_times_row : Stmt := top 2
abbrev s_law_product_right : Stmt := top 28
abbrev s_law : Stmt := top 29
def d_law_cell_at : He.DefD := ⟨("_law_cell_at", none), "_law_cell_at", "_law_cell_at", defArgs s_law_cell_at, defBody s_law_cell_at, defScope s_law_cell_at, [], []⟩
def d_is_prime : He.DefD := ⟨("is_prime", none), "is_prime", "is_prime", defArgs s_is_prime, defBody s_is_prime, defScope s_is_prime, [], []⟩
def d_Field___init__ : He.DefD := ⟨("Field", some "__init__"), "__init__", "Field.__init__", defArgs s_Field___init__, defBody s_Field___init__, defScope s_Field___init__, [], []⟩
def d_law_mixed : He.DefD := ⟨("_law_mixed", none), "_law_mixed", "_law_mixed", defArgs s_law_mixed, defBody s_law_mixed, defScope s_law_mixed, [], []⟩
def d_law_table : He.DefD := ⟨("_law_table", none), "_law_table", "_law_table", defArgs s_law_table, defBody s_law_table, defScope s_law_table, [], []⟩
def d_ones : He.DefD := ⟨("ones", none), "ones", "ones", defArgs s_ones, defBody s_ones, defScope s_ones, [], []⟩
def d_first_with : He.DefD := ⟨("first_with", none), "first_with", "first_with", defArgs s_first_with, defBody s_first_with, defScope s_first_with, [], []⟩
def d_Field_fit : He.DefD := ⟨("Field", some "fit"), "fit", "Field.fit", defArgs s_Field_fit, defBody s_Field_fit, defScope s_Field_fit, [], []⟩
def d_Field_back : He.DefD := ⟨("Field", some "back"), "back", "Field.back", defArgs s_Field_back, defBody s_Field_back, defScope s_Field_back, [], []⟩
def d_Field_times : He.DefD := ⟨("Field", some "times"), "times", "Field.times", defArgs s_Field_times, defBody s_Field_times, defScope s_Field_times, [], []⟩
def d_Field_minus : He.DefD := ⟨("Field", some "minus"), "minus", "Field.minus", defArgs s_Field_minus, defBody s_Field_minus, defScope s_Field_minus, [], []⟩
def d_less_row : He.DefD := ⟨("less_row", none), "less_row", "less_row", defArgs s_less_row, defBody s_less_row, defScope s_less_row, [], []⟩
def d_Cleared_clear_others : He.DefD := ⟨("Cleared", some "clear_others"), "clear_others", "Cleared.clear_others", defArgs s_Cleared_clear_others, defBody s_Cleared_clear_others, defScope s_Cleared_clear_others, [], []⟩
def d_Cleared_clear_at : He.DefD := ⟨("Cleared", some "clear_at"), "clear_at", "Cleared.clear_at", defArgs s_Cleared_clear_at, defBody s_Cleared_clear_at, defScope s_Cleared_clear_at, [], []⟩
def d_Cleared___init__ : He.DefD := ⟨("Cleared", some "__init__"), "__init__", "Cleared.__init__", defArgs s_Cleared___init__, defBody s_Cleared___init__, defScope s_Cleared___init__, [], []⟩
def d_reader : He.DefD := ⟨("reader", none), "reader", "reader", defArgs s_reader, defBody s_reader, defScope s_reader, [], []⟩
def d_nought : He.DefD := ⟨("nought", none), "nought", "nought", defArgs s_nought, defBody s_nought, defScope s_nought, [], []⟩
def d_rank : He.DefD := ⟨("rank", none), "rank", "rank", defArgs s_rank, defBody s_rank, defScope s_rank, [], []⟩
def d_law_rows : He.DefD := ⟨("_law_rows", none), "_law_rows", "_law_rows", defArgs s_law_rows, defBody s_law_rows, defScope s_law_rows, [], []⟩
def d_law_sum : He.DefD := ⟨("_law_sum", none), "_law_sum", "_law_sum", defArgs s_law_sum, defBody s_law_sum, defScope s_law_sum, [], []⟩
def d_law_sent : He.DefD := ⟨("_law_sent", none), "_law_sent", "_law_sent", defArgs s_law_sent, defBody s_law_sent, defScope s_law_sent, [], []⟩
def d_law_reads : He.DefD := ⟨("_law_reads", none), "_law_reads", "_law_reads", defArgs s_law_reads, defBody s_law_reads, defScope s_law_reads, [], []⟩
def d_law_one_right : He.DefD := ⟨("_law_one_right", none), "_law_one_right", "_law_one_right", defArgs s_law_one_right, defBody s_law_one_right, defScope s_law_one_right, [], []⟩
def d_Field_plus : He.DefD := ⟨("Field", some "plus"), "plus", "Field.plus", defArgs s_Field_plus, defBody s_Field_plus, defScope s_Field_plus, [], []⟩
def d_sum_over : He.DefD := ⟨("sum_over", none), "sum_over", "sum_over", defArgs s_sum_over, defBody s_sum_over, defScope s_sum_over, [], []⟩
def d_product : He.DefD := ⟨("product", none), "product", "product", defArgs s_product, defBody s_product, defScope s_product, [], []⟩
def d_times_row : He.DefD := ⟨("times_row", none), "times_row", "times_row", defArgs s_times_row, defBody s_times_row, defScope s_times_row, [], []⟩
def d_law_product_right : He.DefD := ⟨("_law_product_right", none), "_law_product_right", "_law_product_right", defArgs s_law_product_right, defBody s_law_product_right, defScope s_law_product_right, [], []⟩
def d_law : He.DefD := ⟨("law", none), "law", "law", defArgs s_law, defBody s_law, defScope s_law, [], []⟩
def fn0 : List He.DefD := [d_law_cell_at,
  d_is_prime,
  d_Field___init__,
  d_law_mixed,
  d_law_table,
  d_ones,
  d_first_with,
  d_Field_fit,
  d_Field_back,
  d_Field_times,
  d_Field_minus,
  d_less_row]
def fn1 : List He.DefD := [d_Cleared_clear_others,
  d_Cleared_clear_at,
  d_Cleared___init__,
  d_reader,
  d_nought,
  d_rank,
  d_law_rows,
  d_law_sum,
  d_law_sent,
  d_law_reads,
  d_law_one_right,
  d_Field_plus]
def fn2 : List He.DefD := [d_sum_over,
  d_product,
  d_times_row,
  d_law_product_right,
  d_law]
def fn : List He.DefD := fn0 ++ fn1 ++ fn2
def fa0 : List He.Fa := [.free "len",
  .glo "_law_cell_at",
  .int "GREATEST" 1000000,
  .glo "is_prime",
  .exc "NoPrime",
  .glo "NoPrime",
  .noat "Field" "prime",
  .cls "Field",
  .mkr "Field",
  .glo "Field",
  .free "range",
  .glo "_law_mixed"]
def fa1 : List He.Fa := [.free "zip",
  .glo "_law_table",
  .free "list",
  .noat "Cleared" "field",
  .cls "Cleared",
  .noat "Cleared" "lines",
  .noat "Cleared" "made_of",
  .glo "ones",
  .noat "Cleared" "places",
  .glo "first_with",
  .exc "NoBack",
  .glo "NoBack"]
def fa2 : List He.Fa := [.free "divmod",
  .meth "Field" "fit",
  .meth "Field" "back",
  .meth "Field" "times",
  .meth "Field" "minus",
  .glo "less_row",
  .meth "Cleared" "clear_others",
  .meth "Cleared" "clear_at",
  .mkr "Cleared",
  .glo "Cleared",
  .glo "reader",
  .free "enumerate"]
def fa3 : List He.Fa := [.glo "nought",
  .glo "rank",
  .free "isinstance",
  .free "int",
  .free "bool",
  .glo "_law_rows",
  .free "sum",
  .glo "_law_sum",
  .glo "_law_sent",
  .glo "_law_reads",
  .glo "_law_one_right",
  .meth "Field" "plus"]
def fa4 : List He.Fa := [.glo "sum_over",
  .glo "product",
  .glo "times_row",
  .glo "_law_product_right",
  .glo "law"]
def fa : List He.Fa := fa0 ++ fa1 ++ fa2 ++ fa3 ++ fa4
def fx0 : List Fx := []
def fx : List Fx := fx0
/-- what the top has written -/
structure Su (K : PySem.W.Frag) (mg : Str → Option Value) : Prop where
  c : SaysX fa fn fx K
  X : ∃ h : Heap, K.In h ∧ h.Ns mainGlobals mg
section
variable {P : Program} {w : World} {K : PySem.W.Frag} {mg : Str → Option Value} {base : Heap}
theorem Su.glo (S : Su K mg) (i : Nat) {x : Str} (h : fa[i]? = some (.glo x) := by rfl) : mg x = some (.ref (He.ga K x)) := let ⟨_, X, G⟩ := S.X; He.glo_ok X G (S.c.d.fact i h)
theorem Su.fre (S : Su K mg) (i : Nat) {x : Str} (h : fa[i]? = some (.free x) := by rfl) : mg x = none := let ⟨_, X, G⟩ := S.X; He.free_ok X G (S.c.d.fact i h)
theorem Su.int (S : Su K mg) (i : Nat) {x : Str} {z : Int} (h : fa[i]? = some (.int x z) := by rfl) : ∃ u, mg x = some u ∧ RelV (.int z) u := let ⟨_, X, G⟩ := S.X; let ⟨t, e⟩ := He.int_ok X G (S.c.d.fact i h); ⟨_, e, t, rfl⟩
theorem Su.str (S : Su K mg) (i : Nat) {x z : Str} (h : fa[i]? = some (.str x z) := by rfl) : ∃ u, mg x = some u ∧ RelV (.str z) u := let ⟨_, X, G⟩ := S.X; let ⟨t, e⟩ := He.str_ok X G (S.c.d.fact i h); ⟨_, e, t, rfl⟩
theorem Su.f_len (S : Su K mg) : mg "len" = none := S.fre 0
theorem Su.g_law_cell_at (S : Su K mg) : mg "_law_cell_at" = some (.ref (He.ga K "_law_cell_at")) := S.glo 1
theorem Su.c_GREATEST (S : Su K mg) : ∃ u, mg "GREATEST" = some u ∧ RelV (.int 1000000) u := S.int 2
theorem Su.g_is_prime (S : Su K mg) : mg "is_prime" = some (.ref (He.ga K "is_prime")) := S.glo 3
theorem Su.x_NoPrime (S : Su K mg) : PySem.W.excIn K (He.ga K "NoPrime") He.veBase "ValueError.__new__" = true ∧ PySem.W.keepIn K (.ref (He.ga K "NoPrime")) = true ∧ PySem.W.subIn K (.ref (He.ga K "NoPrime")) (.type "BaseException") = some true ∧ PySem.W.typeIn K (.ref (He.ga K "NoPrime")) = some (.type "type") := He.exc_ok (S.c.d.fact 4 rfl)
theorem Su.g_NoPrime (S : Su K mg) : mg "NoPrime" = some (.ref (He.ga K "NoPrime")) := S.glo 5
theorem Su.n_Field_prime (S : Su K mg) : NoAttr K (He.ga K "Field") "prime" := He.noat_ok (S.c.d.fact 6 rfl)
theorem Su.k_Field (S : Su K mg) : Cls K (He.ga K "Field") := He.cls_ok (S.c.d.fact 7 rfl)
theorem Su.m_Field (S : Su K mg) : Mk K (He.ga K "Field") (He.ma K (He.ga K "Field") "__init__") := He.mkr_ok (S.c.d.fact 8 rfl)
theorem Su.g_Field (S : Su K mg) : mg "Field" = some (.ref (He.ga K "Field")) := S.glo 9
theorem Su.f_range (S : Su K mg) : mg "range" = none := S.fre 10
theorem Su.g_law_mixed (S : Su K mg) : mg "_law_mixed" = some (.ref (He.ga K "_law_mixed")) := S.glo 11
theorem Su.f_zip (S : Su K mg) : mg "zip" = none := S.fre 12
theorem Su.g_law_table (S : Su K mg) : mg "_law_table" = some (.ref (He.ga K "_law_table")) := S.glo 13
theorem Su.f_list (S : Su K mg) : mg "list" = none := S.fre 14
theorem Su.n_Cleared_field (S : Su K mg) : NoAttr K (He.ga K "Cleared") "field" := He.noat_ok (S.c.d.fact 15 rfl)
theorem Su.k_Cleared (S : Su K mg) : Cls K (He.ga K "Cleared") := He.cls_ok (S.c.d.fact 16 rfl)
theorem Su.n_Cleared_lines (S : Su K mg) : NoAttr K (He.ga K "Cleared") "lines" := He.noat_ok (S.c.d.fact 17 rfl)
theorem Su.n_Cleared_made_of (S : Su K mg) : NoAttr K (He.ga K "Cleared") "made_of" := He.noat_ok (S.c.d.fact 18 rfl)
theorem Su.g_ones (S : Su K mg) : mg "ones" = some (.ref (He.ga K "ones")) := S.glo 19
theorem Su.n_Cleared_places (S : Su K mg) : NoAttr K (He.ga K "Cleared") "places" := He.noat_ok (S.c.d.fact 20 rfl)
theorem Su.g_first_with (S : Su K mg) : mg "first_with" = some (.ref (He.ga K "first_with")) := S.glo 21
theorem Su.x_NoBack (S : Su K mg) : PySem.W.excIn K (He.ga K "NoBack") He.veBase "ValueError.__new__" = true ∧ PySem.W.keepIn K (.ref (He.ga K "NoBack")) = true ∧ PySem.W.subIn K (.ref (He.ga K "NoBack")) (.type "BaseException") = some true ∧ PySem.W.typeIn K (.ref (He.ga K "NoBack")) = some (.type "type") := He.exc_ok (S.c.d.fact 22 rfl)
theorem Su.g_NoBack (S : Su K mg) : mg "NoBack" = some (.ref (He.ga K "NoBack")) := S.glo 23
theorem Su.f_divmod (S : Su K mg) : mg "divmod" = none := S.fre 24
theorem Su.e_Field_fit (S : Su K mg) : Meth K (He.ga K "Field") "fit" (He.ma K (He.ga K "Field") "fit") := He.meth_ok (S.c.d.fact 25 rfl)
theorem Su.e_Field_back (S : Su K mg) : Meth K (He.ga K "Field") "back" (He.ma K (He.ga K "Field") "back") := He.meth_ok (S.c.d.fact 26 rfl)
theorem Su.e_Field_times (S : Su K mg) : Meth K (He.ga K "Field") "times" (He.ma K (He.ga K "Field") "times") := He.meth_ok (S.c.d.fact 27 rfl)
theorem Su.e_Field_minus (S : Su K mg) : Meth K (He.ga K "Field") "minus" (He.ma K (He.ga K "Field") "minus") := He.meth_ok (S.c.d.fact 28 rfl)
theorem Su.g_less_row (S : Su K mg) : mg "less_row" = some (.ref (He.ga K "less_row")) := S.glo 29
theorem Su.e_Cleared_clear_others (S : Su K mg) : Meth K (He.ga K "Cleared") "clear_others" (He.ma K (He.ga K "Cleared") "clear_others") := He.meth_ok (S.c.d.fact 30 rfl)
theorem Su.e_Cleared_clear_at (S : Su K mg) : Meth K (He.ga K "Cleared") "clear_at" (He.ma K (He.ga K "Cleared") "clear_at") := He.meth_ok (S.c.d.fact 31 rfl)
theorem Su.m_Cleared (S : Su K mg) : Mk K (He.ga K "Cleared") (He.ma K (He.ga K "Cleared") "__init__") := He.mkr_ok (S.c.d.fact 32 rfl)
theorem Su.g_Cleared (S : Su K mg) : mg "Cleared" = some (.ref (He.ga K "Cleared")) := S.glo 33
theorem Su.g_reader (S : Su K mg) : mg "reader" = some (.ref (He.ga K "reader")) := S.glo 34
theorem Su.f_enumerate (S : Su K mg) : mg "enumerate" = none := S.fre 35
theorem Su.g_nought (S : Su K mg) : mg "nought" = some (.ref (He.ga K "nought")) := S.glo 36
theorem Su.g_rank (S : Su K mg) : mg "rank" = some (.ref (He.ga K "rank")) := S.glo 37
theorem Su.f_isinstance (S : Su K mg) : mg "isinstance" = none := S.fre 38
theorem Su.f_int (S : Su K mg) : mg "int" = none := S.fre 39
theorem Su.f_bool (S : Su K mg) : mg "bool" = none := S.fre 40
theorem Su.g_law_rows (S : Su K mg) : mg "_law_rows" = some (.ref (He.ga K "_law_rows")) := S.glo 41
theorem Su.f_sum (S : Su K mg) : mg "sum" = none := S.fre 42
theorem Su.g_law_sum (S : Su K mg) : mg "_law_sum" = some (.ref (He.ga K "_law_sum")) := S.glo 43
theorem Su.g_law_sent (S : Su K mg) : mg "_law_sent" = some (.ref (He.ga K "_law_sent")) := S.glo 44
theorem Su.g_law_reads (S : Su K mg) : mg "_law_reads" = some (.ref (He.ga K "_law_reads")) := S.glo 45
theorem Su.g_law_one_right (S : Su K mg) : mg "_law_one_right" = some (.ref (He.ga K "_law_one_right")) := S.glo 46
theorem Su.e_Field_plus (S : Su K mg) : Meth K (He.ga K "Field") "plus" (He.ma K (He.ga K "Field") "plus") := He.meth_ok (S.c.d.fact 47 rfl)
theorem Su.g_sum_over (S : Su K mg) : mg "sum_over" = some (.ref (He.ga K "sum_over")) := S.glo 48
theorem Su.g_product (S : Su K mg) : mg "product" = some (.ref (He.ga K "product")) := S.glo 49
theorem Su.g_times_row (S : Su K mg) : mg "times_row" = some (.ref (He.ga K "times_row")) := S.glo 50
theorem Su.g_law_product_right (S : Su K mg) : mg "_law_product_right" = some (.ref (He.ga K "_law_product_right")) := S.glo 51
theorem Su.g_law (S : Su K mg) : mg "law" = some (.ref (He.ga K "law")) := S.glo 52
theorem sc_law_cell_at : FnScope ["script", "k"] ["script", "k"] (defScope s_law_cell_at) := ⟨rfl, rfl, rfl, by decide +kernel, rfl, by decide +kernel, by decide +kernel⟩
theorem ok_law_cell_at (S : Su K mg) {fd : FuncData} {dvs : List V} (F : FunD K "_law_cell_at" "_law_cell_at" (defArgs s_law_cell_at) (defBody s_law_cell_at) (defScope s_law_cell_at) dvs [] (He.fAd K ("_law_cell_at", none)) fd) : FnOk P w K mg base (L2.CX P w) 1 (He.fAd K ("_law_cell_at", none)) fd ["script", "k"] (sp_law_cell_at K) :=
  FunD.ok (k := 0) F sc_law_cell_at (fun vs H Q E h => h.1) fun cdv A outer s H vs Q E hr h => ⟨t_law_cell_at K, PSs.nox (by
    have nd := sc_law_cell_at.nd
    exact (pss_cons (ps_if (pt_cmpR op_lt (pv 1) (pe_callB call_len_seq rfl S.f_len (by decide +kernel) (pa_cons (pv 0) pa_nil)) (nomark _)) (pss_one (ps_ret (pe_ix ix_list (pv 0) (pv 1) (fun _ _ => rfl)))) pss_nil) (pss_one (ps_ret pe_int)))), pu_law_cell_at vs H Q E h.2⟩
theorem ca_law_cell_at (S : Su K mg) : Cal P w K mg base (He.fAd K ("_law_cell_at", none)) ["script", "k"] 1 [] (sp_law_cell_at K) := by
  obtain ⟨fd, F⟩ := S.c.d.def_ 0 (d := d_law_cell_at) rfl
  exact ⟨⟨fd, ok_law_cell_at S F, [], .nil, FunD.bindsN F fun _ _ _ _ _ _ us hl => match us, hl with | [_, _], _ => rfl⟩, F.kp⟩
theorem sc_is_prime : FnScope ["number", "by"] ["number"] (defScope s_is_prime) := ⟨rfl, rfl, rfl, by decide +kernel, rfl, by decide +kernel, by decide +kernel⟩
theorem ok_is_prime (S : Su K mg) {fd : FuncData} {dvs : List V} (F : FunD K "is_prime" "is_prime" (defArgs s_is_prime) (defBody s_is_prime) (defScope s_is_prime) dvs [] (He.fAd K ("is_prime", none)) fd) : FnOk P w K mg base (L2.CX P w) 1 (He.fAd K ("is_prime", none)) fd ["number"] (sp_is_prime K) :=
  FunD.ok (k := 0) F sc_is_prime (fun vs H Q E h => h.1) fun cdv A outer s H vs Q E hr h => ⟨t_is_prime K, PSs.nox (by
    have nd := sc_is_prime.nd
    exact (pss_cons (ps_if (pt_cmpR op_lt (pv 0) pe_int (nomark _)) (pss_one (ps_ret pe_bl)) pss_nil) (pss_cons (ps_set (i := 1) nd rfl (.inl rfl) pe_int) (pss_cons (ps_while PassesOwn.never (pt_cmpR op_le (pe_op op_mul (pv 1) (pv 1)) (pv 0) (nomark _)) (pss_cons (ps_if (pt_cmpR op_eq (pe_op op_mod (pv 0) (pv 1)) pe_int (nomark _)) (pss_one (ps_ret pe_bl)) pss_nil) (pss_one (ps_aug (i := 1) nd rfl (.inl rfl) pe_int ip_add)))) (pss_one (ps_ret pe_bl)))))), pu_is_prime vs H Q E h.2⟩
theorem ca_is_prime (S : Su K mg) : Cal P w K mg base (He.fAd K ("is_prime", none)) ["number"] 1 [] (sp_is_prime K) := by
  obtain ⟨fd, F⟩ := S.c.d.def_ 1 (d := d_is_prime) rfl
  exact ⟨⟨fd, ok_is_prime S F, [], .nil, FunD.bindsN F fun _ _ _ _ _ _ us hl => match us, hl with | [_], _ => rfl⟩, F.kp⟩
theorem sc_Field___init__ : FnScope ["self", "prime"] ["self", "prime"] (defScope s_Field___init__) := ⟨rfl, rfl, rfl, by decide +kernel, rfl, by decide +kernel, by decide +kernel⟩
theorem ok_Field___init__ (S : Su K mg) {fd : FuncData} {dvs : List V} (F : FunD K "__init__" "Field.__init__" (defArgs s_Field___init__) (defBody s_Field___init__) (defScope s_Field___init__) dvs [] (He.fAd K ("Field", some "__init__")) fd) : FnOk P w K mg base (L2.CX P w) 2 (He.fAd K ("Field", some "__init__")) fd ["self", "prime"] (sp_Field___init__ K) :=
  FunD.ok (k := 1) F sc_Field___init__ (fun vs H Q E h => h.1) fun cdv A outer s H vs Q E hr h => ⟨t_Field___init__ K E, (by
    have nd := sc_Field___init__.nd
    have tk : Takes (cxOf (L2.CX P w) P w K mg base ["self", "prime"] "Field.__init__" (defScope s_Field___init__) (He.fAd K ("Field", some "__init__")) cdv A outer s H E) (fun cls d _ H => E cls d H) := takes_of rfl rfl rfl rfl
    exact (pss_cons (ps_if (PW.pt (pw_or (pt_cmpR op_gt (pv 1) (pe_glob rfl (S.c_GREATEST).choose_spec.1 (S.c_GREATEST).choose_spec.2) (nomark _)) (pw_or1 (pt_not (pt_val (kc_call (ca_is_prime S) (hr.mono (by decide)) rfl S.g_is_prime (pxE tk) (pa_cons (pv 1) pa_nil)) (by intro _; rfl)))))) (pss_one (ps_raise rfl tk (pmk_own PySem.F.excBase_ValueError S.x_NoPrime.1 S.g_NoPrime S.x_NoPrime.2.1 (raises_own S.x_NoPrime.2.2.1 S.x_NoPrime.2.2.2) rfl))) pss_nil) (pss_one (kc_sfld (pv 0) (pv 1) S.k_Field S.n_Field_prime rfl)))), pu_Field___init__ vs H Q E h.2⟩
theorem ca_Field___init__ (S : Su K mg) : Cal P w K mg base (He.fAd K ("Field", some "__init__")) ["self", "prime"] 2 [] (sp_Field___init__ K) := by
  obtain ⟨fd, F⟩ := S.c.d.def_ 2 (d := d_Field___init__) rfl
  exact ⟨⟨fd, ok_Field___init__ S F, [], .nil, FunD.bindsN F fun _ _ _ _ _ _ us hl => match us, hl with | [_, _], _ => rfl⟩, F.kp⟩
theorem sc_law_mixed : FnScope ["cell", "k", "left", "turn", "number"] ["cell", "k"] (defScope s_law_mixed) := ⟨rfl, rfl, rfl, by decide +kernel, rfl, by decide +kernel, by decide +kernel⟩
theorem ok_law_mixed (S : Su K mg) {fd : FuncData} {dvs : List V} (F : FunD K "_law_mixed" "_law_mixed" (defArgs s_law_mixed) (defBody s_law_mixed) (defScope s_law_mixed) dvs [] (He.fAd K ("_law_mixed", none)) fd) : FnOk P w K mg base (L2.CX P w) 1 (He.fAd K ("_law_mixed", none)) fd ["cell", "k"] (sp_law_mixed K) :=
  FunD.ok (k := 0) F sc_law_mixed (fun vs H Q E h => h.1) fun cdv A outer s H vs Q E hr h => ⟨t_law_mixed K, PSs.nox (by
    have nd := sc_law_mixed.nd
    exact (pss_cons (ps_set (i := 2) nd rfl (.inl rfl) (pv 0)) (pss_cons (ps_for PassesOwn.never rfl (pi_range1 rfl S.f_range (pa_cons (pe_op op_add (pv 1) pe_int) pa_nil)) (pg_name (i := 3) nd rfl (.inl rfl)) (pss_one (ps_set (i := 2) nd rfl (.inl rfl) (pe_op op_fdivW (pv 2) (pe_op op_pow pe_int pe_int))))) (pss_cons (ps_if (pt_cmpR op_gt (pv 2) pe_int (nomark _)) (pss_one (ps_ret (pe_op op_mod (pv 2) (pe_op op_pow pe_int pe_int)))) pss_nil) (pss_cons (ps_set (i := 4) nd rfl (.inl rfl) (pe_op op_mod (pe_op op_mul (pe_op op_add (pe_op op_add (pv 0) (pe_op op_mul pe_int (pv 1))) pe_int) pe_int) pe_int)) (pss_one (ps_ret (pe_op op_mod (pe_op op_mul (pv 4) (pe_op op_add (pe_op op_fdivW (pv 4) pe_int) pe_int)) pe_int)))))))), pu_law_mixed vs H Q E h.2⟩
theorem ca_law_mixed (S : Su K mg) : Cal P w K mg base (He.fAd K ("_law_mixed", none)) ["cell", "k"] 1 [] (sp_law_mixed K) := by
  obtain ⟨fd, F⟩ := S.c.d.def_ 3 (d := d_law_mixed) rfl
  exact ⟨⟨fd, ok_law_mixed S F, [], .nil, FunD.bindsN F fun _ _ _ _ _ _ us hl => match us, hl with | [_, _], _ => rfl⟩, F.kp⟩
theorem sc_law_table : FnScope ["cell", "prime", "high", "wide", "rows", "k", "row", "many", ".0", "j", "left", "right"] ["cell", "prime", "high", "wide"] (defScope s_law_table) := ⟨rfl, rfl, rfl, by decide +kernel, rfl, by decide +kernel, by decide +kernel⟩
theorem ok_law_table (S : Su K mg) {fd : FuncData} {dvs : List V} (F : FunD K "_law_table" "_law_table" (defArgs s_law_table) (defBody s_law_table) (defScope s_law_table) dvs [] (He.fAd K ("_law_table", none)) fd) : FnOk P w K mg base (L2.CX P w) 2 (He.fAd K ("_law_table", none)) fd ["cell", "prime", "high", "wide"] (sp_law_table K) :=
  FunD.ok (k := 1) F sc_law_table (fun vs H Q E h => h.1) fun cdv A outer s H vs Q E hr h => ⟨t_law_table K, PSs.nox (by
    have nd := sc_law_table.nd
    exact (pss_cons (ps_set (i := 4) nd rfl (.inl rfl) (pe_lst pa_nil)) (pss_cons (ps_for PassesOwn.never rfl (pi_range1 rfl S.f_range (pa_cons (pv 2) pa_nil)) (pg_name (i := 5) nd rfl (.inr rfl)) (pss_cons (ps_setLc (own := [(".0", 8), ("j", 9)]) (i := 6) rfl nd rfl rfl (sw_true rfl rfl rfl (by decide +kernel)) (pi_range1 rfl S.f_range (pa_cons (pv 3) pa_nil)) (blkOk_by (by kernel_rfl)) (fun _ _ _ _ _ => (pg_name (i := 9) nd rfl (.inl rfl))) (fun _ _ _ _ _ => pts_nil) (fun _ _ _ _ _ => (pe_op op_mod (kc_call (ca_law_mixed S) (hr.mono (by decide)) rfl S.g_law_mixed px0 (pa_cons (pv 0) (pa_cons (pe_op op_add (pe_op op_mul pe_int (pv 5)) (pv 9)) pa_nil))) (pe_ix ix_list (pe_lst (pa_cons (pv 1) (pa_cons pe_int (pa_cons pe_int pa_nil)))) (pe_op op_mod (pv 0) pe_int) (fun _ _ => rfl))))) (pss_cons (ps_if (PW.pt (pw_and (pt_cmpR op_eq (pe_op op_mod (pe_op op_fdivW (pv 0) pe_int) pe_int) pe_int (nomark _)) (pw_and (pt_cmpR op_gt (pv 5) pe_int (nomark _)) (pw_and1 (pt_cmpR op_eq (pe_op op_mod (kc_call (ca_law_mixed S) (hr.mono (by decide)) rfl S.g_law_mixed px0 (pa_cons (pv 0) (pa_cons (pe_op op_add pe_int (pv 5)) pa_nil))) pe_int) pe_int (nomark _)))))) (pss_cons (ps_set (i := 7) nd rfl (.inr rfl) (pe_op op_mod (kc_call (ca_law_mixed S) (hr.mono (by decide)) rfl S.g_law_mixed px0 (pa_cons (pv 0) (pa_cons (pe_op op_add pe_int (pv 5)) pa_nil))) (pv 1))) (pss_one (ps_setLc (own := [(".0", 8), ("left", 10)]) (i := 6) rfl nd rfl rfl (sw_true rfl rfl rfl (by decide +kernel)) (pi_list (pe_ix ix_list (pv 4) (pe_op op_mod (kc_call (ca_law_mixed S) (hr.mono (by decide)) rfl S.g_law_mixed px0 (pa_cons (pv 0) (pa_cons (pe_op op_add pe_int (pv 5)) pa_nil))) (pv 5)) (fun _ _ => rfl))) (blkOk_by (by kernel_rfl)) (fun _ _ _ _ _ => (pg_name (i := 10) nd rfl (.inl rfl))) (fun _ _ _ _ _ => pts_nil) (fun _ _ _ _ _ => (pe_op op_mod (pe_op op_mul (pv 10) (pv 7)) (pv 1)))))) pss_nil) (pss_cons (ps_if (PW.pt (pw_and (pt_cmpR op_eq (pe_op op_mod (pe_op op_fdivW (pv 0) pe_int) pe_int) pe_int (nomark _)) (pw_and (pt_cmpR op_gt (pv 5) pe_int (nomark _)) (pw_and1 (pt_cmpR op_eq (pe_op op_mod (kc_call (ca_law_mixed S) (hr.mono (by decide)) rfl S.g_law_mixed px0 (pa_cons (pv 0) (pa_cons (pe_op op_add pe_int (pv 5)) pa_nil))) pe_int) pe_int (nomark _)))))) (pss_one (ps_setLc (own := [(".0", 8), ("left", 10), ("right", 11)]) (i := 6) rfl nd rfl rfl (sw_true rfl rfl rfl (by decide +kernel)) (pi_zip rfl S.f_zip (pa_cons (pe_ix ix_list (pv 4) pe_int (fun _ _ => rfl)) (pa_cons (pe_ix ix_list (pv 4) (pe_op op_sub (pv 5) pe_int) (fun _ _ => rfl)) pa_nil))) (blkOk_by (by kernel_rfl)) (fun _ _ _ _ _ => (pg_tup rfl (pgs_cons (pg_name (i := 10) nd rfl (.inl rfl)) (pgs_cons (pg_name (i := 11) nd rfl (.inl rfl)) pgs_nil)))) (fun _ _ _ _ _ => pts_nil) (fun _ _ _ _ _ => (pe_op op_mod (pe_op op_add (pv 10) (pv 11)) (pv 1))))) pss_nil) (pss_one (ps_expr (pe_bm PySem.F.plainAttrs_list PySem.F.slot_list_append PySem.F.type_list_append mt_append (pv 4) (pa_cons (pv 6) pa_nil)))))))) (pss_one (ps_ret (pv 4)))))), pu_law_table vs H Q E h.2⟩
theorem ca_law_table (S : Su K mg) : Cal P w K mg base (He.fAd K ("_law_table", none)) ["cell", "prime", "high", "wide"] 2 [] (sp_law_table K) := by
  obtain ⟨fd, F⟩ := S.c.d.def_ 4 (d := d_law_table) rfl
  exact ⟨⟨fd, ok_law_table S F, [], .nil, FunD.bindsN F fun _ _ _ _ _ _ us hl => match us, hl with | [_, _, _, _], _ => rfl⟩, F.kp⟩
theorem sc_ones : FnScope ["many", ".0", "k", "place"] ["many"] (defScope s_ones) := ⟨rfl, rfl, rfl, by decide +kernel, rfl, by decide +kernel, by decide +kernel⟩
theorem ok_ones (S : Su K mg) {fd : FuncData} {dvs : List V} (F : FunD K "ones" "ones" (defArgs s_ones) (defBody s_ones) (defScope s_ones) dvs [] (He.fAd K ("ones", none)) fd) : FnOk P w K mg base (L2.CX P w) 1 (He.fAd K ("ones", none)) fd ["many"] (sp_ones K) :=
  FunD.ok (k := 0) F sc_ones (fun vs H Q E h => h.1) fun cdv A outer s H vs Q E hr h => ⟨t_ones K, PSs.nox (by
    have nd := sc_ones.nd
    exact (pss_one (ps_ret (pe_lc (own := [(".0", 1), ("k", 2)]) rfl nd (pi_range1 rfl S.f_range (pa_cons (pv 0) pa_nil)) (blkOk_by (by kernel_rfl)) (fun _ _ _ _ _ => (pg_name (i := 2) nd rfl (.inr rfl))) (fun _ _ _ _ _ => pts_nil) (fun _ _ _ _ _ => (pe_lc (own := [(".0", 1), ("place", 3)]) rfl nd (pi_range1 rfl S.f_range (pa_cons (pv 0) pa_nil)) (blkOk_by (by kernel_rfl)) (fun _ _ _ _ _ => (pg_name (i := 3) nd rfl (.inl rfl))) (fun _ _ _ _ _ => pts_nil) (fun _ _ _ _ _ => (pe_ifExp (pt_cmpR op_eq (pv 2) (pv 3) (nomark _)) pe_int pe_int)))))))), pu_ones vs H Q E h.2⟩
theorem ca_ones (S : Su K mg) : Cal P w K mg base (He.fAd K ("ones", none)) ["many"] 1 [] (sp_ones K) := by
  obtain ⟨fd, F⟩ := S.c.d.def_ 5 (d := d_ones) rfl
  exact ⟨⟨fd, ok_ones S F, [], .nil, FunD.bindsN F fun _ _ _ _ _ _ us hl => match us, hl with | [_], _ => rfl⟩, F.kp⟩
theorem sc_first_with : FnScope ["rows", "done", "place", "k"] ["rows", "done", "place"] (defScope s_first_with) := ⟨rfl, rfl, rfl, by decide +kernel, rfl, by decide +kernel, by decide +kernel⟩
theorem ok_first_with (S : Su K mg) {fd : FuncData} {dvs : List V} (F : FunD K "first_with" "first_with" (defArgs s_first_with) (defBody s_first_with) (defScope s_first_with) dvs [] (He.fAd K ("first_with", none)) fd) : FnOk P w K mg base (L2.CX P w) 1 (He.fAd K ("first_with", none)) fd ["rows", "done", "place"] (sp_first_with K) :=
  FunD.ok (k := 0) F sc_first_with (fun vs H Q E h => h.1) fun cdv A outer s H vs Q E hr h => ⟨t_first_with K, PSs.nox (by
    have nd := sc_first_with.nd
    exact (pss_cons (ps_for PassesOwn.never rfl (pi_range2 rfl S.f_range (pa_cons (pv 1) (pa_cons (pe_callB call_len_seq rfl S.f_len (by decide +kernel) (pa_cons (pv 0) pa_nil)) pa_nil))) (pg_name (i := 3) nd rfl (.inl rfl)) (pss_one (ps_if (pt_cmpR op_ne (pe_ix ix_list (pe_ix ix_list (pv 0) (pv 3) (fun _ _ => rfl)) (pv 2) (fun _ _ => rfl)) pe_int (nomark _)) (pss_one (ps_ret (pv 3))) pss_nil))) (pss_one (ps_ret pe_non)))), pu_first_with vs H Q E h.2⟩
theorem ca_first_with (S : Su K mg) : Cal P w K mg base (He.fAd K ("first_with", none)) ["rows", "done", "place"] 1 [] (sp_first_with K) := by
  obtain ⟨fd, F⟩ := S.c.d.def_ 6 (d := d_first_with) rfl
  exact ⟨⟨fd, ok_first_with S F, [], .nil, FunD.bindsN F fun _ _ _ _ _ _ us hl => match us, hl with | [_, _, _], _ => rfl⟩, F.kp⟩
theorem sc_Field_fit : FnScope ["self", "number"] ["self", "number"] (defScope s_Field_fit) := ⟨rfl, rfl, rfl, by decide +kernel, rfl, by decide +kernel, by decide +kernel⟩
theorem ok_Field_fit (S : Su K mg) {fd : FuncData} {dvs : List V} (F : FunD K "fit" "Field.fit" (defArgs s_Field_fit) (defBody s_Field_fit) (defScope s_Field_fit) dvs [] (He.fAd K ("Field", some "fit")) fd) : FnOk P w K mg base (L2.CX P w) 1 (He.fAd K ("Field", some "fit")) fd ["self", "number"] (sp_Field_fit K) :=
  FunD.ok (k := 0) F sc_Field_fit (fun vs H Q E h => h.1) fun cdv A outer s H vs Q E hr h => ⟨t_Field_fit K, PSs.nox (by
    have nd := sc_Field_fit.nd
    exact (pss_one (ps_ret (pe_op op_mod (pv 1) (kc_fld (pv 0) S.k_Field S.n_Field_prime rfl))))), pu_Field_fit vs H Q E h.2⟩
theorem ca_Field_fit (S : Su K mg) : Cal P w K mg base (He.fAd K ("Field", some "fit")) ["self", "number"] 1 [] (sp_Field_fit K) := by
  obtain ⟨fd, F⟩ := S.c.d.def_ 7 (d := d_Field_fit) rfl
  exact ⟨⟨fd, ok_Field_fit S F, [], .nil, FunD.bindsN F fun _ _ _ _ _ _ us hl => match us, hl with | [_, _], _ => rfl⟩, F.kp⟩
theorem sc_Field_back : FnScope ["self", "number", "left", "right", "one", "other", "many", "rest"] ["self", "number"] (defScope s_Field_back) := ⟨rfl, rfl, rfl, by decide +kernel, rfl, by decide +kernel, by decide +kernel⟩
theorem ok_Field_back (S : Su K mg) {fd : FuncData} {dvs : List V} (F : FunD K "back" "Field.back" (defArgs s_Field_back) (defBody s_Field_back) (defScope s_Field_back) dvs [] (He.fAd K ("Field", some "back")) fd) : FnOk P w K mg base (L2.CX P w) 2 (He.fAd K ("Field", some "back")) fd ["self", "number"] (sp_Field_back K) :=
  FunD.ok (k := 1) F sc_Field_back (fun vs H Q E h => h.1) fun cdv A outer s H vs Q E hr h => ⟨t_Field_back K E, (by
    have nd := sc_Field_back.nd
    have tk : Takes (cxOf (L2.CX P w) P w K mg base ["self", "number", "left", "right", "one", "other", "many", "rest"] "Field.back" (defScope s_Field_back) (He.fAd K ("Field", some "back")) cdv A outer s H E) (fun cls d _ H => E cls d H) := takes_of rfl rfl rfl rfl
    exact (pss_cons (ps_if (pt_cmpR op_eq (pv 1) pe_int (nomark _)) (pss_one (ps_raise rfl tk (pmk_own PySem.F.excBase_ValueError S.x_NoBack.1 S.g_NoBack S.x_NoBack.2.1 (raises_own S.x_NoBack.2.2.1 S.x_NoBack.2.2.2) rfl))) pss_nil) (pss_cons (ps_set (i := 2) nd rfl (.inl rfl) (kc_fld (pv 0) S.k_Field S.n_Field_prime rfl)) (pss_cons (ps_set (i := 3) nd rfl (.inl rfl) (pv 1)) (pss_cons (ps_set (i := 4) nd rfl (.inl rfl) pe_int) (pss_cons (ps_set (i := 5) nd rfl (.inl rfl) pe_int) (pss_cons (ps_while (passes_of rfl) (pt_cmpR op_gt (pv 3) pe_int (nomark _)) (pss_cons (ps_asg (pe_callB call_divmodW rfl S.f_divmod (by decide +kernel) (pa_cons (pv 2) (pa_cons (pv 3) pa_nil))) (pg_tup rfl (pgs_cons (pg_name (i := 6) nd rfl (.inl rfl)) (pgs_cons (pg_name (i := 7) nd rfl (.inl rfl)) pgs_nil)))) (pss_cons (ps_par (i := 2) (j := 3) rfl nd rfl rfl (by decide) rfl rfl (pa_cons (pv 3) (pa_cons (pv 7) pa_nil)) (by rfl)) (pss_one (ps_par (i := 4) (j := 5) rfl nd rfl rfl (by decide) rfl rfl (pa_cons (pv 5) (pa_cons (pe_op op_sub (pv 4) (pe_op op_mul (pv 6) (pv 5))) pa_nil)) (by rfl)))))) (pss_one (ps_ret (kc_meth (pv 0) S.k_Field S.e_Field_fit (ca_Field_fit S) (hr.mono (by decide)) (pxE tk) (pa_cons (pv 4) pa_nil))))))))))), pu_Field_back vs H Q E h.2⟩
theorem ca_Field_back (S : Su K mg) : Cal P w K mg base (He.fAd K ("Field", some "back")) ["self", "number"] 2 [] (sp_Field_back K) := by
  obtain ⟨fd, F⟩ := S.c.d.def_ 8 (d := d_Field_back) rfl
  exact ⟨⟨fd, ok_Field_back S F, [], .nil, FunD.bindsN F fun _ _ _ _ _ _ us hl => match us, hl with | [_, _], _ => rfl⟩, F.kp⟩
theorem sc_Field_times : FnScope ["self", "one", "other"] ["self", "one", "other"] (defScope s_Field_times) := ⟨rfl, rfl, rfl, by decide +kernel, rfl, by decide +kernel, by decide +kernel⟩
theorem ok_Field_times (S : Su K mg) {fd : FuncData} {dvs : List V} (F : FunD K "times" "Field.times" (defArgs s_Field_times) (defBody s_Field_times) (defScope s_Field_times) dvs [] (He.fAd K ("Field", some "times")) fd) : FnOk P w K mg base (L2.CX P w) 2 (He.fAd K ("Field", some "times")) fd ["self", "one", "other"] (sp_Field_times K) :=
  FunD.ok (k := 1) F sc_Field_times (fun vs H Q E h => h.1) fun cdv A outer s H vs Q E hr h => ⟨t_Field_times K, PSs.nox (by
    have nd := sc_Field_times.nd
    exact (pss_one (ps_ret (kc_meth (pv 0) S.k_Field S.e_Field_fit (ca_Field_fit S) (hr.mono (by decide)) px0 (pa_cons (pe_op op_mul (pv 1) (pv 2)) pa_nil))))), pu_Field_times vs H Q E h.2⟩
theorem ca_Field_times (S : Su K mg) : Cal P w K mg base (He.fAd K ("Field", some "times")) ["self", "one", "other"] 2 [] (sp_Field_times K) := by
  obtain ⟨fd, F⟩ := S.c.d.def_ 9 (d := d_Field_times) rfl
  exact ⟨⟨fd, ok_Field_times S F, [], .nil, FunD.bindsN F fun _ _ _ _ _ _ us hl => match us, hl with | [_, _, _], _ => rfl⟩, F.kp⟩
theorem sc_Field_minus : FnScope ["self", "one", "other"] ["self", "one", "other"] (defScope s_Field_minus) := ⟨rfl, rfl, rfl, by decide +kernel, rfl, by decide +kernel, by decide +kernel⟩
theorem ok_Field_minus (S : Su K mg) {fd : FuncData} {dvs : List V} (F : FunD K "minus" "Field.minus" (defArgs s_Field_minus) (defBody s_Field_minus) (defScope s_Field_minus) dvs [] (He.fAd K ("Field", some "minus")) fd) : FnOk P w K mg base (L2.CX P w) 2 (He.fAd K ("Field", some "minus")) fd ["self", "one", "other"] (sp_Field_minus K) :=
  FunD.ok (k := 1) F sc_Field_minus (fun vs H Q E h => h.1) fun cdv A outer s H vs Q E hr h => ⟨t_Field_minus K, PSs.nox (by
    have nd := sc_Field_minus.nd
    exact (pss_one (ps_ret (kc_meth (pv 0) S.k_Field S.e_Field_fit (ca_Field_fit S) (hr.mono (by decide)) px0 (pa_cons (pe_op op_sub (pv 1) (pv 2)) pa_nil))))), pu_Field_minus vs H Q E h.2⟩
theorem ca_Field_minus (S : Su K mg) : Cal P w K mg base (He.fAd K ("Field", some "minus")) ["self", "one", "other"] 2 [] (sp_Field_minus K) := by
  obtain ⟨fd, F⟩ := S.c.d.def_ 10 (d := d_Field_minus) rfl
  exact ⟨⟨fd, ok_Field_minus S F, [], .nil, FunD.bindsN F fun _ _ _ _ _ _ us hl => match us, hl with | [_, _, _], _ => rfl⟩, F.kp⟩
theorem sc_less_row : FnScope ["field", "row", "many", "other", ".0", "left", "right"] ["field", "row", "many", "other"] (defScope s_less_row) := ⟨rfl, rfl, rfl, by decide +kernel, rfl, by decide +kernel, by decide +kernel⟩
theorem ok_less_row (S : Su K mg) {fd : FuncData} {dvs : List V} (F : FunD K "less_row" "less_row" (defArgs s_less_row) (defBody s_less_row) (defScope s_less_row) dvs [] (He.fAd K ("less_row", none)) fd) : FnOk P w K mg base (L2.CX P w) 3 (He.fAd K ("less_row", none)) fd ["field", "row", "many", "other"] (sp_less_row K) :=
  FunD.ok (k := 2) F sc_less_row (fun vs H Q E h => h.1) fun cdv A outer s H vs Q E hr h => ⟨t_less_row K, PSs.nox (by
    have nd := sc_less_row.nd
    exact (pss_one (ps_ret (pe_lc (own := [(".0", 4), ("left", 5), ("right", 6)]) rfl nd (pi_zip rfl S.f_zip (pa_cons (pv 1) (pa_cons (pv 3) pa_nil))) (blkOk_by (by kernel_rfl)) (fun _ _ _ _ _ => (pg_tup rfl (pgs_cons (pg_name (i := 5) nd rfl (.inl rfl)) (pgs_cons (pg_name (i := 6) nd rfl (.inl rfl)) pgs_nil)))) (fun _ _ _ _ _ => pts_nil) (fun _ _ _ _ _ => (kc_meth (pv 0) S.k_Field S.e_Field_minus (ca_Field_minus S) (hr.mono (by decide)) px0 (pa_cons (pv 5) (pa_cons (kc_meth (pv 0) S.k_Field S.e_Field_times (ca_Field_times S) (hr.mono (by decide)) px0 (pa_cons (pv 2) (pa_cons (pv 6) pa_nil))) pa_nil)))))))), pu_less_row vs H Q E h.2⟩
theorem ca_less_row (S : Su K mg) : Cal P w K mg base (He.fAd K ("less_row", none)) ["field", "row", "many", "other"] 3 [] (sp_less_row K) := by
  obtain ⟨fd, F⟩ := S.c.d.def_ 11 (d := d_less_row) rfl
  exact ⟨⟨fd, ok_less_row S F, [], .nil, FunD.bindsN F fun _ _ _ _ _ _ us hl => match us, hl with | [_, _, _, _], _ => rfl⟩, F.kp⟩
theorem sc_Cleared_clear_others : FnScope ["self", "done", "place", "k", "many"] ["self", "done", "place"] (defScope s_Cleared_clear_others) := ⟨rfl, rfl, rfl, by decide +kernel, rfl, by decide +kernel, by decide +kernel⟩
theorem ok_Cleared_clear_others (S : Su K mg) {fd : FuncData} {dvs : List V} (F : FunD K "clear_others" "Cleared.clear_others" (defArgs s_Cleared_clear_others) (defBody s_Cleared_clear_others) (defScope s_Cleared_clear_others) dvs [] (He.fAd K ("Cleared", some "clear_others")) fd) : FnOk P w K mg base (L2.CX P w) 4 (He.fAd K ("Cleared", some "clear_others")) fd ["self", "done", "place"] (sp_Cleared_clear_others K) :=
  FunD.ok (k := 3) F sc_Cleared_clear_others (fun vs H Q E h => h.1) fun cdv A outer s H vs Q E hr h => ⟨t_Cleared_clear_others K, PSs.nox (by
    have nd := sc_Cleared_clear_others.nd
    exact (pss_one (ps_for PassesOwn.never rfl (pi_range1 rfl S.f_range (pa_cons (pe_callB call_len_seq rfl S.f_len (by decide +kernel) (pa_cons (kc_fld (pv 0) S.k_Cleared S.n_Cleared_lines rfl) pa_nil)) pa_nil)) (pg_name (i := 3) nd rfl (.inl rfl)) (pss_cons (ps_set (i := 4) nd rfl (.inl rfl) (pe_ix ix_list (pe_ix ix_list (kc_fld (pv 0) S.k_Cleared S.n_Cleared_lines rfl) (pv 3) (fun _ _ => rfl)) (pv 2) (fun _ _ => rfl))) (pss_one (ps_if (PW.pt (pw_and (pt_cmpR op_ne (pv 3) (pv 1) (nomark _)) (pw_and1 (pt_cmpR op_ne (pv 4) pe_int (nomark _))))) (pss_cons (ps_asg (kc_call (ca_less_row S) (hr.mono (by decide)) rfl S.g_less_row px0 (pa_cons (kc_fld (pv 0) S.k_Cleared S.n_Cleared_field rfl) (pa_cons (pe_ix ix_list (kc_fld (pv 0) S.k_Cleared S.n_Cleared_lines rfl) (pv 3) (fun _ _ => rfl)) (pa_cons (pv 4) (pa_cons (pe_ix ix_list (kc_fld (pv 0) S.k_Cleared S.n_Cleared_lines rfl) (pv 1) (fun _ _ => rfl)) pa_nil))))) (pg_sub (kc_fld (pv 0) S.k_Cleared S.n_Cleared_lines rfl) (pv 3) set_list)) (pss_one (ps_asg (kc_call (ca_less_row S) (hr.mono (by decide)) rfl S.g_less_row px0 (pa_cons (kc_fld (pv 0) S.k_Cleared S.n_Cleared_field rfl) (pa_cons (pe_ix ix_list (kc_fld (pv 0) S.k_Cleared S.n_Cleared_made_of rfl) (pv 3) (fun _ _ => rfl)) (pa_cons (pv 4) (pa_cons (pe_ix ix_list (kc_fld (pv 0) S.k_Cleared S.n_Cleared_made_of rfl) (pv 1) (fun _ _ => rfl)) pa_nil))))) (pg_sub (kc_fld (pv 0) S.k_Cleared S.n_Cleared_made_of rfl) (pv 3) set_list)))) pss_nil)))))), pu_Cleared_clear_others vs H Q E h.2⟩
theorem ca_Cleared_clear_others (S : Su K mg) : Cal P w K mg base (He.fAd K ("Cleared", some "clear_others")) ["self", "done", "place"] 4 [] (sp_Cleared_clear_others K) := by
  obtain ⟨fd, F⟩ := S.c.d.def_ 12 (d := d_Cleared_clear_others) rfl
  exact ⟨⟨fd, ok_Cleared_clear_others S F, [], .nil, FunD.bindsN F fun _ _ _ _ _ _ us hl => match us, hl with | [_, _, _], _ => rfl⟩, F.kp⟩
theorem sc_Cleared_clear_at : FnScope ["self", "place", "done", "k", "rows", "back", ".0", "number"] ["self", "place"] (defScope s_Cleared_clear_at) := ⟨rfl, rfl, rfl, by decide +kernel, rfl, by decide +kernel, by decide +kernel⟩
theorem ok_Cleared_clear_at (S : Su K mg) {fd : FuncData} {dvs : List V} (F : FunD K "clear_at" "Cleared.clear_at" (defArgs s_Cleared_clear_at) (defBody s_Cleared_clear_at) (defScope s_Cleared_clear_at) dvs [] (He.fAd K ("Cleared", some "clear_at")) fd) : FnOk P w K mg base (L2.CX P w) 5 (He.fAd K ("Cleared", some "clear_at")) fd ["self", "place"] (sp_Cleared_clear_at K) :=
  FunD.ok (k := 4) F sc_Cleared_clear_at (fun vs H Q E h => h.1) fun cdv A outer s H vs Q E hr h => ⟨t_Cleared_clear_at K, PSs.nox (by
    have nd := sc_Cleared_clear_at.nd
    exact (pss_cons (ps_set (i := 2) nd rfl (.inl rfl) (pe_callB call_len_seq rfl S.f_len (by decide +kernel) (pa_cons (kc_fld (pv 0) S.k_Cleared S.n_Cleared_places rfl) pa_nil))) (pss_cons (ps_set (i := 3) nd rfl (.inl rfl) (kc_call (ca_first_with S) (hr.mono (by decide)) rfl S.g_first_with px0 (pa_cons (kc_fld (pv 0) S.k_Cleared S.n_Cleared_lines rfl) (pa_cons (pv 2) (pa_cons (pv 1) pa_nil))))) (pss_cons (ps_if (pt_cmpR op_isN1 (pv 3) pe_non (nomark _)) (pss_one ps_retN) pss_nil) (pss_cons (ps_for PassesOwn.never rfl (pi_tup (pe_tup (pa_cons (kc_fld (pv 0) S.k_Cleared S.n_Cleared_lines rfl) (pa_cons (kc_fld (pv 0) S.k_Cleared S.n_Cleared_made_of rfl) pa_nil)))) (pg_name (i := 4) nd rfl (.inl rfl)) (pss_one (ps_asg (pe_tup (pa_cons (pe_ix ix_list (pv 4) (pv 3) (fun _ _ => rfl)) (pa_cons (pe_ix ix_list (pv 4) (pv 2) (fun _ _ => rfl)) pa_nil))) (pg_tup rfl (pgs_cons (pg_sub (pv 4) (pv 2) set_list) (pgs_cons (pg_sub (pv 4) (pv 3) set_list) pgs_nil)))))) (pss_cons (ps_set (i := 5) nd rfl (.inr rfl) (kc_meth (kc_fld (pv 0) S.k_Cleared S.n_Cleared_field rfl) S.k_Field S.e_Field_back (ca_Field_back S) (hr.mono (by decide)) px0 (pa_cons (pe_ix ix_list (pe_ix ix_list (kc_fld (pv 0) S.k_Cleared S.n_Cleared_lines rfl) (pv 2) (fun _ _ => rfl)) (pv 1) (fun _ _ => rfl)) pa_nil))) (pss_cons (ps_for PassesOwn.never rfl (pi_tup (pe_tup (pa_cons (kc_fld (pv 0) S.k_Cleared S.n_Cleared_lines rfl) (pa_cons (kc_fld (pv 0) S.k_Cleared S.n_Cleared_made_of rfl) pa_nil)))) (pg_name (i := 4) nd rfl (.inl rfl)) (pss_one (ps_asg (pe_lc (own := [(".0", 6), ("number", 7)]) rfl nd (pi_list (pe_ix ix_list (pv 4) (pv 2) (fun _ _ => rfl))) (blkOk_by (by kernel_rfl)) (fun _ _ _ _ _ => (pg_name (i := 7) nd rfl (.inl rfl))) (fun _ _ _ _ _ => pts_nil) (fun _ _ _ _ _ => (kc_meth (kc_fld (pv 0) S.k_Cleared S.n_Cleared_field rfl) S.k_Field S.e_Field_times (ca_Field_times S) (hr.mono (by decide)) px0 (pa_cons (pv 5) (pa_cons (pv 7) pa_nil))))) (pg_sub (pv 4) (pv 2) set_list)))) (pss_cons (ps_expr (kc_meth (pv 0) S.k_Cleared S.e_Cleared_clear_others (ca_Cleared_clear_others S) (hr.mono (by decide)) px0 (pa_cons (pv 2) (pa_cons (pv 1) pa_nil)))) (pss_one (ps_expr (pe_bm PySem.F.plainAttrs_list PySem.F.slot_list_append PySem.F.type_list_append mt_append (kc_fld (pv 0) S.k_Cleared S.n_Cleared_places rfl) (pa_cons (pv 1) pa_nil)))))))))))), pu_Cleared_clear_at vs H Q E h.2⟩
theorem ca_Cleared_clear_at (S : Su K mg) : Cal P w K mg base (He.fAd K ("Cleared", some "clear_at")) ["self", "place"] 5 [] (sp_Cleared_clear_at K) := by
  obtain ⟨fd, F⟩ := S.c.d.def_ 13 (d := d_Cleared_clear_at) rfl
  exact ⟨⟨fd, ok_Cleared_clear_at S F, [], .nil, FunD.bindsN F fun _ _ _ _ _ _ us hl => match us, hl with | [_, _], _ => rfl⟩, F.kp⟩
theorem sc_Cleared___init__ : FnScope ["self", "field", "table", "width", "place", ".0", "row"] ["self", "field", "table", "width"] (defScope s_Cleared___init__) := ⟨rfl, rfl, rfl, by decide +kernel, rfl, by decide +kernel, by decide +kernel⟩
theorem ok_Cleared___init__ (S : Su K mg) {fd : FuncData} {dvs : List V} (F : FunD K "__init__" "Cleared.__init__" (defArgs s_Cleared___init__) (defBody s_Cleared___init__) (defScope s_Cleared___init__) dvs [] (He.fAd K ("Cleared", some "__init__")) fd) : FnOk P w K mg base (L2.CX P w) 6 (He.fAd K ("Cleared", some "__init__")) fd ["self", "field", "table", "width"] (sp_Cleared___init__ K) :=
  FunD.ok (k := 5) F sc_Cleared___init__ (fun vs H Q E h => h.1) fun cdv A outer s H vs Q E hr h => ⟨t_Cleared___init__ K, PSs.nox (by
    have nd := sc_Cleared___init__.nd
    exact (pss_cons (kc_sfld (pv 0) (pv 1) S.k_Cleared S.n_Cleared_field rfl) (pss_cons (kc_sfld (pv 0) (pe_lc (own := [(".0", 5), ("row", 6)]) rfl nd (pi_list (pv 2)) (blkOk_by (by kernel_rfl)) (fun _ _ _ _ _ => (pg_name (i := 6) nd rfl (.inl rfl))) (fun _ _ _ _ _ => pts_nil) (fun _ _ _ _ _ => (pe_callTy call_list_of rfl S.f_list (by decide +kernel) (pa_cons (pv 6) pa_nil)))) S.k_Cleared S.n_Cleared_lines rfl) (pss_cons (kc_sfld (pv 0) (kc_call (ca_ones S) (hr.mono (by decide)) rfl S.g_ones px0 (pa_cons (pe_callB call_len_seq rfl S.f_len (by decide +kernel) (pa_cons (pv 2) pa_nil)) pa_nil)) S.k_Cleared S.n_Cleared_made_of rfl) (pss_cons (kc_sfld (pv 0) (pe_lst pa_nil) S.k_Cleared S.n_Cleared_places rfl) (pss_one (ps_for PassesOwn.never rfl (pi_range1 rfl S.f_range (pa_cons (pv 3) pa_nil)) (pg_name (i := 4) nd rfl (.inl rfl)) (pss_one (ps_expr (kc_meth (pv 0) S.k_Cleared S.e_Cleared_clear_at (ca_Cleared_clear_at S) (hr.mono (by decide)) px0 (pa_cons (pv 4) pa_nil))))))))))), pu_Cleared___init__ vs H Q E h.2⟩
theorem ca_Cleared___init__ (S : Su K mg) : Cal P w K mg base (He.fAd K ("Cleared", some "__init__")) ["self", "field", "table", "width"] 6 [] (sp_Cleared___init__ K) := by
  obtain ⟨fd, F⟩ := S.c.d.def_ 14 (d := d_Cleared___init__) rfl
  exact ⟨⟨fd, ok_Cleared___init__ S F, [], .nil, FunD.bindsN F fun _ _ _ _ _ _ us hl => match us, hl with | [_, _, _, _], _ => rfl⟩, F.kp⟩
theorem sc_reader : FnScope ["field", "table", "many", "cleared"] ["field", "table", "many"] (defScope s_reader) := ⟨rfl, rfl, rfl, by decide +kernel, rfl, by decide +kernel, by decide +kernel⟩
theorem ok_reader (S : Su K mg) {fd : FuncData} {dvs : List V} (F : FunD K "reader" "reader" (defArgs s_reader) (defBody s_reader) (defScope s_reader) dvs [] (He.fAd K ("reader", none)) fd) : FnOk P w K mg base (L2.CX P w) 8 (He.fAd K ("reader", none)) fd ["field", "table", "many"] (sp_reader K) :=
  FunD.ok (k := 7) F sc_reader (fun vs H Q E h => h.1) fun cdv A outer s H vs Q E hr h => ⟨t_reader K, PSs.nox (by
    have nd := sc_reader.nd
    exact (pss_cons (ps_set (i := 3) nd rfl (.inl rfl) (kc_make S.m_Cleared (ca_Cleared___init__ S) (hr.mono (by decide)) rfl S.g_Cleared px0 (pa_cons (pv 0) (pa_cons (pv 1) (pa_cons (pv 2) pa_nil))))) (pss_cons (ps_if (pt_cmpR op_lt (pe_callB call_len_seq rfl S.f_len (by decide +kernel) (pa_cons (kc_fld (pv 3) S.k_Cleared S.n_Cleared_places rfl) pa_nil)) (pv 2) (nomark _)) (pss_one (ps_ret pe_non)) pss_nil) (pss_one (ps_ret (pe_slice sl_list (kc_fld (pv 3) S.k_Cleared S.n_Cleared_made_of rfl) po_none (po_some (pv 2)))))))), pu_reader vs H Q E h.2⟩
theorem ca_reader (S : Su K mg) : Cal P w K mg base (He.fAd K ("reader", none)) ["field", "table", "many"] 8 [] (sp_reader K) := by
  obtain ⟨fd, F⟩ := S.c.d.def_ 15 (d := d_reader) rfl
  exact ⟨⟨fd, ok_reader S F, [], .nil, FunD.bindsN F fun _ _ _ _ _ _ us hl => match us, hl with | [_, _, _], _ => rfl⟩, F.kp⟩
theorem sc_nought : FnScope ["field", "table", "many", "cleared", "place", "free", "row", "k", ".0"] ["field", "table", "many"] (defScope s_nought) := ⟨rfl, rfl, rfl, by decide +kernel, rfl, by decide +kernel, by decide +kernel⟩
theorem ok_nought (S : Su K mg) {fd : FuncData} {dvs : List V} (F : FunD K "nought" "nought" (defArgs s_nought) (defBody s_nought) (defScope s_nought) dvs [] (He.fAd K ("nought", none)) fd) : FnOk P w K mg base (L2.CX P w) 8 (He.fAd K ("nought", none)) fd ["field", "table", "many"] (sp_nought K) :=
  FunD.ok (k := 7) F sc_nought (fun vs H Q E h => h.1) fun cdv A outer s H vs Q E hr h => ⟨t_nought K, PSs.nox (by
    have nd := sc_nought.nd
    exact (pss_cons (ps_set (i := 3) nd rfl (.inr rfl) (kc_make S.m_Cleared (ca_Cleared___init__ S) (hr.mono (by decide)) rfl S.g_Cleared px0 (pa_cons (pv 0) (pa_cons (pv 1) (pa_cons (pv 2) pa_nil))))) (pss_cons (ps_setLc (own := [(".0", 8), ("place", 4)]) (i := 5) rfl nd rfl rfl (sw_true rfl rfl rfl (by decide +kernel)) (pi_range1 rfl S.f_range (pa_cons (pv 2) pa_nil)) (blkOk_by (by kernel_rfl)) (fun _ _ _ _ _ => (pg_name (i := 4) nd rfl (.inl rfl))) (fun _ _ _ _ _ => (pts_one (pt_cmpR op_notIn_seq (pv 4) (kc_fld (pv 3) S.k_Cleared S.n_Cleared_places rfl) (by rfl)))) (fun _ _ _ _ _ => (pv 4))) (pss_cons (ps_if (pt_cmpR (op_eqD hr.units) (pv 5) (pe_lst pa_nil) (nomark _)) (pss_one (ps_ret pe_non)) pss_nil) (pss_cons (ps_setLc (own := [(".0", 8), ("place", 4)]) (i := 6) rfl nd rfl rfl (sw_true rfl rfl rfl (by decide +kernel)) (pi_range1 rfl S.f_range (pa_cons (pv 2) pa_nil)) (blkOk_by (by kernel_rfl)) (fun _ _ _ _ _ => (pg_name (i := 4) nd rfl (.inl rfl))) (fun _ _ _ _ _ => pts_nil) (fun _ _ _ _ _ => pe_int)) (pss_cons (ps_asg pe_int (pg_sub (pv 6) (pe_ix ix_list (pv 5) pe_int (fun _ _ => rfl)) set_list)) (pss_cons (ps_for PassesOwn.never rfl (pi_enum rfl S.f_enumerate (pa_cons (kc_fld (pv 3) S.k_Cleared S.n_Cleared_places rfl) pa_nil)) (pg_tup rfl (pgs_cons (pg_name (i := 7) nd rfl (.inl rfl)) (pgs_cons (pg_name (i := 4) nd rfl (.inl rfl)) pgs_nil))) (pss_one (ps_asg (kc_meth (pv 0) S.k_Field S.e_Field_minus (ca_Field_minus S) (hr.mono (by decide)) px0 (pa_cons pe_int (pa_cons (pe_ix ix_list (pe_ix ix_list (kc_fld (pv 3) S.k_Cleared S.n_Cleared_lines rfl) (pv 7) (fun _ _ => rfl)) (pe_ix ix_list (pv 5) pe_int (fun _ _ => rfl)) (fun _ _ => rfl)) pa_nil))) (pg_sub (pv 6) (pv 4) set_list)))) (pss_one (ps_ret (pv 6)))))))))), pu_nought vs H Q E h.2⟩
theorem ca_nought (S : Su K mg) : Cal P w K mg base (He.fAd K ("nought", none)) ["field", "table", "many"] 8 [] (sp_nought K) := by
  obtain ⟨fd, F⟩ := S.c.d.def_ 16 (d := d_nought) rfl
  exact ⟨⟨fd, ok_nought S F, [], .nil, FunD.bindsN F fun _ _ _ _ _ _ us hl => match us, hl with | [_, _, _], _ => rfl⟩, F.kp⟩
theorem sc_rank : FnScope ["field", "table"] ["field", "table"] (defScope s_rank) := ⟨rfl, rfl, rfl, by decide +kernel, rfl, by decide +kernel, by decide +kernel⟩
theorem ok_rank (S : Su K mg) {fd : FuncData} {dvs : List V} (F : FunD K "rank" "rank" (defArgs s_rank) (defBody s_rank) (defScope s_rank) dvs [] (He.fAd K ("rank", none)) fd) : FnOk P w K mg base (L2.CX P w) 8 (He.fAd K ("rank", none)) fd ["field", "table"] (sp_rank K) :=
  FunD.ok (k := 7) F sc_rank (fun vs H Q E h => h.1) fun cdv A outer s H vs Q E hr h => ⟨t_rank K, PSs.nox (by
    have nd := sc_rank.nd
    exact (pss_cons (ps_if (pt_cmpR (op_eqD hr.units) (pv 1) (pe_lst pa_nil) (nomark _)) (pss_one (ps_ret pe_int)) pss_nil) (pss_one (ps_ret (pe_callB call_len_seq rfl S.f_len (by decide +kernel) (pa_cons (kc_fld (kc_make S.m_Cleared (ca_Cleared___init__ S) (hr.mono (by decide)) rfl S.g_Cleared px0 (pa_cons (pv 0) (pa_cons (pv 1) (pa_cons (pe_callB call_len_seq rfl S.f_len (by decide +kernel) (pa_cons (pe_ix ix_list (pv 1) pe_int (fun _ _ => rfl)) pa_nil)) pa_nil)))) S.k_Cleared S.n_Cleared_places rfl) pa_nil)))))), pu_rank vs H Q E h.2⟩
theorem ca_rank (S : Su K mg) : Cal P w K mg base (He.fAd K ("rank", none)) ["field", "table"] 8 [] (sp_rank K) := by
  obtain ⟨fd, F⟩ := S.c.d.def_ 17 (d := d_rank) rfl
  exact ⟨⟨fd, ok_rank S F, [], .nil, FunD.bindsN F fun _ _ _ _ _ _ us hl => match us, hl with | [_, _], _ => rfl⟩, F.kp⟩
theorem sc_law_rows : FnScope ["found", "high", "wide", "prime", "row", "number"] ["found", "high", "wide", "prime"] (defScope s_law_rows) := ⟨rfl, rfl, rfl, by decide +kernel, rfl, by decide +kernel, by decide +kernel⟩
theorem ok_law_rows (S : Su K mg) {fd : FuncData} {dvs : List V} (F : FunD K "_law_rows" "_law_rows" (defArgs s_law_rows) (defBody s_law_rows) (defScope s_law_rows) dvs [] (He.fAd K ("_law_rows", none)) fd) : FnOk P w K mg base (L2.CX P w) 1 (He.fAd K ("_law_rows", none)) fd ["found", "high", "wide", "prime"] (sp_law_rows K) :=
  FunD.ok (k := 0) F sc_law_rows (fun vs H Q E h => h.1) fun cdv A outer s H vs Q E hr h => ⟨t_law_rows K, PSs.nox (by
    have nd := sc_law_rows.nd
    exact (pss_cons (ps_if (PW.pt (pw_or (pt_not (pt_val (pe_callB kc_isT rfl S.f_isinstance (by decide +kernel) (pa_cons (pv 0) (pa_cons (pe_bltn rfl S.f_list (by decide +kernel) rfl) pa_nil))) (by intro _; rfl))) (pw_or1 (pt_cmpR op_ne (pe_callB call_len_seq rfl S.f_len (by decide +kernel) (pa_cons (pv 0) pa_nil)) (pv 1) (nomark _))))) (pss_one (ps_ret pe_bl)) pss_nil) (pss_cons (ps_for PassesOwn.never rfl (pi_list (pv 0)) (pg_name (i := 4) nd rfl (.inl rfl)) (pss_cons (ps_if (PW.pt (pw_or (pt_not (pt_val (pe_callB kc_isT rfl S.f_isinstance (by decide +kernel) (pa_cons (pv 4) (pa_cons (pe_bltn rfl S.f_list (by decide +kernel) rfl) pa_nil))) (by intro _; rfl))) (pw_or1 (pt_cmpR op_ne (pe_callB call_len_seq rfl S.f_len (by decide +kernel) (pa_cons (pv 4) pa_nil)) (pv 2) (nomark _))))) (pss_one (ps_ret pe_bl)) pss_nil) (pss_one (ps_for PassesOwn.never rfl (pi_list (pv 4)) (pg_name (i := 5) nd rfl (.inl rfl)) (pss_cons (ps_if (pt_not (pt_val (pe_callB kc_isT rfl S.f_isinstance (by decide +kernel) (pa_cons (pv 5) (pa_cons (pe_bltn rfl S.f_int (by decide +kernel) rfl) pa_nil))) (by intro _; rfl))) (pss_one (ps_ret pe_bl)) pss_nil) (pss_cons (ps_if (pt_val (pe_callB kc_isT rfl S.f_isinstance (by decide +kernel) (pa_cons (pv 5) (pa_cons (pe_bltn rfl S.f_bool (by decide +kernel) rfl) pa_nil))) (by intro _; rfl)) (pss_one (ps_ret pe_bl)) pss_nil) (pss_one (ps_if (pt_not (pt_chain op_le op_lt pe_int (pv 5) (pv 3))) (pss_one (ps_ret pe_bl)) pss_nil)))))))) (pss_one (ps_ret pe_bl))))), pu_law_rows vs H Q E h.2⟩
theorem ca_law_rows (S : Su K mg) : Cal P w K mg base (He.fAd K ("_law_rows", none)) ["found", "high", "wide", "prime"] 1 [] (sp_law_rows K) := by
  obtain ⟨fd, F⟩ := S.c.d.def_ 18 (d := d_law_rows) rfl
  exact ⟨⟨fd, ok_law_rows S F, [], .nil, FunD.bindsN F fun _ _ _ _ _ _ us hl => match us, hl with | [_, _, _, _], _ => rfl⟩, F.kp⟩
theorem sc_law_sum : FnScope ["prime", "one", "other", ".0", "left", "right"] ["prime", "one", "other"] (defScope s_law_sum) := ⟨rfl, rfl, rfl, by decide +kernel, rfl, by decide +kernel, by decide +kernel⟩
theorem ok_law_sum (S : Su K mg) {fd : FuncData} {dvs : List V} (F : FunD K "_law_sum" "_law_sum" (defArgs s_law_sum) (defBody s_law_sum) (defScope s_law_sum) dvs [] (He.fAd K ("_law_sum", none)) fd) : FnOk P w K mg base (L2.CX P w) 1 (He.fAd K ("_law_sum", none)) fd ["prime", "one", "other"] (sp_law_sum K) :=
  FunD.ok (k := 0) F sc_law_sum (fun vs H Q E h => h.1) fun cdv A outer s H vs Q E hr h => ⟨t_law_sum K, PSs.nox (by
    have nd := sc_law_sum.nd
    exact (pss_one (ps_ret (pe_op op_mod (pe_callB (cr_sum rfl) rfl S.f_sum (by decide +kernel) (pa_cons (pe_lc (own := [(".0", 3), ("left", 4), ("right", 5)]) rfl nd (pi_zip rfl S.f_zip (pa_cons (pv 1) (pa_cons (pv 2) pa_nil))) (blkOk_by (by kernel_rfl)) (fun _ _ _ _ _ => (pg_tup rfl (pgs_cons (pg_name (i := 4) nd rfl (.inl rfl)) (pgs_cons (pg_name (i := 5) nd rfl (.inl rfl)) pgs_nil)))) (fun _ _ _ _ _ => pts_nil) (fun _ _ _ _ _ => (pe_op op_mul (pv 4) (pv 5)))) pa_nil)) (pv 0))))), pu_law_sum vs H Q E h.2⟩
theorem ca_law_sum (S : Su K mg) : Cal P w K mg base (He.fAd K ("_law_sum", none)) ["prime", "one", "other"] 1 [] (sp_law_sum K) := by
  obtain ⟨fd, F⟩ := S.c.d.def_ 19 (d := d_law_sum) rfl
  exact ⟨⟨fd, ok_law_sum S F, [], .nil, FunD.bindsN F fun _ _ _ _ _ _ us hl => match us, hl with | [_, _, _], _ => rfl⟩, F.kp⟩
theorem sc_law_sent : FnScope ["row", "table", "wide", "prime", ".0", "number", "line"] ["row", "table", "wide", "prime"] (defScope s_law_sent) := ⟨rfl, rfl, rfl, by decide +kernel, rfl, by decide +kernel, by decide +kernel⟩
theorem ok_law_sent (S : Su K mg) {fd : FuncData} {dvs : List V} (F : FunD K "_law_sent" "_law_sent" (defArgs s_law_sent) (defBody s_law_sent) (defScope s_law_sent) dvs [] (He.fAd K ("_law_sent", none)) fd) : FnOk P w K mg base (L2.CX P w) 2 (He.fAd K ("_law_sent", none)) fd ["row", "table", "wide", "prime"] (sp_law_sent K) :=
  FunD.ok (k := 1) F sc_law_sent (fun vs H Q E h => h.1) fun cdv A outer s H vs Q E hr h => ⟨t_law_sent K, PSs.nox (by
    have nd := sc_law_sent.nd
    exact (pss_cons (ps_if (pt_not (pt_val (kc_call (ca_law_rows S) (hr.mono (by decide)) rfl S.g_law_rows px0 (pa_cons (pe_lst (pa_cons (pv 0) pa_nil)) (pa_cons pe_int (pa_cons (pv 2) (pa_cons (pv 3) pa_nil))))) (by intro _; rfl))) (pss_one (ps_ret pe_bl)) pss_nil) (pss_cons (ps_if (pt_cmpR (op_eqD hr.units) (pe_lc (own := [(".0", 4), ("number", 5)]) rfl nd (pi_list (pv 0)) (blkOk_by (by kernel_rfl)) (fun _ _ _ _ _ => (pg_name (i := 5) nd rfl (.inl rfl))) (fun _ _ _ _ _ => (pts_one (pt_cmpR op_ne (pv 5) pe_int (nomark _)))) (fun _ _ _ _ _ => (pv 5))) (pe_lst pa_nil) (nomark _)) (pss_one (ps_ret pe_bl)) pss_nil) (pss_one (ps_ret (pe_cmpR (op_eqD hr.units) (pe_lc (own := [(".0", 4), ("line", 6)]) rfl nd (pi_list (pv 1)) (blkOk_by (by kernel_rfl)) (fun _ _ _ _ _ => (pg_name (i := 6) nd rfl (.inl rfl))) (fun _ _ _ _ _ => (pts_one (pt_cmpR op_ne (kc_call (ca_law_sum S) (hr.mono (by decide)) rfl S.g_law_sum px0 (pa_cons (pv 3) (pa_cons (pv 6) (pa_cons (pv 0) pa_nil)))) pe_int (nomark _)))) (fun _ _ _ _ _ => (pv 6))) (pe_lst pa_nil) (nomark _))))))), pu_law_sent vs H Q E h.2⟩
theorem ca_law_sent (S : Su K mg) : Cal P w K mg base (He.fAd K ("_law_sent", none)) ["row", "table", "wide", "prime"] 2 [] (sp_law_sent K) := by
  obtain ⟨fd, F⟩ := S.c.d.def_ 20 (d := d_law_sent) rfl
  exact ⟨⟨fd, ok_law_sent S F, [], .nil, FunD.bindsN F fun _ _ _ _ _ _ us hl => match us, hl with | [_, _, _, _], _ => rfl⟩, F.kp⟩
theorem sc_law_reads : FnScope ["found", "table", "wide", "prime", "k", "j", ".0", "row"] ["found", "table", "wide", "prime"] (defScope s_law_reads) := ⟨rfl, rfl, rfl, by decide +kernel, rfl, by decide +kernel, by decide +kernel⟩
theorem ok_law_reads (S : Su K mg) {fd : FuncData} {dvs : List V} (F : FunD K "_law_reads" "_law_reads" (defArgs s_law_reads) (defBody s_law_reads) (defScope s_law_reads) dvs [] (He.fAd K ("_law_reads", none)) fd) : FnOk P w K mg base (L2.CX P w) 2 (He.fAd K ("_law_reads", none)) fd ["found", "table", "wide", "prime"] (sp_law_reads K) :=
  FunD.ok (k := 1) F sc_law_reads (fun vs H Q E h => h.1) fun cdv A outer s H vs Q E hr h => ⟨t_law_reads K, PSs.nox (by
    have nd := sc_law_reads.nd
    exact (pss_cons (ps_if (pt_not (pt_val (kc_call (ca_law_rows S) (hr.mono (by decide)) rfl S.g_law_rows px0 (pa_cons (pv 0) (pa_cons (pv 2) (pa_cons (pe_callB call_len_seq rfl S.f_len (by decide +kernel) (pa_cons (pv 1) pa_nil)) (pa_cons (pv 3) pa_nil))))) (by intro _; rfl))) (pss_one (ps_ret pe_bl)) pss_nil) (pss_cons (ps_for PassesOwn.never rfl (pi_range1 rfl S.f_range (pa_cons (pv 2) pa_nil)) (pg_name (i := 4) nd rfl (.inl rfl)) (pss_one (ps_for PassesOwn.never rfl (pi_range1 rfl S.f_range (pa_cons (pv 2) pa_nil)) (pg_name (i := 5) nd rfl (.inr rfl)) (pss_one (ps_if (pt_cmpR op_ne (kc_call (ca_law_sum S) (hr.mono (by decide)) rfl S.g_law_sum px0 (pa_cons (pv 3) (pa_cons (pe_ix ix_list (pv 0) (pv 4) (fun _ _ => rfl)) (pa_cons (pe_lc (own := [(".0", 6), ("row", 7)]) rfl nd (pi_list (pv 1)) (blkOk_by (by kernel_rfl)) (fun _ _ _ _ _ => (pg_name (i := 7) nd rfl (.inl rfl))) (fun _ _ _ _ _ => pts_nil) (fun _ _ _ _ _ => (pe_ix ix_list (pv 7) (pv 5) (fun _ _ => rfl)))) pa_nil)))) (pe_op op_mod (pe_callTy call_int1 rfl S.f_int (by decide +kernel) (pa_cons (pe_cmpR op_eq (pv 4) (pv 5) (nomark _)) pa_nil)) (pv 3)) (nomark _)) (pss_one (ps_ret pe_bl)) pss_nil))))) (pss_one (ps_ret pe_bl))))), pu_law_reads vs H Q E h.2⟩
theorem ca_law_reads (S : Su K mg) : Cal P w K mg base (He.fAd K ("_law_reads", none)) ["found", "table", "wide", "prime"] 2 [] (sp_law_reads K) := by
  obtain ⟨fd, F⟩ := S.c.d.def_ 21 (d := d_law_reads) rfl
  exact ⟨⟨fd, ok_law_reads S F, [], .nil, FunD.bindsN F fun _ _ _ _ _ _ us hl => match us, hl with | [_, _, _, _], _ => rfl⟩, F.kp⟩
theorem sc_law_one_right : FnScope ["field", "table", "wide", "prime", "one", "other", "good", "row"] ["field", "table", "wide", "prime"] (defScope s_law_one_right) := ⟨rfl, rfl, rfl, by decide +kernel, rfl, by decide +kernel, by decide +kernel⟩
theorem ok_law_one_right (S : Su K mg) {fd : FuncData} {dvs : List V} (F : FunD K "_law_one_right" "_law_one_right" (defArgs s_law_one_right) (defBody s_law_one_right) (defScope s_law_one_right) dvs [] (He.fAd K ("_law_one_right", none)) fd) : FnOk P w K mg base (L2.CX P w) 9 (He.fAd K ("_law_one_right", none)) fd ["field", "table", "wide", "prime"] (sp_law_one_right K) :=
  FunD.ok (k := 8) F sc_law_one_right (fun vs H Q E h => h.1) fun cdv A outer s H vs Q E hr h => ⟨t_law_one_right K, PSs.nox (by
    have nd := sc_law_one_right.nd
    exact (pss_cons (ps_set (i := 4) nd rfl (.inl rfl) (kc_call (ca_reader S) (hr.mono (by decide)) rfl S.g_reader px0 (pa_cons (pv 0) (pa_cons (pv 1) (pa_cons (pv 2) pa_nil))))) (pss_cons (ps_set (i := 5) nd rfl (.inl rfl) (kc_call (ca_nought S) (hr.mono (by decide)) rfl S.g_nought px0 (pa_cons (pv 0) (pa_cons (pv 1) (pa_cons (pv 2) pa_nil))))) (pss_cons (ps_if (pt_cmpR op_eq (pe_cmpR op_isN1 (pv 4) pe_non (nomark _)) (pe_cmpR op_isN1 (pv 5) pe_non (nomark _)) (nomark _)) (pss_one (ps_ret pe_bl)) pss_nil) (pss_cons (ps_if (pt_cmpR op_ne (pe_cmpR op_eq (kc_call (ca_rank S) (hr.mono (by decide)) rfl S.g_rank px0 (pa_cons (pv 0) (pa_cons (pv 1) pa_nil))) (pv 2) (nomark _)) (pe_cmpR op_notN1 (pv 4) pe_non (nomark _)) (nomark _)) (pss_one (ps_ret pe_bl)) pss_nil) (pss_cons (ps_if (pt_cmpR op_isN1 (pv 4) pe_non (nomark _)) (pss_cons (ps_set (i := 6) nd rfl (.inl rfl) (kc_call (ca_law_sent S) (hr.mono (by decide)) rfl S.g_law_sent px0 (pa_cons (pv 5) (pa_cons (pv 1) (pa_cons (pv 2) (pa_cons (pv 3) pa_nil)))))) (pss_cons (ps_expr (pe_bm0 PySem.F.plainAttrs_list PySem.F.slot_list_clear PySem.F.type_list_clear mt_clear (pv 5))) (pss_one (ps_ret (pv 6))))) pss_nil) (pss_cons (ps_set (i := 6) nd rfl (.inl rfl) (kc_call (ca_law_reads S) (hr.mono (by decide)) rfl S.g_law_reads px0 (pa_cons (pv 4) (pa_cons (pv 1) (pa_cons (pv 2) (pa_cons (pv 3) pa_nil)))))) (pss_cons (ps_for PassesOwn.never rfl (pi_list (pv 4)) (pg_name (i := 7) nd rfl (.inl rfl)) (pss_one (ps_expr (pe_bm PySem.F.plainAttrs_list PySem.F.slot_list_append PySem.F.type_list_append mt_append (pv 7) (pa_cons pe_int pa_nil))))) (pss_cons (ps_expr (pe_bm0 PySem.F.plainAttrs_list PySem.F.slot_list_clear PySem.F.type_list_clear mt_clear (pv 4))) (pss_one (ps_ret (pv 6)))))))))))), pu_law_one_right vs H Q E h.2⟩
theorem ca_law_one_right (S : Su K mg) : Cal P w K mg base (He.fAd K ("_law_one_right", none)) ["field", "table", "wide", "prime"] 9 [] (sp_law_one_right K) := by
  obtain ⟨fd, F⟩ := S.c.d.def_ 22 (d := d_law_one_right) rfl
  exact ⟨⟨fd, ok_law_one_right S F, [], .nil, FunD.bindsN F fun _ _ _ _ _ _ us hl => match us, hl with | [_, _, _, _], _ => rfl⟩, F.kp⟩
theorem sc_Field_plus : FnScope ["self", "one", "other"] ["self", "one", "other"] (defScope s_Field_plus) := ⟨rfl, rfl, rfl, by decide +kernel, rfl, by decide +kernel, by decide +kernel⟩
theorem ok_Field_plus (S : Su K mg) {fd : FuncData} {dvs : List V} (F : FunD K "plus" "Field.plus" (defArgs s_Field_plus) (defBody s_Field_plus) (defScope s_Field_plus) dvs [] (He.fAd K ("Field", some "plus")) fd) : FnOk P w K mg base (L2.CX P w) 2 (He.fAd K ("Field", some "plus")) fd ["self", "one", "other"] (sp_Field_plus K) :=
  FunD.ok (k := 1) F sc_Field_plus (fun vs H Q E h => h.1) fun cdv A outer s H vs Q E hr h => ⟨t_Field_plus K, PSs.nox (by
    have nd := sc_Field_plus.nd
    exact (pss_one (ps_ret (kc_meth (pv 0) S.k_Field S.e_Field_fit (ca_Field_fit S) (hr.mono (by decide)) px0 (pa_cons (pe_op op_add (pv 1) (pv 2)) pa_nil))))), pu_Field_plus vs H Q E h.2⟩
theorem ca_Field_plus (S : Su K mg) : Cal P w K mg base (He.fAd K ("Field", some "plus")) ["self", "one", "other"] 2 [] (sp_Field_plus K) := by
  obtain ⟨fd, F⟩ := S.c.d.def_ 23 (d := d_Field_plus) rfl
  exact ⟨⟨fd, ok_Field_plus S F, [], .nil, FunD.bindsN F fun _ _ _ _ _ _ us hl => match us, hl with | [_, _, _], _ => rfl⟩, F.kp⟩
theorem sc_sum_over : FnScope ["field", "one", "other", "whole", "left", "right"] ["field", "one", "other"] (defScope s_sum_over) := ⟨rfl, rfl, rfl, by decide +kernel, rfl, by decide +kernel, by decide +kernel⟩
theorem ok_sum_over (S : Su K mg) {fd : FuncData} {dvs : List V} (F : FunD K "sum_over" "sum_over" (defArgs s_sum_over) (defBody s_sum_over) (defScope s_sum_over) dvs [] (He.fAd K ("sum_over", none)) fd) : FnOk P w K mg base (L2.CX P w) 3 (He.fAd K ("sum_over", none)) fd ["field", "one", "other"] (sp_sum_over K) :=
  FunD.ok (k := 2) F sc_sum_over (fun vs H Q E h => h.1) fun cdv A outer s H vs Q E hr h => ⟨t_sum_over K, PSs.nox (by
    have nd := sc_sum_over.nd
    exact (pss_cons (ps_set (i := 3) nd rfl (.inl rfl) pe_int) (pss_cons (ps_for PassesOwn.never rfl (pi_zip rfl S.f_zip (pa_cons (pv 1) (pa_cons (pv 2) pa_nil))) (pg_tup rfl (pgs_cons (pg_name (i := 4) nd rfl (.inl rfl)) (pgs_cons (pg_name (i := 5) nd rfl (.inl rfl)) pgs_nil))) (pss_one (ps_set (i := 3) nd rfl (.inl rfl) (kc_meth (pv 0) S.k_Field S.e_Field_plus (ca_Field_plus S) (hr.mono (by decide)) px0 (pa_cons (pv 3) (pa_cons (kc_meth (pv 0) S.k_Field S.e_Field_times (ca_Field_times S) (hr.mono (by decide)) px0 (pa_cons (pv 4) (pa_cons (pv 5) pa_nil))) pa_nil)))))) (pss_one (ps_ret (pv 3)))))), pu_sum_over vs H Q E h.2⟩
theorem ca_sum_over (S : Su K mg) : Cal P w K mg base (He.fAd K ("sum_over", none)) ["field", "one", "other"] 3 [] (sp_sum_over K) := by
  obtain ⟨fd, F⟩ := S.c.d.def_ 24 (d := d_sum_over) rfl
  exact ⟨⟨fd, ok_sum_over S F, [], .nil, FunD.bindsN F fun _ _ _ _ _ _ us hl => match us, hl with | [_, _, _], _ => rfl⟩, F.kp⟩
theorem sc_product : FnScope ["field", "one", "other", "found", "line", ".0", "k", "row"] ["field", "one", "other"] (defScope s_product) := ⟨rfl, rfl, rfl, by decide +kernel, rfl, by decide +kernel, by decide +kernel⟩
theorem ok_product (S : Su K mg) {fd : FuncData} {dvs : List V} (F : FunD K "product" "product" (defArgs s_product) (defBody s_product) (defScope s_product) dvs [] (He.fAd K ("product", none)) fd) : FnOk P w K mg base (L2.CX P w) 4 (He.fAd K ("product", none)) fd ["field", "one", "other"] (sp_product K) :=
  FunD.ok (k := 3) F sc_product (fun vs H Q E h => h.1) fun cdv A outer s H vs Q E hr h => ⟨t_product K, PSs.nox (by
    have nd := sc_product.nd
    exact (pss_cons (ps_set (i := 3) nd rfl (.inl rfl) (pe_lst pa_nil)) (pss_cons (ps_for PassesOwn.never rfl (pi_list (pv 1)) (pg_name (i := 4) nd rfl (.inr rfl)) (pss_one (ps_expr (pe_bm PySem.F.plainAttrs_list PySem.F.slot_list_append PySem.F.type_list_append mt_append (pv 3) (pa_cons (pe_lc (own := [(".0", 5), ("k", 6)]) rfl nd (pi_range1 rfl S.f_range (pa_cons (pe_callB call_len_seq rfl S.f_len (by decide +kernel) (pa_cons (pe_ix ix_list (pv 2) pe_int (fun _ _ => rfl)) pa_nil)) pa_nil)) (blkOk_by (by kernel_rfl)) (fun _ _ _ _ _ => (pg_name (i := 6) nd rfl (.inr rfl))) (fun _ _ _ _ _ => pts_nil) (fun _ _ _ _ _ => (kc_call (ca_sum_over S) (hr.mono (by decide)) rfl S.g_sum_over px0 (pa_cons (pv 0) (pa_cons (pv 4) (pa_cons (pe_lc (own := [(".0", 5), ("row", 7)]) rfl nd (pi_list (pv 2)) (blkOk_by (by kernel_rfl)) (fun _ _ _ _ _ => (pg_name (i := 7) nd rfl (.inl rfl))) (fun _ _ _ _ _ => pts_nil) (fun _ _ _ _ _ => (pe_ix ix_list (pv 7) (pv 6) (fun _ _ => rfl)))) pa_nil)))))) pa_nil))))) (pss_one (ps_ret (pv 3)))))), pu_product vs H Q E h.2⟩
theorem ca_product (S : Su K mg) : Cal P w K mg base (He.fAd K ("product", none)) ["field", "one", "other"] 4 [] (sp_product K) := by
  obtain ⟨fd, F⟩ := S.c.d.def_ 25 (d := d_product) rfl
  exact ⟨⟨fd, ok_product S F, [], .nil, FunD.bindsN F fun _ _ _ _ _ _ us hl => match us, hl with | [_, _, _], _ => rfl⟩, F.kp⟩
theorem sc_times_row : FnScope ["field", "table", "row", ".0", "line"] ["field", "table", "row"] (defScope s_times_row) := ⟨rfl, rfl, rfl, by decide +kernel, rfl, by decide +kernel, by decide +kernel⟩
theorem ok_times_row (S : Su K mg) {fd : FuncData} {dvs : List V} (F : FunD K "times_row" "times_row" (defArgs s_times_row) (defBody s_times_row) (defScope s_times_row) dvs [] (He.fAd K ("times_row", none)) fd) : FnOk P w K mg base (L2.CX P w) 4 (He.fAd K ("times_row", none)) fd ["field", "table", "row"] (sp_times_row K) :=
  FunD.ok (k := 3) F sc_times_row (fun vs H Q E h => h.1) fun cdv A outer s H vs Q E hr h => ⟨t_times_row K, PSs.nox (by
    have nd := sc_times_row.nd
    exact (pss_one (ps_ret (pe_lc (own := [(".0", 3), ("line", 4)]) rfl nd (pi_list (pv 1)) (blkOk_by (by kernel_rfl)) (fun _ _ _ _ _ => (pg_name (i := 4) nd rfl (.inl rfl))) (fun _ _ _ _ _ => pts_nil) (fun _ _ _ _ _ => (kc_call (ca_sum_over S) (hr.mono (by decide)) rfl S.g_sum_over px0 (pa_cons (pv 0) (pa_cons (pv 4) (pa_cons (pv 2) pa_nil))))))))), pu_times_row vs H Q E h.2⟩
theorem ca_times_row (S : Su K mg) : Cal P w K mg base (He.fAd K ("times_row", none)) ["field", "table", "row"] 4 [] (sp_times_row K) := by
  obtain ⟨fd, F⟩ := S.c.d.def_ 26 (d := d_times_row) rfl
  exact ⟨⟨fd, ok_times_row S F, [], .nil, FunD.bindsN F fun _ _ _ _ _ _ us hl => match us, hl with | [_, _, _], _ => rfl⟩, F.kp⟩
theorem sc_law_product_right : FnScope ["field", "table", "wide", "prime", "cell", "more", "due", "line", "row", "found", "column", "told", "middle", ".0", "k", "j"] ["field", "table", "wide", "prime", "cell"] (defScope s_law_product_right) := ⟨rfl, rfl, rfl, by decide +kernel, rfl, by decide +kernel, by decide +kernel⟩
theorem ok_law_product_right (S : Su K mg) {fd : FuncData} {dvs : List V} (F : FunD K "_law_product_right" "_law_product_right" (defArgs s_law_product_right) (defBody s_law_product_right) (defScope s_law_product_right) dvs [] (He.fAd K ("_law_product_right", none)) fd) : FnOk P w K mg base (L2.CX P w) 5 (He.fAd K ("_law_product_right", none)) fd ["field", "table", "wide", "prime", "cell"] (sp_law_product_right K) :=
  FunD.ok (k := 4) F sc_law_product_right (fun vs H Q E h => h.1) fun cdv A outer s H vs Q E hr h => ⟨t_law_product_right K, PSs.nox (by
    have nd := sc_law_product_right.nd
    exact (pss_cons (ps_set (i := 5) nd rfl (.inr rfl) (kc_call (ca_law_table S) (hr.mono (by decide)) rfl S.g_law_table px0 (pa_cons (pv 4) (pa_cons (pv 3) (pa_cons (pv 2) (pa_cons (pe_op op_add pe_int (pe_op op_mod (pe_op op_fdivW (pv 4) pe_int) pe_int)) pa_nil)))))) (pss_cons (ps_set (i := 6) nd rfl (.inl rfl) (pe_lst pa_nil)) (pss_cons (ps_for PassesOwn.never rfl (pi_list (pv 1)) (pg_name (i := 7) nd rfl (.inr rfl)) (pss_one (ps_expr (pe_bm PySem.F.plainAttrs_list PySem.F.slot_list_append PySem.F.type_list_append mt_append (pv 6) (pa_cons (pe_lc (own := [(".0", 13), ("k", 14)]) rfl nd (pi_range1 rfl S.f_range (pa_cons (pe_callB call_len_seq rfl S.f_len (by decide +kernel) (pa_cons (pe_ix ix_list (pv 5) pe_int (fun _ _ => rfl)) pa_nil)) pa_nil)) (blkOk_by (by kernel_rfl)) (fun _ _ _ _ _ => (pg_name (i := 14) nd rfl (.inr rfl))) (fun _ _ _ _ _ => pts_nil) (fun _ _ _ _ _ => (kc_call (ca_law_sum S) (hr.mono (by decide)) rfl S.g_law_sum px0 (pa_cons (pv 3) (pa_cons (pv 7) (pa_cons (pe_lc (own := [(".0", 13), ("row", 8)]) rfl nd (pi_list (pv 5)) (blkOk_by (by kernel_rfl)) (fun _ _ _ _ _ => (pg_name (i := 8) nd rfl (.inl rfl))) (fun _ _ _ _ _ => pts_nil) (fun _ _ _ _ _ => (pe_ix ix_list (pv 8) (pv 14) (fun _ _ => rfl)))) pa_nil)))))) pa_nil))))) (pss_cons (ps_set (i := 9) nd rfl (.inl rfl) (kc_call (ca_product S) (hr.mono (by decide)) rfl S.g_product px0 (pa_cons (pv 0) (pa_cons (pv 1) (pa_cons (pv 5) pa_nil))))) (pss_cons (ps_if (pt_cmpR (op_neD hr.units) (pv 9) (pv 6) (nomark _)) (pss_one (ps_ret pe_bl)) pss_nil) (pss_cons (ps_for PassesOwn.never rfl (pi_list (pv 9)) (pg_name (i := 8) nd rfl (.inl rfl)) (pss_one (ps_expr (pe_bm PySem.F.plainAttrs_list PySem.F.slot_list_append PySem.F.type_list_append mt_append (pv 8) (pa_cons pe_int pa_nil))))) (pss_cons (ps_set (i := 10) nd rfl (.inr rfl) (pe_lc (own := [(".0", 13), ("row", 8)]) rfl nd (pi_list (pv 5)) (blkOk_by (by kernel_rfl)) (fun _ _ _ _ _ => (pg_name (i := 8) nd rfl (.inl rfl))) (fun _ _ _ _ _ => pts_nil) (fun _ _ _ _ _ => (pe_ix ix_list (pv 8) pe_int (fun _ _ => rfl))))) (pss_cons (ps_set (i := 11) nd rfl (.inl rfl) (kc_call (ca_times_row S) (hr.mono (by decide)) rfl S.g_times_row px0 (pa_cons (pv 0) (pa_cons (pv 1) (pa_cons (pv 10) pa_nil))))) (pss_cons (ps_if (pt_cmpR (op_neD hr.units) (pv 11) (pe_lc (own := [(".0", 13), ("line", 7)]) rfl nd (pi_list (pv 1)) (blkOk_by (by kernel_rfl)) (fun _ _ _ _ _ => (pg_name (i := 7) nd rfl (.inl rfl))) (fun _ _ _ _ _ => pts_nil) (fun _ _ _ _ _ => (kc_call (ca_law_sum S) (hr.mono (by decide)) rfl S.g_law_sum px0 (pa_cons (pv 3) (pa_cons (pv 7) (pa_cons (pv 10) pa_nil)))))) (nomark _)) (pss_one (ps_ret pe_bl)) pss_nil) (pss_cons (ps_expr (pe_bm PySem.F.plainAttrs_list PySem.F.slot_list_append PySem.F.type_list_append mt_append (pv 11) (pa_cons pe_int pa_nil))) (pss_cons (ps_set (i := 12) nd rfl (.inl rfl) (kc_call (ca_ones S) (hr.mono (by decide)) rfl S.g_ones px0 (pa_cons (pv 2) pa_nil))) (pss_cons (ps_if (pt_cmpR (op_neD hr.units) (pv 12) (pe_lc (own := [(".0", 13), ("j", 15)]) rfl nd (pi_range1 rfl S.f_range (pa_cons (pv 2) pa_nil)) (blkOk_by (by kernel_rfl)) (fun _ _ _ _ _ => (pg_name (i := 15) nd rfl (.inr rfl))) (fun _ _ _ _ _ => pts_nil) (fun _ _ _ _ _ => (pe_lc (own := [(".0", 13), ("k", 14)]) rfl nd (pi_range1 rfl S.f_range (pa_cons (pv 2) pa_nil)) (blkOk_by (by kernel_rfl)) (fun _ _ _ _ _ => (pg_name (i := 14) nd rfl (.inl rfl))) (fun _ _ _ _ _ => pts_nil) (fun _ _ _ _ _ => (pe_callTy call_int1 rfl S.f_int (by decide +kernel) (pa_cons (pe_cmpR op_eq (pv 14) (pv 15) (nomark _)) pa_nil)))))) (nomark _)) (pss_one (ps_ret pe_bl)) pss_nil) (pss_cons (ps_expr (pe_bm0 PySem.F.plainAttrs_list PySem.F.slot_list_clear PySem.F.type_list_clear mt_clear (pe_ix ix_list (pv 12) pe_int (fun _ _ => rfl)))) (pss_one (ps_ret pe_bl)))))))))))))))), pu_law_product_right vs H Q E h.2⟩
theorem ca_law_product_right (S : Su K mg) : Cal P w K mg base (He.fAd K ("_law_product_right", none)) ["field", "table", "wide", "prime", "cell"] 5 [] (sp_law_product_right K) := by
  obtain ⟨fd, F⟩ := S.c.d.def_ 27 (d := d_law_product_right) rfl
  exact ⟨⟨fd, ok_law_product_right S F, [], .nil, FunD.bindsN F fun _ _ _ _ _ _ us hl => match us, hl with | [_, _, _, _, _], _ => rfl⟩, F.kp⟩
theorem sc_law : FnScope ["script", "first", "some", "primes", "fields", "things", "k", "cell", "which", "wide", "table", "more", "kept", "turn", "good", ".0", "prime", "row", "one"] ["script"] (defScope s_law) := ⟨rfl, rfl, rfl, by decide +kernel, rfl, by decide +kernel, by decide +kernel⟩
theorem ok_law (S : Su K mg) {fd : FuncData} {dvs : List V} (F : FunD K "law" "law" (defArgs s_law) (defBody s_law) (defScope s_law) dvs [] (He.fAd K ("law", none)) fd) : FnOk P w K mg base (L2.CX P w) 10 (He.fAd K ("law", none)) fd ["script"] (sp_law K) :=
  FunD.ok (k := 9) F sc_law (fun vs H Q E h => h.1) fun cdv A outer s H vs Q E hr h => ⟨t_law K, PSs.nox (by
    have nd := sc_law.nd
    exact (pss_cons (ps_set (i := 1) nd rfl (.inl rfl) (kc_call (ca_law_cell_at S) (hr.mono (by decide)) rfl S.g_law_cell_at px0 (pa_cons (pv 0) (pa_cons pe_int pa_nil)))) (pss_cons (ps_set (i := 2) nd rfl (.inl rfl) (pe_lst (pa_cons pe_int (pa_cons pe_int (pa_cons pe_int (pa_cons pe_int (pa_cons pe_int (pa_cons pe_int (pa_cons pe_int pa_nil))))))))) (pss_cons (ps_set (i := 3) nd rfl (.inl rfl) (pe_lst (pa_cons (pe_ix ix_list (pv 2) (pe_op op_mod (pv 1) pe_int) (fun _ _ => rfl)) (pa_cons (pe_ix ix_list (pv 2) (pe_op op_mod (pe_op op_fdivW (pv 1) pe_int) pe_int) (fun _ _ => rfl)) pa_nil)))) (pss_cons (ps_setLc (own := [(".0", 15), ("prime", 16)]) (i := 4) rfl nd rfl rfl (sw_true rfl rfl rfl (by decide +kernel)) (pi_list (pv 3)) (blkOk_by (by kernel_rfl)) (fun _ _ _ _ _ => (pg_name (i := 16) nd rfl (.inl rfl))) (fun _ _ _ _ _ => pts_nil) (fun _ _ _ _ _ => (kc_make S.m_Field (ca_Field___init__ S) (hr.mono (by decide)) rfl S.g_Field px0 (pa_cons (pv 16) pa_nil)))) (pss_cons (ps_set (i := 5) nd rfl (.inl rfl) (pe_lst pa_nil)) (pss_cons (ps_for PassesOwn.never rfl (pi_range1 rfl S.f_range (pa_cons pe_int pa_nil)) (pg_name (i := 6) nd rfl (.inl rfl)) (pss_cons (ps_set (i := 7) nd rfl (.inl rfl) (kc_call (ca_law_cell_at S) (hr.mono (by decide)) rfl S.g_law_cell_at px0 (pa_cons (pv 0) (pa_cons (pe_op op_add pe_int (pv 6)) pa_nil)))) (pss_cons (ps_set (i := 8) nd rfl (.inl rfl) (pe_op op_mod (kc_call (ca_law_mixed S) (hr.mono (by decide)) rfl S.g_law_mixed px0 (pa_cons (pv 7) (pa_cons pe_int pa_nil))) pe_int)) (pss_cons (ps_set (i := 9) nd rfl (.inl rfl) (pe_op op_add pe_int (pe_op op_mod (kc_call (ca_law_mixed S) (hr.mono (by decide)) rfl S.g_law_mixed px0 (pa_cons (pv 7) (pa_cons pe_int pa_nil))) pe_int))) (pss_cons (ps_set (i := 10) nd rfl (.inl rfl) (kc_call (ca_law_table S) (hr.mono (by decide)) rfl S.g_law_table px0 (pa_cons (pv 7) (pa_cons (pe_ix ix_list (pv 3) (pv 8) (fun _ _ => rfl)) (pa_cons (pe_op op_mod (kc_call (ca_law_mixed S) (hr.mono (by decide)) rfl S.g_law_mixed px0 (pa_cons (pv 7) (pa_cons pe_int pa_nil))) pe_int) (pa_cons (pv 9) pa_nil)))))) (pss_one (ps_expr (pe_bm PySem.F.plainAttrs_list PySem.F.slot_list_append PySem.F.type_list_append mt_append (pv 5) (pa_cons (pe_tup (pa_cons (pv 8) (pa_cons (pv 10) (pa_cons (pv 9) pa_nil)))) pa_nil))))))))) (pss_cons (ps_asg (pe_ix ix_list (pv 5) pe_int (fun _ _ => rfl)) (pg_tup rfl (pgs_cons (pg_name (i := 8) nd rfl (.inl rfl)) (pgs_cons (pg_name (i := 10) nd rfl (.inl rfl)) (pgs_cons (pg_name (i := 9) nd rfl (.inl rfl)) pgs_nil))))) (pss_cons (ps_set (i := 11) nd rfl (.inl rfl) (kc_call (ca_law_cell_at S) (hr.mono (by decide)) rfl S.g_law_cell_at px0 (pa_cons (pv 0) (pa_cons pe_int pa_nil)))) (pss_cons (ps_asg (pe_tup (pa_cons (pv 8) (pa_cons (pe_op op_cat (pe_slice sl_list (pv 10) po_none (po_some (pe_op op_add pe_int (pe_op op_mod (pv 11) pe_int)))) (pe_op op_rep (pe_lst (pa_cons (pe_op op_rep (pe_lst (pa_cons pe_int pa_nil)) (pv 9)) pa_nil)) (pe_op op_mod (pe_op op_fdivW (pv 11) pe_int) pe_int))) (pa_cons (pv 9) pa_nil)))) (pg_sub (pv 5) pe_int set_list)) (pss_cons (ps_setLc (own := [(".0", 15), ("which", 8), ("table", 10), ("wide", 9)]) (i := 12) rfl nd rfl rfl (sw_true rfl rfl rfl (by decide +kernel)) (pi_list (pv 5)) (blkOk_by (by kernel_rfl)) (fun _ _ _ _ _ => (pg_tup rfl (pgs_cons (pg_name (i := 8) nd rfl (.inl rfl)) (pgs_cons (pg_name (i := 10) nd rfl (.inl rfl)) (pgs_cons (pg_name (i := 9) nd rfl (.inl rfl)) pgs_nil))))) (fun _ _ _ _ _ => pts_nil) (fun _ _ _ _ _ => (pe_lc (own := [(".0", 15), ("row", 17)]) rfl nd (pi_list (pv 10)) (blkOk_by (by kernel_rfl)) (fun _ _ _ _ _ => (pg_name (i := 17) nd rfl (.inl rfl))) (fun _ _ _ _ _ => pts_nil) (fun _ _ _ _ _ => (pe_callTy call_list_of rfl S.f_list (by decide +kernel) (pa_cons (pv 17) pa_nil)))))) (pss_cons (ps_for PassesOwn.never rfl (pi_list (pe_op op_cat (pe_slice sl_list (pv 0) (po_some pe_int) (po_some pe_int)) (pe_lst (pa_cons pe_int (pa_cons pe_int pa_nil))))) (pg_name (i := 7) nd rfl (.inl rfl)) (pss_cons (ps_asg (pe_ix ix_list (pv 5) (pe_op op_mod (kc_call (ca_law_mixed S) (hr.mono (by decide)) rfl S.g_law_mixed px0 (pa_cons (pv 7) (pa_cons pe_int pa_nil))) pe_int) (fun _ _ => rfl)) (pg_tup rfl (pgs_cons (pg_name (i := 8) nd rfl (.inl rfl)) (pgs_cons (pg_name (i := 10) nd rfl (.inl rfl)) (pgs_cons (pg_name (i := 9) nd rfl (.inl rfl)) pgs_nil))))) (pss_one (ps_for PassesOwn.never rfl (pi_range1 rfl S.f_range (pa_cons pe_int pa_nil)) (pg_name (i := 13) nd rfl (.inl rfl)) (pss_cons (ps_if (pt_cmpR op_lt (pe_op op_mod (kc_call (ca_law_mixed S) (hr.mono (by decide)) rfl S.g_law_mixed px0 (pa_cons (pv 7) (pa_cons pe_int pa_nil))) pe_int) pe_int (nomark _)) (pss_one (ps_set (i := 14) nd rfl (.inl rfl) (kc_call (ca_law_one_right S) (hr.mono (by decide)) rfl S.g_law_one_right px0 (pa_cons (pe_ix ix_list (pv 4) (pv 8) (fun _ _ => rfl)) (pa_cons (pv 10) (pa_cons (pv 9) (pa_cons (pe_ix ix_list (pv 3) (pv 8) (fun _ _ => rfl)) pa_nil))))))) (pss_one (ps_set (i := 14) nd rfl (.inl rfl) (kc_call (ca_law_product_right S) (hr.mono (by decide)) rfl S.g_law_product_right px0 (pa_cons (pe_ix ix_list (pv 4) (pv 8) (fun _ _ => rfl)) (pa_cons (pv 10) (pa_cons (pv 9) (pa_cons (pe_ix ix_list (pv 3) (pv 8) (fun _ _ => rfl)) (pa_cons (pv 7) pa_nil))))))))) (pss_one (ps_if (PW.pt (pw_or (pt_not (pt_val (pv 14) (by intro _; rfl))) (pw_or1 (pt_cmpR (op_neD hr.units) (pe_lc (own := [(".0", 15), ("one", 18)]) rfl nd (pi_list (pv 5)) (blkOk_by (by kernel_rfl)) (fun _ _ _ _ _ => (pg_name (i := 18) nd rfl (.inl rfl))) (fun _ _ _ _ _ => pts_nil) (fun _ _ _ _ _ => (pe_ix ix_tup (pv 18) pe_int (fun _ _ => rfl)))) (pv 12) (nomark _))))) (pss_one (ps_ret pe_bl)) pss_nil))))))) (pss_one (ps_ret pe_bl)))))))))))))), pu_law vs H Q E h.2⟩
theorem ca_law (S : Su K mg) : Cal P w K mg base (He.fAd K ("law", none)) ["script"] 10 [] (sp_law K) := by
  obtain ⟨fd, F⟩ := S.c.d.def_ 28 (d := d_law) rfl
  exact ⟨⟨fd, ok_law S F, [], .nil, FunD.bindsN F fun _ _ _ _ _ _ us hl => match us, hl with | [_], _ => rfl⟩, F.kp⟩
end
def nm0 : List Str := ["sum_over",
  "times_row",
  "product",
  "ones",
  "less_row",
  "first_with",
  "Cleared",
  "rank",
  "reader",
  "nought",
  "PostError",
  "NoPrime",
  "NoBack",
  "GREATEST",
  "is_prime",
  "Field",
  "_law_cell_at",
  "_law_mixed",
  "_law_table",
  "_law_sum"]
def nm1 : List Str := ["_law_rows",
  "_law_reads",
  "_law_sent",
  "_law_one_right",
  "_law_product_right"]
def nm : List Str := nm0 ++ nm1
abbrev R : PySem.W.OpenRow := PySem.W.OpenLaw.row PySem.Challenge.rw_mixposts_k14_whole_tables_by_turns
abbrev hk : PySem.W.Hook := hookX 5 fa fn fx
def ob (s : PySem.W.SharedT) : AlX := obsXG 5 fa fn fx (HandSHeadRun.getT s)
theorem ob_eq (s : PySem.W.SharedT) : ob s = hk.obs s.abs := obsXG_eq (HandSHeadRun.getT_eq s)
theorem run (w : World) : HandSHeadRun.RunEq R (PySem.W.view R.prog [29]) hk ob 3000 nm w := by
  intro os
  kernel_rfl
theorem facts {P : Program} {w : World} {K : PySem.W.Frag} {h : Heap} {mg : Str → Option Value} {f : Addr} (X : K.In h) (G : h.Ns mainGlobals mg) (hfa : mg ("law" : Str) = some (.ref f)) (c : SaysX fa fn fx K) :
    ∃ fd : FuncData, (∀ (s : Shared) (v : Value), BindsTo s fd ⟨[v], []⟩ [("script", v)]) ∧ ∀ base : Heap, K.In base → base.Ns mainGlobals mg → FnOk P w K mg base CX0 10 f fd ["script"] (sp_law K) := by
  have S : Su K mg := ⟨c, h, X, G⟩
  obtain ⟨fd, F⟩ := c.d.def_ 28 (d := d_law) rfl
  have e := hfa.symm.trans S.g_law
  cases e
  have b := FunD.bindsA (ps := ["script"]) F fun _ _ _ _ _ _ us hl => match us, hl with | [_], _ => rfl
  exact ⟨fd, fun s v => b s [v] rfl, fun base _ _ => Mx.FnOk.to0 (ok_law S F) fun _ _ _ _ _ h => h⟩
end LX
open PySem PySem.W PySem.Calls PyProof.Rows
set_option maxHeartbeats 0 in
theorem PySem.Challenge.cw_mixposts_k14_whole_tables_by_turns_holds : PySem.Challenge.rw_mixposts_k14_whole_tables_by_turns.Holds := by
  w_on; o_law
  refine HandSHeadRun.head_any (r := OpenLaw.row PySem.Challenge.rw_mixposts_k14_whole_tables_by_turns) (q := view (OpenLaw.row PySem.Challenge.rw_mixposts_k14_whole_tables_by_turns).prog [29]) (H := LX.hk) (ob := LX.ob) (M := 3000) (loose := LX.nm) (d := HandSHeadRun.topDef (OpenLaw.row PySem.Challenge.rw_mixposts_k14_whole_tables_by_turns).prog 29) (kwd := []) LX.ob_eq
    (by kernel_rfl) (fun s => by kernel_rfl) LX.run (by kernel_rfl) (by kernel_rfl) (by kernel_rfl) (by rfl) (by first | assumption | decide +kernel) (by decide +kernel) ⟨rfl, rfl, rfl, rfl, rfl, by decide +kernel⟩ ?hw ?hc
  case hw => w_witness2
  case hc =>
    refine L2.walk_ofE (l := PySem.Challenge.rw_mixposts_k14_whole_tables_by_turns) (n := 63) (k := 10) (x := "script") (CX := L2.CX0) rfl (by decide) (by kernel_rfl) ⟨rfl, by decide, by decide⟩ ?F (fun _ _ _ _ z => z)
    case F =>
      intro w mg fa h Y G hmg0
      obtain ⟨K, KX, c⟩ := Y
      have hmg : mg ("law" : PySem.Str) = some (.ref fa) := by
        have e : (HandSHeadRun.topDef (OpenLaw.row PySem.Challenge.rw_mixposts_k14_whole_tables_by_turns).prog 29).name = ("law" : PySem.Str) := by kernel_rfl
        rw [← e]
        exact hmg0
      obtain ⟨fd, hb, hF⟩ := LX.facts (P := (PySem.Challenge.rw_mixposts_k14_whole_tables_by_turns).prog) (w := w) KX G hmg c
      exact ⟨K, fd, Mx.sp_law K, KX, hb, fun H a ns hl _ hS => ⟨rfl, a, ns, rfl, hS, hl, fun _ => rfl⟩, hF⟩

