import PyProof.Rows.All
import Wide.All
import OpenK.AllK
import Wide.FinOn
import HandS.ForMost
import HandS.Wide
import HandS.SortInts
import HandS.SortKw
import HandS.Property
import HandS.IsInst
import HandS.RevRange
import HandS.Style
import HandS.Flow
import HandS.Defaults
import HandS.MakeKwOnly
import HandS.TryOnly
import HandS.Zip
import HandS.RaiseMore
import HandS.EndBits
import HandS.SetFor
import HandS.Steps
import HandS.Iter
import HandS.GenList
import HandS.Walk
import PySem.Challenge.RW_pagecounts_k17_great_numbers_of_fitting
set_option Elab.async false
set_option linter.all false
set_option maxRecDepth 100000
set_option maxHeartbeats 4000000
namespace Pg
open PySem PySem.Spec PyProof.Rows L2

/-! ### powers of great ints -/
def CPowW (i j : Int) : Prop := 0 ≤ j ∧ (i.natAbs.log2 + 1 : Int) * j ≤ 1000000
theorem CPowW.of {i j : Int} (b : Nat) (h0 : 0 ≤ j) (h1 : i.natAbs < 2 ^ b) (hb : 0 < b) (h : (b : Int) * j ≤ 1000000) : CPowW i j := by
  refine ⟨h0, ?_⟩
  have x := PySem.Flt.log2_lt_of hb h1
  have y : ((i.natAbs.log2 + 1 : Nat) : Int) ≤ (b : Int) := by omega
  have z : ((i.natAbs.log2 + 1 : Nat) : Int) * j ≤ (b : Int) * j := Int.mul_le_mul_of_nonneg_right y h0
  have e : ((i.natAbs.log2 + 1 : Nat) : Int) = (i.natAbs.log2 : Int) + 1 := by omega
  rw [e] at z
  exact Int.le_trans z h
section
variable {X : Cx}
theorem op_powW : OpR X (binaryOp .Pow) (rI CPowW fun i j => .int (i ^ j.toNat)) := opI fun i j _ _ _ _ _ hc q => by
  refine pow_int hc.1 ?_ q
  have b : Builtin.Int.intBits i ≤ i.natAbs.log2 + 1 := by
    unfold Builtin.Int.intBits
    split <;> omega
  have b' : ((Builtin.Int.intBits i : Nat) : Int) ≤ (i.natAbs.log2 : Int) + 1 := by omega
  have z := Int.mul_le_mul_of_nonneg_right b' hc.1
  have h2 := hc.2
  have e : (1000000 : Int) ≤ 2 ^ 27 := by decide
  exact Int.le_trans z (Int.le_trans h2 e)
end

/-! ### a def where it stands -/
structure DefAt (P : Program) (w : World) (K : PySem.W.Frag) (mg : Str → Option Value) (base : Heap) (x : Str) (st : Stmt) (k : Nat) (ps : List Str) (sp : Sp) : Prop where
  ex : ∃ f fd, mg x = some (.ref f) ∧ Fun K x x st f fd ∧ FnOk P w K mg base CX0 k f fd ps sp ∧ Binds K fd ps []
/-- a def of the text that stands at the module's name -/
structure FunAt (K : PySem.W.Frag) (mg : Str → Option Value) (x : Str) (st : Stmt) : Prop where
  ex : ∃ f fd, mg x = some (.ref f) ∧ Fun K x x st f fd
/-- a class with its __init__ -/
structure ClsAt (K : PySem.W.Frag) (mg : Str → Option Value) (x : Str) (C : Addr) : Prop where
  g : mg x = some (.ref C)
  c : Cls K C
  mks : PySem.W.makesIn K C = true
  kp : PySem.W.keepIn K (.ref C) = true
/-- a method of a class, as the text has it -/
structure MethAt (K : PySem.W.Frag) (C : Addr) (m qual : Str) (st : Stmt) : Prop where
  ex : ∃ f fd, Meth K C m f ∧ Fun K m qual st f fd
structure MDefAt (P : Program) (w : World) (K : PySem.W.Frag) (mg : Str → Option Value) (base : Heap) (C : Addr) (m qual : Str) (st : Stmt) (k : Nat) (ps : List Str) (sp : Sp) : Prop where
  ex : ∃ f fd, Meth K C m f ∧ Fun K m qual st f fd ∧ FnOk P w K mg base CX0 k f fd ps sp ∧ Binds K fd ps []
/-- a property of a class -/
structure PropAt (K : PySem.W.Frag) (C : Addr) (m qual : Str) (st : Stmt) : Prop where
  ex : ∃ p f fd, PropOf K C m p f ∧ Fun K m qual st f fd
structure PDefAt (P : Program) (w : World) (K : PySem.W.Frag) (mg : Str → Option Value) (base : Heap) (C : Addr) (m qual : Str) (st : Stmt) (k : Nat) (sp : Sp) : Prop where
  ex : ∃ p f fd, PropOf K C m p f ∧ Fun K m qual st f fd ∧ FnOk P w K mg base CX0 k f fd ["self"] sp ∧ Binds K fd ["self"] []

section
variable {P : Program} {w : World} {K : PySem.W.Frag} {mg : Str → Option Value} {base : Heap} {x m qual : Str} {st : Stmt} {k : Nat} {ps N : List Str} {sp : Sp} {C : Addr}
theorem FunAt.ok (F : FunAt K mg x st) (S : FnScope N ps (defScope st)) (len : ∀ vs H Q E, sp vs H Q E → vs.length = ps.length)
    (hb : ∀ (kV doc pm : Value) (an : Option Addr) (cdv ct : Value) (us : List Value), us.length = ps.length → bindArgs (PySem.W.fnOf x x (defArgs st) (defBody st) (defScope st) .none kV doc pm an cdv ct) ⟨us, []⟩ = pure (ps.zip us))
    (hbody : ∀ (f : Addr) (cdv : Value) (A : Around) (outer : List Env) (s : Shared) (H : Hp) (vs : List V) (Q : VK) (E : XK), Room k (A.deeper (envOfC x (defScope st) s.heap.objs.size f cdv)) → sp vs H Q E →
      ∃ t, PSs (cxOf CX0 P w K mg base N x (defScope st) f cdv A outer s H E).nox (defBody st) t ∧ t { nx := fun _ H' => Q .non H', rt := Q } (start N vs) H) : DefAt P w K mg base x st (k + 1) ps sp := by
  obtain ⟨f, fd, hm, F⟩ := F.ex
  exact ⟨f, fd, hm, F, F.ok S len (fun cdv A outer s H vs Q E hr h => hbody f cdv A outer s H vs Q E hr h), F.binds hb⟩
theorem MethAt.ok (F : MethAt K C m qual st) (S : FnScope N ps (defScope st)) (len : ∀ vs H Q E, sp vs H Q E → vs.length = ps.length)
    (hb : ∀ (kV doc pm : Value) (an : Option Addr) (cdv ct : Value) (us : List Value), us.length = ps.length → bindArgs (PySem.W.fnOf m qual (defArgs st) (defBody st) (defScope st) .none kV doc pm an cdv ct) ⟨us, []⟩ = pure (ps.zip us))
    (hbody : ∀ (f : Addr) (cdv : Value) (A : Around) (outer : List Env) (s : Shared) (H : Hp) (vs : List V) (Q : VK) (E : XK), Room k (A.deeper (envOfC qual (defScope st) s.heap.objs.size f cdv)) → sp vs H Q E →
      ∃ t, PSs (cxOf CX0 P w K mg base N qual (defScope st) f cdv A outer s H E).nox (defBody st) t ∧ t { nx := fun _ H' => Q .non H', rt := Q } (start N vs) H) : MDefAt P w K mg base C m qual st (k + 1) ps sp := by
  obtain ⟨f, fd, hm, F⟩ := F.ex
  exact ⟨f, fd, hm, F, F.ok S len (fun cdv A outer s H vs Q E hr h => hbody f cdv A outer s H vs Q E hr h), F.binds hb⟩
theorem PropAt.ok (F : PropAt K C m qual st) (S : FnScope N ["self"] (defScope st)) (len : ∀ vs H Q E, sp vs H Q E → vs.length = 1)
    (hb : ∀ (kV doc pm : Value) (an : Option Addr) (cdv ct : Value) (us : List Value), us.length = (["self"] : List Str).length → bindArgs (PySem.W.fnOf m qual (defArgs st) (defBody st) (defScope st) .none kV doc pm an cdv ct) ⟨us, []⟩ = pure ((["self"] : List Str).zip us))
    (hbody : ∀ (f : Addr) (cdv : Value) (A : Around) (outer : List Env) (s : Shared) (H : Hp) (vs : List V) (Q : VK) (E : XK), Room k (A.deeper (envOfC qual (defScope st) s.heap.objs.size f cdv)) → sp vs H Q E →
      ∃ t, PSs (cxOf CX0 P w K mg base N qual (defScope st) f cdv A outer s H E).nox (defBody st) t ∧ t { nx := fun _ H' => Q .non H', rt := Q } (start N vs) H) : PDefAt P w K mg base C m qual st (k + 1) sp := by
  obtain ⟨p, f, fd, hm, F⟩ := F.ex
  exact ⟨p, f, fd, hm, F, F.ok S len (fun cdv A outer s H vs Q E hr h => hbody f cdv A outer s H vs Q E hr h), F.binds hb⟩
end

section
variable {X : Cx} {x m qual : Str} {st : Stmt} {k n : Nat} {ps ks : List Str} {sp : Sp} {C : Addr} {e o : Expr} {es : List Expr} {kws : List Keyword} {t tk : TA} {ta : TE} {p pos apos : Pos}
theorem pe_callD (D : DefAt X.prog X.w X.K X.mg X.base x st k ps sp) (hr : Room k X.A) (ha : PA X (e :: es) t) (hg : Gl X x := by rfl)
    (hdb : (x == ("__debug__" : Str)) = false := by decide) (he : starEach (e :: es) X.env = (false, eval e X.env) :: starEach es X.env := by rfl) (hpl : (backTo pos (starEach es X.env)).any (·.1) = false := by rfl) :
    PE X (.Call (.Name x p) (e :: es) [] pos) (tCall sp [] E0 t) := by
  obtain ⟨f, fd, hm, F, G, b⟩ := D.ex
  exact pe_call G hr hg hm F.kp b .nil pass0 ha hdb he hpl
theorem pe_methD {pl : Sem Bool} (he : PE X o ta) (T : Cls X.K C) (D : MDefAt X.prog X.w X.K X.mg X.base C m qual st k ps sp) (hr : Room k X.A) (ha : PA X (e :: es) t)
    (hst : starEach (e :: es) X.env = (false, eval e X.env) :: starEach es X.env := by rfl) (hpl : (backTo pos (starEach es X.env)).any (·.1) = false := by rfl)
    (ht : eval (.Call (.Attribute o m apos) (e :: es) [] pos) X.env = (do
      let ov ← eval o X.env
      standAt apos.atName
      let (f, first) ← holding [ov] (getMethod ov m pl)
      callWith pos f first (backTo pos (starEach (e :: es) X.env)) (backToKw pos (keywordEach [] X.env))) := by rfl) :
    PE X (.Call (.Attribute o m apos) (e :: es) [] pos) (tMeth C m sp [] E0 ta t) := by
  obtain ⟨f, fd, hm, F, G, b⟩ := D.ex
  exact pe_meth he T hm G hr b .nil pass0 ha hst hpl ht
theorem pe_methD0 {pl : Sem Bool} (he : PE X o ta) (T : Cls X.K C) (D : MDefAt X.prog X.w X.K X.mg X.base C m qual st k ps sp) (hr : Room k X.A)
    (ht : eval (.Call (.Attribute o m apos) [] [] pos) X.env = (do
      let ov ← eval o X.env
      standAt apos.atName
      let (f, first) ← holding [ov] (getMethod ov m pl)
      callWith pos f first (backTo pos (starEach [] X.env)) (backToKw pos (keywordEach [] X.env))) := by rfl) :
    PE X (.Call (.Attribute o m apos) [] [] pos) (tMeth C m sp [] E0 ta tNil) := by
  obtain ⟨f, fd, hm, F, G, b⟩ := D.ex
  exact pe_meth0 he T hm G hr b .nil pass0 ht
theorem pe_makeD (T : ClsAt X.K X.mg x C) (D : MDefAt X.prog X.w X.K X.mg X.base C "__init__" qual st k ps sp) (hr : Room (k + 1) X.A) (ha : PA X (e :: es) t) (hg : Gl X x := by rfl)
    (hdb : (x == ("__debug__" : Str)) = false := by decide) (he : starEach (e :: es) X.env = (false, eval e X.env) :: starEach es X.env := by rfl) (hpl : (backTo pos (starEach es X.env)).any (·.1) = false := by rfl) :
    PE X (.Call (.Name x p) (e :: es) [] pos) (tMake C sp [] E0 t) := by
  obtain ⟨f, fd, hm, F, G, b⟩ := D.ex
  exact pe_make ⟨T.mks, hm.at_, hm.fn, T.kp⟩ G hr hg T.g b .nil pass0 ha hdb he hpl
theorem passE0 : Passes CX0 X E0 := fun _ _ _ _ _ _ _ h => h.elim
theorem pe_propD (he : PE X e ta) (c : Cls X.K C) (D : PDefAt X.prog X.w X.K X.mg X.base C m qual st k sp) (hr : Room (k + 1) X.A)
    (hab : attributeBase e m X.env (eval e X.env) = eval e X.env := by rfl) : PE X (.Attribute e m pos) (tProp C sp [] E0 ta) := by
  obtain ⟨pp, f, fd, hm, F, G, b⟩ := D.ex
  exact pe_prop he c hm G hr b .nil passE0 hab
theorem pe_gcls {u : Addr} (hm : X.mg x = some (.ref u)) (hg : Gl X x := by rfl) (hd : (x == ("__debug__" : Str)) = false := by decide) : PE X (.Name x pos) (tC (.ref u)) := pe_glob hg hm rfl hd
end

section
variable {X : Cx} {x : Str} {p : Pos}
theorem pe_gint {i : Int} (hm : ∃ t, X.mg x = some (.int i t)) (hg : Gl X x := by rfl) (hd : (x == ("__debug__" : Str)) = false := by decide) : PE X (.Name x p) (tC (.int i)) := by
  obtain ⟨t, hm⟩ := hm
  exact pe_glob hg hm ⟨t, rfl⟩ hd
theorem pe_gstr {i : Str} (hm : ∃ t, X.mg x = some (.str i t)) (hg : Gl X x := by rfl) (hd : (x == ("__debug__" : Str)) = false := by decide) : PE X (.Name x p) (tC (.str i)) := by
  obtain ⟨t, hm⟩ := hm
  exact pe_glob hg hm ⟨t, rfl⟩ hd
end
/-! ### readings by names -/
def rLen (K : PySem.W.Frag) : List V → Hp → VK → Prop := fun xs H Q => ∃ x n, xs = [x] ∧ LenV K x H n ∧ Q (.int n) H
theorem call_lenN {X : Cx} : CallR X (.builtin "len") (rLen X.K) := call_len
def rAbs : List V → Hp → VK → Prop := fun xs H Q => ∃ i, xs = [.int i] ∧ Q (.int (if i < 0 then -i else i)) H
theorem call_absN {X : Cx} : CallR X (.builtin "abs") rAbs := call_abs
def rMax2 : List V → Hp → VK → Prop := fun xs H Q => ∃ i j, xs = [.int i, .int j] ∧ Q (.int (if j > i then j else i)) H
theorem call_max2N {X : Cx} (hc : X.calm = true) : CallR X (.builtin "max") rMax2 := call_max2 hc
def rMin2 : List V → Hp → VK → Prop := fun xs H Q => ∃ i j, xs = [.int i, .int j] ∧ Q (.int (if j < i then j else i)) H
theorem call_min2N {X : Cx} (hc : X.calm = true) : CallR X (.builtin "min") rMin2 := call_min2 hc
def rInt1 : List V → Hp → VK → Prop := fun xs H Q => (∃ i, xs = [.int i] ∧ Q (.int i) H) ∨ ∃ k, xs = [.bl k] ∧ Q (.int (if k then 1 else 0)) H
theorem call_int1N {X : Cx} : CallR X (.type "int") rInt1 := call_int1
def rStrI : List V → Hp → VK → Prop := fun xs H Q => ∃ i, xs = [.int i] ∧ i.natAbs.log2 < 1920 ∧ Q (.str (toString i)) H
theorem call_strN {X : Cx} : CallR X (.type "str") rStrI := call_str_int
def rListOf (K : PySem.W.Frag) : List V → Hp → VK → Prop := fun xs H Q => ∃ p ys, xs = [.ref p] ∧ (SqL K H p ys ∨ SqT K H p ys) ∧ ∀ l, H l = none → Q (.ref l) (upd H l (.lst ys))
theorem call_listN {X : Cx} : CallR X (.type "list") (rListOf X.K) := call_list_of

/-! ### calls by keywords alone -/
def pick {α : Type} (ix : List Nat) (l : List α) : List α := ix.filterMap fun i => l[i]?
theorem pick_vals {zs : List V} {ws : List Value} (r : Vals zs ws) : ∀ ix : List Nat, Vals (pick ix zs) (pick ix ws)
  | [] => .nil
  | i :: ix => by
    have ih := pick_vals r ix
    unfold pick at ih ⊢
    rw [List.filterMap_cons, List.filterMap_cons]
    cases e : zs[i]? with
    | none =>
      rw [Vals.none_of r e]
      exact ih
    | some v =>
      obtain ⟨u, e', rv⟩ := Vals.get r e
      rw [e']
      exact .cons rv ih
/-- how a call binds keywords alone: parameter i takes the keyword at ix[i] -/
def KB0 (x qual : Str) (st : Stmt) (ps ks : List Str) (pre : Nat) (ix : List Nat) : Prop :=
  ∀ (kV doc pm : Value) (an : Option Addr) (cdv ct : Value) (us ws : List Value), us.length = pre → ws.length = ks.length → bindArgs (PySem.W.fnOf x qual (defArgs st) (defBody st) (defScope st) .none kV doc pm an cdv ct) ⟨us, ks.zip ws⟩ = pure (ps.zip (us ++ pick ix ws))
theorem KB0.kbn {K : PySem.W.Frag} {x qual : Str} {st : Stmt} {f : Addr} {fd : FuncData} {ps ks : List Str} {pre : Nat} {ix : List Nat} (B : KB0 x qual st ps ks pre ix) (F : Fun K x qual st f fd) : KBn K fd ps pre ks (fun us ws => us ++ pick ix ws) (fun vs zs => vs ++ pick ix zs) := by
  obtain ⟨oc, od, kV, doc, pm, an, cdv, ct, osl, rfl, lk, hcd⟩ := F.ex
  exact ⟨fun s us ws _ hu hw => .of_eq (B kV doc pm an cdv ct us ws hu hw), fun r1 r2 => r1.append (pick_vals r2 ix)⟩
def tCallK0 (n : Nat) (ix : List Nat) (sp : Sp) (tk : TA) : TE := fun σ H Q => tk σ H fun zs H2 => zs.length = n ∧ sp (pick ix zs) H2 Q E0
section
variable {X : Cx} {x m qual : Str} {st : Stmt} {k n : Nat} {ps ks : List Str} {sp : Sp} {C : Addr} {e o : Expr} {es : List Expr} {kws : List Keyword} {t tk : TA} {ta : TE} {p pos apos : Pos} {ix : List Nat}
theorem pe_callKD (D : DefAt X.prog X.w X.K X.mg X.base x st k ps sp) (hr : Room k X.A) (hkw : PK X kws tk) (B : KB0 x x st ps ks 0 ix) (hg : Gl X x := by rfl)
    (hall : (backToKw pos (keywordEach kws X.env)).all (·.1.isSome) = true := by rfl) (hks : (backToKw pos (keywordEach kws X.env)).filterMap (·.1) = ks := by rfl) (hdb : (x == ("__debug__" : Str)) = false := by decide)
    (hpl : ((backTo pos (starEach [] X.env)).any (·.1) || (backToKw pos (keywordEach kws X.env)).any (·.1.isNone)) = false := by rfl) :
    PE X (.Call (.Name x p) [] kws pos) (tCallK0 ks.length ix sp tk) := by
  obtain ⟨f, fd, hm, F, G, b⟩ := D.ex
  refine ⟨fun pins s σ H Q I h => ?_⟩
  refine wpAny_Call_Name_kw (ld_glob I hg hm ?_ hdb)
  refine PySem.W.callWith_KW0 (h₀ := X.base) I.ok.mod.kin F.kp hall ?_ hpl
  refine thn (hkw.run pos pins s σ H _ I h) fun ws s2 ⟨zs, H2, I2, rz, l2, q2⟩ => ⟨I2.kIn, ?_⟩
  rw [hks]
  exact run_fnN (us := []) (vs := []) G hr (B.kbn F) pass0 I2 .nil rz rfl l2 q2
/-- o.m(k = v, ..) -/
def tMethK0 (C : Addr) (m : Str) (n : Nat) (ix : List Nat) (sp : Sp) (ta : TE) (tk : TA) : TE := fun σ H Q => ta σ H fun x H1 => ∃ a dx fs, x = .ref a ∧ H1 a = some (.ins C dx fs) ∧ fs.lookup m = none ∧
  tk σ H1 fun zs H2 => zs.length = n ∧ sp (x :: pick ix zs) H2 Q E0
theorem pe_makeKD (T : ClsAt X.K X.mg x C) (D : MDefAt X.prog X.w X.K X.mg X.base C "__init__" qual st k ps sp) (hr : Room (k + 1) X.A) (hkw : PK X kws tk) (B : KB0 "__init__" qual st ps ks 1 ix) (hg : Gl X x := by rfl)
    (hall : (backToKw pos (keywordEach kws X.env)).all (·.1.isSome) = true := by rfl) (hks : (backToKw pos (keywordEach kws X.env)).filterMap (·.1) = ks := by rfl) (hdb : (x == ("__debug__" : Str)) = false := by decide)
    (hpl : ((backTo pos (starEach [] X.env)).any (·.1) || (backToKw pos (keywordEach kws X.env)).any (·.1.isNone)) = false := by rfl) :
    PE X (.Call (.Name x p) [] kws pos) (tMakeK C 0 ks.length sp (fun vs zs => vs ++ pick ix zs) E0 tNil tk) := by
  obtain ⟨f, fd, hm, F, G, b⟩ := D.ex
  exact pe_makeK0 (p := p) (pos := pos) ⟨T.mks, hm.at_, hm.fn, T.kp⟩ G hr hg T.g (B.kbn F) pass0 hkw hall hks hdb hpl
end

/-! ### what is kept -/
/-- all that was tracked is as it was, but the addresses of S -/
def Fr (S : List Addr) (H H' : Hp) : Prop := ∀ b o, b ∉ S → H b = some o → H' b = some o
section
variable {S S' : List Addr} {H H1 H2 H' : Hp} {a b p : Addr} {o u : HO} {K : PySem.W.Frag} {xs : List V}
theorem Fr.refl : Fr S H H := fun _ _ _ h => h
theorem Fr.trans (h : Fr S H H1) (h' : Fr S H1 H2) : Fr S H H2 := fun b o n e => h' b o n (h b o n e)
theorem Fr.mono (h : Fr S H H1) (hs : ∀ b ∈ S, b ∈ S') : Fr S' H H1 := fun b o n e => h b o (fun z => n (hs b z)) e
theorem Fr.nil (h : Fr [] H H1) : Fr S H H1 := h.mono fun b z => absurd z (by simp)
theorem Fr.then (h : Fr S H H1) (h' : Fr [] H1 H2) : Fr S H H2 := h.trans h'.nil
theorem Fr.new (h : Fr S H H1) (n : H1 p = none) : Fr S H (upd H1 p o) := fun b u z e => by
  rw [upd_ne (ne_of_none (h b u z e) n)]
  exact h b u z e
/-- an object that was made behind H, or one of S, may change -/
theorem Fr.put (h : Fr S H H1) (n : H p = none ∨ p ∈ S) : Fr S H (upd H1 p o) := fun b u z e => by
  have hb : b ≠ p := by
    intro q
    subst q
    rcases n with n | n
    · rw [n] at e
      cases e
    · exact z n
  rw [upd_ne hb]
  exact h b u z e
theorem Fr.at (h : Fr S H H') (n : b ∉ S) (e : H b = some o) : H' b = some o := h b o n e
theorem Fr.at0 (h : Fr [] H H') (e : H b = some o) : H' b = some o := h b o (by simp) e
theorem Fr.rd (h : Fr S H H') (n : b ∉ S) (e : Rd H b o) : Rd H' b o := by
  rcases e with e | ⟨x, e⟩
  · exact .inl (h b _ n e)
  · exact .inr ⟨x, h b _ n e⟩
theorem Fr.seqL (h : Fr S H H') (n : b ∉ S) (e : SqL K H b xs) : SqL K H' b xs := by
  rcases e with e | e
  · exact .inl (h.rd n e)
  · exact .inr e
theorem Fr.free (h : Fr S H H') (n : p ∉ S) (e : H' p = none) : H p = none := by
  cases q : H p with
  | none => rfl
  | some o =>
    rw [h p o n q] at e
    cases e
/-- what changes one object that was made behind H -/
theorem Fr.loc (h : Fr S H H1) (n : H p = none) (h' : Fr [p] H1 H2) : Fr S H H2 := fun b o z e => by
  refine h' b o ?_ (h b o z e)
  intro q
  rw [List.mem_singleton.mp q, n] at e
  cases e
theorem same_fr (h : Same H H') : Fr S H H' := fun b o _ e => h b o e
theorem Fr.same (h : Fr [] H H') : Same H H' := fun b o e => h b o (by simp) e
theorem at_upd (h : H a = some o) (n : H p = none) : upd H p u a = some o := by
  rw [upd_ne (ne_of_none h n)]
  exact h
theorem at_make {dx : Addr} {v : HO} (h : H a = some o) (n1 : H dx = none) (n2 : H p = none) : upd (upd H dx u) p v a = some o := by
  rw [upd_ne (ne_of_none h n2), upd_ne (ne_of_none h n1)]
  exact h
theorem Fr.make {dx : Addr} {v : HO} (h : Fr S H H1) (n1 : H1 dx = none) (n2 : H1 p = none) : Fr S H (upd (upd H1 dx u) p v) := fun b w z e => at_make (h b w z e) n1 n2
theorem hx_of {v : HO} (h : H a = some o) (e : o = v) : H a = some v := e ▸ h
theorem nn2 (h1 : b ≠ a) : b ∉ [a] := by simpa using h1
end

/-! ### kinds of objects differ -/
theorem ho_lst_tup {v1 : List V} {v2 : List V} : ((.lst v1) : HO) ≠ (.tup v2) := fun z => nomatch z
theorem ho_lst_own {v1 : List V} {v2 : Addr} : ((.lst v1) : HO) ≠ (.own v2) := fun z => nomatch z
theorem ho_lst_xd {v1 : List V} {v2 : List (Str × V)} : ((.lst v1) : HO) ≠ (.xd v2) := fun z => nomatch z
theorem ho_lst_dK {v1 : List V} {v2 : List (Key × V)} : ((.lst v1) : HO) ≠ (.dK v2) := fun z => nomatch z
theorem ho_lst_ins {v1 : List V} {C2 dx2 : Addr} {fs2 : List (Str × V)} : ((.lst v1) : HO) ≠ (.ins C2 dx2 fs2) := fun z => nomatch z
theorem ho_tup_lst {v1 : List V} {v2 : List V} : ((.tup v1) : HO) ≠ (.lst v2) := fun z => nomatch z
theorem ho_tup_own {v1 : List V} {v2 : Addr} : ((.tup v1) : HO) ≠ (.own v2) := fun z => nomatch z
theorem ho_tup_xd {v1 : List V} {v2 : List (Str × V)} : ((.tup v1) : HO) ≠ (.xd v2) := fun z => nomatch z
theorem ho_tup_dK {v1 : List V} {v2 : List (Key × V)} : ((.tup v1) : HO) ≠ (.dK v2) := fun z => nomatch z
theorem ho_tup_ins {v1 : List V} {C2 dx2 : Addr} {fs2 : List (Str × V)} : ((.tup v1) : HO) ≠ (.ins C2 dx2 fs2) := fun z => nomatch z
theorem ho_own_lst {v1 : Addr} {v2 : List V} : ((.own v1) : HO) ≠ (.lst v2) := fun z => nomatch z
theorem ho_own_tup {v1 : Addr} {v2 : List V} : ((.own v1) : HO) ≠ (.tup v2) := fun z => nomatch z
theorem ho_own_xd {v1 : Addr} {v2 : List (Str × V)} : ((.own v1) : HO) ≠ (.xd v2) := fun z => nomatch z
theorem ho_own_dK {v1 : Addr} {v2 : List (Key × V)} : ((.own v1) : HO) ≠ (.dK v2) := fun z => nomatch z
theorem ho_own_ins {v1 : Addr} {C2 dx2 : Addr} {fs2 : List (Str × V)} : ((.own v1) : HO) ≠ (.ins C2 dx2 fs2) := fun z => nomatch z
theorem ho_xd_lst {v1 : List (Str × V)} {v2 : List V} : ((.xd v1) : HO) ≠ (.lst v2) := fun z => nomatch z
theorem ho_xd_tup {v1 : List (Str × V)} {v2 : List V} : ((.xd v1) : HO) ≠ (.tup v2) := fun z => nomatch z
theorem ho_xd_own {v1 : List (Str × V)} {v2 : Addr} : ((.xd v1) : HO) ≠ (.own v2) := fun z => nomatch z
theorem ho_xd_dK {v1 : List (Str × V)} {v2 : List (Key × V)} : ((.xd v1) : HO) ≠ (.dK v2) := fun z => nomatch z
theorem ho_xd_ins {v1 : List (Str × V)} {C2 dx2 : Addr} {fs2 : List (Str × V)} : ((.xd v1) : HO) ≠ (.ins C2 dx2 fs2) := fun z => nomatch z
theorem ho_dK_lst {v1 : List (Key × V)} {v2 : List V} : ((.dK v1) : HO) ≠ (.lst v2) := fun z => nomatch z
theorem ho_dK_tup {v1 : List (Key × V)} {v2 : List V} : ((.dK v1) : HO) ≠ (.tup v2) := fun z => nomatch z
theorem ho_dK_own {v1 : List (Key × V)} {v2 : Addr} : ((.dK v1) : HO) ≠ (.own v2) := fun z => nomatch z
theorem ho_dK_xd {v1 : List (Key × V)} {v2 : List (Str × V)} : ((.dK v1) : HO) ≠ (.xd v2) := fun z => nomatch z
theorem ho_dK_ins {v1 : List (Key × V)} {C2 dx2 : Addr} {fs2 : List (Str × V)} : ((.dK v1) : HO) ≠ (.ins C2 dx2 fs2) := fun z => nomatch z
theorem ho_ins_lst {C1 dx1 : Addr} {fs1 : List (Str × V)} {v2 : List V} : ((.ins C1 dx1 fs1) : HO) ≠ (.lst v2) := fun z => nomatch z
theorem ho_ins_tup {C1 dx1 : Addr} {fs1 : List (Str × V)} {v2 : List V} : ((.ins C1 dx1 fs1) : HO) ≠ (.tup v2) := fun z => nomatch z
theorem ho_ins_own {C1 dx1 : Addr} {fs1 : List (Str × V)} {v2 : Addr} : ((.ins C1 dx1 fs1) : HO) ≠ (.own v2) := fun z => nomatch z
theorem ho_ins_xd {C1 dx1 : Addr} {fs1 : List (Str × V)} {v2 : List (Str × V)} : ((.ins C1 dx1 fs1) : HO) ≠ (.xd v2) := fun z => nomatch z
theorem ho_ins_dK {C1 dx1 : Addr} {fs1 : List (Str × V)} {v2 : List (Key × V)} : ((.ins C1 dx1 fs1) : HO) ≠ (.dK v2) := fun z => nomatch z
/-! ### len(set(ints)) -/
/-- the different ints of a list -/
def distinct (ns : List Int) : List Int := PyProof.Rows.firstMet (fun i => ns.getD i 0) ns.length
theorem firstMet_mem (f : Nat → Int) : ∀ (i : Nat) (x : Int), x ∈ PyProof.Rows.firstMet f i ↔ ∃ j, j < i ∧ f j = x
  | 0, x => by simp [PyProof.Rows.firstMet_zero]
  | i + 1, x => by
    rw [PyProof.Rows.firstMet_succ]
    have ih := firstMet_mem f i
    unfold PyProof.Rows.step_dedup
    split
    · rename_i h
      obtain ⟨y, hy, e⟩ := List.any_eq_true.mp h
      have e := eq_of_beq e
      subst e
      rw [ih]
      constructor
      · rintro ⟨j, h1, h2⟩
        exact ⟨j, by omega, h2⟩
      · rintro ⟨j, h1, h2⟩
        by_cases hj : j < i
        · exact ⟨j, hj, h2⟩
        · have : j = i := by omega
          subst this
          rw [← h2]
          exact (ih _).mp hy
    · rw [List.mem_append, ih, List.mem_singleton]
      constructor
      · rintro (⟨j, h1, h2⟩ | h)
        · exact ⟨j, by omega, h2⟩
        · exact ⟨i, by omega, h.symm⟩
      · rintro ⟨j, h1, h2⟩
        by_cases hj : j < i
        · exact .inl ⟨j, hj, h2⟩
        · have : j = i := by omega
          subst this
          exact .inr h2.symm
theorem distinct_mem {ns : List Int} {x : Int} : x ∈ distinct ns ↔ x ∈ ns := by
  unfold distinct
  rw [firstMet_mem]
  constructor
  · rintro ⟨j, h1, h2⟩
    rw [List.getD_eq_getElem?_getD, List.getElem?_eq_getElem h1] at h2
    have h2 : ns[j] = x := h2
    rw [← h2]
    exact List.getElem_mem h1
  · intro h
    obtain ⟨j, h1, h2⟩ := List.getElem_of_mem h
    refine ⟨j, h1, ?_⟩
    rw [List.getD_eq_getElem?_getD, List.getElem?_eq_getElem h1]
    exact h2
theorem distinct_le (ns : List Int) : (distinct ns).length ≤ ns.length := PyProof.Rows.firstMet_length_le _ _
/-- a list without repetition within another one is no longer -/
theorem nodup_le : ∀ {ds ns : List Int}, ds.Nodup → (∀ x ∈ ds, x ∈ ns) → ds.length ≤ ns.length
  | [], _, _, _ => Nat.zero_le _
  | d :: ds, ns, h, hs => by
    obtain ⟨h1, h2⟩ := List.nodup_cons.mp h
    have hd : d ∈ ns := hs d List.mem_cons_self
    have ih := nodup_le (ds := ds) (ns := ns.erase d) h2 fun x hx => by
      have hne : x ≠ d := fun e => h1 (e ▸ hx)
      exact (List.mem_erase_of_ne hne).mpr (hs x (List.mem_cons_of_mem _ hx))
    have e := List.length_erase_of_mem hd
    have pos : 0 < ns.length := List.length_pos_of_mem hd
    simp only [List.length_cons]
    omega
def tLenSetJ (K : PySem.W.Frag) (ta : TE) : TE := fun σ H Q => ta σ H fun x H1 => ∃ (l : Addr) (ns : List Int), x = .ref l ∧ SqL K H1 l (ns.map V.int) ∧ ns.length ≤ 4000 ∧ Q (.int ((distinct ns).length : Nat)) H1
theorem pe_lenSetJ {X : Cx} {a : Expr} {ta : TE} {p p2 q pos : Pos} (hg : Gl X "len") (hm : X.mg "len" = none) (hg2 : Gl X "set") (hm2 : X.mg "set" = none) (ha : PE X a ta) (hc : X.calm = true := by rfl)
    (na : starEach [a] X.env = (false, eval a X.env) :: starEach [] X.env := by rfl) : PE X (.Call (.Name "len" p) [.Call (.Name "set" p2) [a] [] q] [] pos) (tLenSetJ X.K ta) := by
  refine ⟨fun pins s σ H Q I h => ?_⟩
  refine Call_ (ld_blt I hg hm boot_len ?_)
  refine PyProof.Rows.callWith_builtin1 (PyProof.Rows.args_cons ?_ rfl) rfl rfl
  refine Call_ (ld_blt I hg2 hm2 boot_set ?_)
  refine PyProof.Rows.callWith_type1 (PyProof.Rows.args_cons (thn (ha.run pins s σ H _ I h) fun v s1 ⟨x, H1, I1, r1, q1⟩ => PyProof.Rows.args_nil ?_) na) na rfl
  obtain ⟨l, ns, rfl, hq, hl, q1⟩ := q1
  cases r1
  obtain ⟨its, r, pl, hz⟩ := I1.list hq
  have hlen : its.toArray.size = ns.length := by rw [List.size_toArray, ← r.length, List.length_map]
  refine call_set_list (I1.ok.hd hc) pl.isList (by simpa using RZ.intsAre_vals r) (by rw [hlen]; unfold scanBound; omega) fun h' tk hS hk => ?_
  refine PyProof.Rows.args_nil ?_
  rw [hlen] at hS
  have hlt : (PyProof.Rows.firstMet (fun i => ns.getD i 0) ns.length).length ≤ ns.length := PyProof.Rows.firstMet_length_le _ _
  obtain ⟨o, es, ep, t, ho, hex, hd, _, _, _, hf, hn⟩ := hS
  have I2 : Inv X pins σ H1 { s1 with heap := h', toks := tk } := I1.kept fun b o e => hk b o (Heap.lt_size e) e
  exact call_len_set ho hex hd hf (by rw [hn] <;> omega) ⟨.int (distinct ns).length, H1, I2.tok _, ⟨_, by rw [hn]; rfl⟩, q1⟩
/-! ### the same rules at a named part K -/
section
variable {X : Cx} {K : PySem.W.Frag}
theorem kc_call {r : PySem.W.Frag → List V → Hp → VK → Prop} {v : Value} (h : CallR X v (r X.K)) (e : X.K = K) : CallR X v (r K) := e ▸ h
theorem kc_mt {r : PySem.W.Frag → V → List V → Hp → VK → Prop} {id : String} (h : MtR X id (r X.K)) (e : X.K = K) : MtR X id (r K) := e ▸ h
theorem kc_op {r : PySem.W.Frag → R2} {f : Value → Value → Sem Value} (h : OpR X f (r X.K)) (e : X.K = K) : OpR X f (r K) := e ▸ h
theorem kc_ix {r : PySem.W.Frag → R2} (h : IxR X (r X.K)) (e : X.K = K) : IxR X (r K) := e ▸ h
theorem kc_sl {r : PySem.W.Frag → V → Option Int → Option Int → Hp → VK → Prop} (h : SlR X (r X.K)) (e : X.K = K) : SlR X (r K) := e ▸ h
theorem kc_bm {e : Expr} {T : String} {r : V → List V → Hp → VK → Prop} {to : TE} {t : TA} (h : PE X e (tBM X.K T r to t)) (q : X.K = K) : PE X e (tBM K T r to t) := q ▸ h
theorem kc_bm0 {e : Expr} {T : String} {r : V → List V → Hp → VK → Prop} {to : TE} (h : PE X e (tBM0 X.K T r to)) (q : X.K = K) : PE X e (tBM0 K T r to) := q ▸ h
end
/-! ### slices with a step -/
def pickSl {α : Type} (xs : List α) (lo st : Option Int) : List α := (sliceRange (sliceBounds lo none st xs.length).1 (sliceBounds lo none st xs.length).2.1 (sliceBounds lo none st xs.length).2.2).filterMap fun i => xs[i]?
def tSlStep (K : PySem.W.Frag) (te : TE) (tl ts : TO) : TE := fun σ H Q => te σ H fun x H1 => tl σ H1 fun lo H2 => ts σ H2 fun st H3 => ∃ a xs, x = .ref a ∧ SqL K H3 a xs ∧ st ≠ some 0 ∧ (pickSl xs lo st).length ≤ sizeLine ∧ ∀ p, H3 p = none → Q (.ref p) (upd H3 p (.lst (pickSl xs lo st)))
theorem pe_slStep {X : Cx} {e st : Expr} {te : TE} {lo : Option Expr} {tl ts : TO} {p2 pos : Pos} (he : PE X e te) (hl : PO X lo tl) (hs : PO X (some st) ts) : PE X (.Subscript e (.Slice lo none (some st) p2) pos) (tSlStep X.K te tl ts) := by
  refine ⟨fun pins s σ H Q I h => ?_⟩
  refine Subscript_ (thn (he.run pins s σ H _ I h) fun v s1 ⟨x, H1, I1, r1, q1⟩ => ?_)
  refine wpAny_Slice (thn (hl.run pins s1 σ H1 _ I1 q1) fun vl s2 ⟨l, H2, I2, pl, q2⟩ => ?_)
  refine thn (po_none.run pins s2 σ H2 (fun o H3 => o = none ∧ H3 = H2) I2 ⟨rfl, rfl⟩) fun vu s3 ⟨u, H3, I3, pu, eu, e3⟩ => ?_
  subst eu e3
  refine thn (hs.run pins s3 σ H3 _ I3 q2) fun vs s4 ⟨o, H4, I4, ps, a, xs, ex, hx, h0, hz2, q4⟩ => ?_
  subst ex
  cases r1
  have I5 : Inv X pins σ H4 { s4 with heap := s4.heap.push { cls := .type "slice", data := .fields #[vl, vu, vs] } } := I4.kept (t' := s4.toks) fun b ob q => Heap.get?_push_of_some _ q
  obtain ⟨its, r, ht, hz⟩ := I5.list hx
  have hlen := r.length
  refine tail_any (ops := [.ref a, .ref s4.heap.objs.size]) ht.isList.typeIs (PySem.slot_list_getitem.lookup) ?_ (by with_unfolding_all rfl)
  refine wpAny_getItem_list_slice ht.isList (Heap.IsSliceOf.new _ vl vu vs) pl pu ps h0 ?_ (by rw [List.size_toArray]; omega)
  have hp : slicePick its.toArray l none o = (pickSl its l o).toArray := by
    unfold slicePick pickSl
    simp
  have rv : Vals (pickSl xs l o) (pickSl its l o) := by
    unfold pickSl
    rw [hlen]
    exact pick_vals r _
  rw [hp]
  refine ⟨.ref _, _, I5.laid (t' := s4.toks) (o := .lst (pickSl xs l o)) (fun b ob q => Heap.get?_push_of_some _ q) (Nat.le_refl _) ?_, rfl, q4 _ (I5.hok.fresh (Nat.le_refl _))⟩
  exact ⟨hz2, _, 0, rv, Heap.get?_push_size _ rfl⟩
end Pg

namespace Pg
open PySem PySem.Spec PyProof.Rows L2
theorem szle {n : Nat} (h : Nat.ble n 16777216 = true) : n ≤ sizeLine := by
  rw [sizeLine_eq]
  exact Nat.le_of_ble_eq_true h
theorem szle' {n : Nat} (h : n ≤ 16777216) : n ≤ sizeLine := by
  rw [sizeLine_eq]
  exact h
theorem szlt {n : Nat} (h : n < 16777216) : n < sizeLine := by
  rw [sizeLine_eq]
  exact h
def ParE (i j : Nat) (R : L2.St → Hp → Prop) (σ : L2.St) : List V → Hp → Prop := fun vs H1 => ∃ v w, vs = [v, w] ∧ R ((σ.set i (some v)).set j (some w)) H1
theorem perm_sum {ns ms : List Int} (h : ns.Perm ms) : ns.sum = ms.sum := by
  induction h with
  | nil => rfl
  | cons x _ ih => simp [ih]
  | swap x y l => simp; omega
  | trans _ _ h1 h2 => exact h1.trans h2
/-- a wish, wrapped, so that nothing else takes it -/
structure Wr (R : Prop) : Prop where
  r : R
/-- fields of instances -/
def FldP (K : PySem.W.Frag) (f : Str) (y : V) (R : Hp → Prop) : V → Hp → Prop := fun x H2 => ∃ a C dx fs, x = .ref a ∧ H2 a = some (.ins C dx fs) ∧ Cls K C ∧ NoAttr K C f ∧ fs.length < 1000 ∧ R (upd H2 a (.ins C dx (putF f y fs)))
def FldG (K : PySem.W.Frag) (f : Str) (Q : VK) : V → Hp → Prop := fun x H1 => ∃ a C dx fs v, x = .ref a ∧ H1 a = some (.ins C dx fs) ∧ Cls K C ∧ NoAttr K C f ∧ fs.lookup f = some v ∧ Q v H1
def FldQ (C a : Addr) (f : Str) (z : V) (R : Hp → Prop) : Hp → Prop := fun H3 => ∃ dx' fs', H3 a = some (.ins C dx' fs') ∧ fs'.length < 1000 ∧ R (upd H3 a (.ins C dx' (putF f z fs')))
def FldA (K : PySem.W.Frag) (tv : TE) (rd : V → V → Hp → VK → Prop) (f : Str) (R : Hp → Prop) (σ : L2.St) : V → Hp → Prop := fun x H1 => ∃ a C dx fs v, x = .ref a ∧ H1 a = some (.ins C dx fs) ∧ Cls K C ∧ NoAttr K C f ∧ fs.lookup f = some v ∧
  tv σ H1 fun y H2 => rd v y H2 fun z H3 => FldQ C a f z R H3
def MethE (C : Addr) (m : Str) (sp : Sp) (dvs : List V) (E : XK) (t : TA) (σ : L2.St) (Q : VK) : V → Hp → Prop := fun x H1 => ∃ a dx fs, x = .ref a ∧ H1 a = some (.ins C dx fs) ∧ fs.lookup m = none ∧ t σ H1 fun vs H2 => sp (x :: (vs ++ dvs)) H2 Q E
def PropE (C : Addr) (sp : Sp) (dvs : List V) (E : XK) (Q : VK) : V → Hp → Prop := fun x H1 => ∃ a dx fs, x = .ref a ∧ H1 a = some (.ins C dx fs) ∧ sp (.ref a :: dvs) H1 Q E
theorem putF_eq {f : Str} {v x : V} {r : List (Str × V)} : putF f v ((f, x) :: r) = (f, v) :: r := by
  show (if f = f then _ else _) = _
  rw [if_pos rfl]
theorem putF_ne {f g : Str} {v x : V} {r : List (Str × V)} (h : ¬ g = f) : putF f v ((g, x) :: r) = (g, x) :: putF f v r := by
  show (if g = f then _ else _) = _
  rw [if_neg h]
theorem lk_eq {f : Str} {v : V} {r : List (Str × V)} : List.lookup f ((f, v) :: r) = some v := by simp [List.lookup]
theorem lk_ne {f g : Str} {v : V} {r : List (Str × V)} (h : ¬ f = g) : List.lookup f ((g, v) :: r) = List.lookup f r := by
  have e : (f == g) = false := by simpa using h
  simp [List.lookup, e]
/-- a method's receiver is of the type, and the rest -/
def TyAnd (K : PySem.W.Frag) (T : String) (x : V) (H : Hp) (R : Prop) : Prop := tyV K T x H ∧ R
section
variable {K : PySem.W.Frag} {σ : L2.St} {H H' : Hp} {D : Ends} {i : Nat} {x y v : V} {Q : VK} {ta tb te : TE} {c t u : TT} {t1 t2 ts : TS} {r : R2} {g : TG} {tA tr : TA} {R : List V → Hp → Prop} {a p C dx : Addr} {xs : List V} {f : Str} {fs : List (Str × V)} {m n : Int} {B : Bool → Hp → Prop}
/-! statements -/
theorem w_share {R A : Prop} (h1 : Wr R → A) (h2 : R) : A := h1 ⟨h2⟩
theorem w_start {N : List Str} {vs : List V} {σ' : L2.St} (e : L2.start N vs = σ') (h : ts D σ' H) : ts D (L2.start N vs) H := e ▸ h
theorem w_seq (h : t1 { D with nx := t2 D } σ H) : tSeq t1 t2 D σ H := h
theorem w_next (h : D.nx σ H) : tNext D σ H := h
theorem w_asg (h : te σ H fun x H1 => g x σ H1 D.nx) : tAsg te g D σ H := h
theorem w_gname {Q : L2.St → Hp → Prop} (h : Q (σ.set i (some v)) H) : gName i v σ H Q := h
theorem w_ret (h : te σ H D.rt) : tRet te D σ H := h
theorem w_retN (h : D.rt .non H) : tRetN D σ H := h
theorem w_drop (h : te σ H fun _ H1 => D.nx σ H1) : tDrop te D σ H := h
theorem w_ifS (h : c σ H fun b H1 => if b = true then t1 D σ H1 else t2 D σ H1) : tIfS c t1 t2 D σ H := h
theorem w_par {j : Nat} (h : tA σ H (ParE i j (D.nx) σ)) : tPar i j tA D σ H := h
theorem w_parE {j : Nat} {R : L2.St → Hp → Prop} (q : R ((σ.set i (some x)).set j (some y)) H) : ParE i j R σ [x, y] H := ⟨x, y, rfl, q⟩
theorem w_aug {ti : TIp} (e : σ[i]? = some (some x)) (h : te σ H fun y H1 => ti x y H1 fun z H2 => D.nx (σ.set i (some z)) H2) : tAug i te ti D σ H := ⟨x, e, h⟩
theorem w_ipI {f : Int → Int → Int} (h : Q (.int (f m n)) H) : ipI f (.int m) (.int n) H Q := ⟨m, n, rfl, rfl, h⟩
theorem w_fld (h : te σ H fun y H1 => ta σ H1 (FldP K f y (D.nx σ))) : sFld K ta te f D σ H := h
theorem w_fldP {R : Hp → Prop} {fs' : List (Str × V)} (h : H a = some (.ins C dx fs)) (c : Cls K C) (n : NoAttr K C f) (hl : fs.length < 1000) (e : putF f y fs = fs') (q : R (upd H a (.ins C dx fs'))) : FldP K f y R (.ref a) H := ⟨a, C, dx, fs, rfl, h, c, n, hl, by rw [e]; exact q⟩
theorem w_fldaug {rd : V → V → Hp → VK → Prop} (h : ta σ H fun x H1 => FldA K te rd f (D.nx σ) σ x H1) : sFldAug K ta te rd f D σ H := h
theorem w_fldA {rd : V → V → Hp → VK → Prop} {R : Hp → Prop} (h : H a = some (.ins C dx fs)) (c : Cls K C) (n : NoAttr K C f) (e : fs.lookup f = some v) (q : te σ H fun y H2 => rd v y H2 fun z H3 => FldQ C a f z R H3) : FldA K te rd f R σ (.ref a) H := ⟨a, C, dx, fs, v, rfl, h, c, n, e, q⟩
theorem w_fldQ {R : Hp → Prop} {fs' : List (Str × V)} {z : V} (h : H a = some (.ins C dx fs)) (hl : fs.length < 1000) (e : putF f z fs = fs') (q : R (upd H a (.ins C dx fs'))) : FldQ C a f z R H := ⟨dx, fs, h, hl, by rw [e]; exact q⟩
theorem w_rAdd (q : Q (.int (m + n)) H) : L2.rAdd (.int m) (.int n) H Q := ⟨m, n, rfl, rfl, q⟩
theorem w_rSub (q : Q (.int (m - n)) H) : L2.rSub (.int m) (.int n) H Q := ⟨m, n, rfl, rfl, q⟩
/-! expressions -/
theorem w_var (e : σ[i]? = some (some v)) (h : Q v H) : tVar i σ H Q := ⟨v, e, h⟩
theorem w_c (h : Q v H) : tC v σ H Q := h
theorem w_op (h : ta σ H fun x H1 => tb σ H1 fun y H2 => r x y H2 Q) : tOp r ta tb σ H Q := h
theorem w_un {r : V → Hp → VK → Prop} (h : ta σ H fun x H1 => r x H1 Q) : tUn r ta σ H Q := h
theorem w_I0 {g : Int → Int → V} (h : Q (g m n) H) : rI0 g (.int m) (.int n) H Q := ⟨m, n, rfl, rfl, h⟩
theorem w_I {P : Int → Int → Prop} {g : Int → Int → V} (c : P m n) (h : Q (g m n) H) : rI P g (.int m) (.int n) H Q := ⟨m, n, rfl, rfl, c, h⟩
theorem w_powW (c : CPowW m n) (h : Q (.int (m ^ n.toNat)) H) : rI CPowW (fun i j => .int (i ^ j.toNat)) (.int m) (.int n) H Q := ⟨m, n, rfl, rfl, c, h⟩
theorem w_U {g : Int → V} (h : Q (g m) H) : rU g (.int m) H Q := ⟨m, rfl, h⟩
theorem w_eq (c : scal x y = true) (h : Q (.bl (decide (x = y))) H) : rEq x y H Q := ⟨c, h⟩
theorem w_eqI (h : Q (.bl (decide (m = n))) H) : rEq (.int m) (.int n) H Q := ⟨rfl, by
  have e : decide (V.int m = V.int n) = decide (m = n) := by
    by_cases z : m = n
    · subst z
      rw [decide_eq_true rfl, decide_eq_true rfl]
    · rw [decide_eq_false z, decide_eq_false fun q => z (V.int.inj q)]
  rw [e]
  exact h⟩
theorem w_neI (h : Q (.bl (!decide (m = n))) H) : rNe (.int m) (.int n) H Q := ⟨rfl, by
  have e : decide (V.int m = V.int n) = decide (m = n) := by
    by_cases z : m = n
    · subst z
      rw [decide_eq_true rfl, decide_eq_true rfl]
    · rw [decide_eq_false z, decide_eq_false fun q => z (V.int.inj q)]
  rw [e]
  exact h⟩
theorem w_ne (c : scal x y = true) (h : Q (.bl (!decide (x = y))) H) : rNe x y H Q := ⟨c, h⟩
theorem w_ixL (h : SqL K H p xs) (ha : atI xs m = some v) (q : Q v H) : rIxL K (.ref p) (.int m) H Q := ⟨p, xs, m, v, rfl, rfl, h, ha, q⟩
theorem w_ixT (h : SqT K H p xs) (ha : atI xs m = some v) (q : Q v H) : rIxT K (.ref p) (.int m) H Q := ⟨p, xs, m, v, rfl, rfl, h, ha, q⟩
theorem w_sub {to ti : TE} {tq : TSet} {Q : L2.St → Hp → Prop} (h : to σ H fun o H1 => ti σ H1 fun i H2 => tq o i v H2 fun H3 => Q σ H3) : gSub to ti tq v σ H Q := h
theorem w_setL {j : Nat} {Q : Hp → Prop} (h : H p = some (.lst xs)) (e : ixN xs.length m = some j) (q : Q (upd H p (.lst (xs.set j v)))) : rSetL (.ref p) (.int m) v H Q := ⟨p, xs, m, j, rfl, rfl, h, e, q⟩
theorem w_nil (h : R [] H) : tNil σ H R := h
theorem w_cons (h : te σ H fun x H1 => tr σ H1 fun xs H2 => R (x :: xs) H2) : tCons te tr σ H R := h
theorem w_call {sp : Sp} {dvs : List V} {E : XK} (h : tA σ H fun vs H1 => sp (vs ++ dvs) H1 Q E) : tCall sp dvs E tA σ H Q := h
theorem w_CB {r : List V → Hp → VK → Prop} (h : tA σ H fun vs H1 => r vs H1 Q) : tCB r tA σ H Q := h
theorem w_lst (h : tA σ H fun xs H1 => xs.length ≤ sizeLine ∧ ∀ p, H1 p = none → Q (.ref p) (upd H1 p (.lst xs))) : tLst tA σ H Q := h
theorem w_tup (h : tA σ H fun xs H1 => xs.length ≤ sizeLine ∧ ∀ p, H1 p = none → Q (.ref p) (upd H1 p (.tup xs))) : tTup tA σ H Q := h
theorem w_tfld (h : ta σ H (FldG K f Q)) : tFld K ta f σ H Q := h
theorem w_fldG (h : H a = some (.ins C dx fs)) (c : Cls K C) (n : NoAttr K C f) (e : fs.lookup f = some v) (q : Q v H) : FldG K f Q (.ref a) H := ⟨a, C, dx, fs, v, rfl, h, c, n, e, q⟩
theorem w_meth {sp : Sp} {dvs : List V} {E : XK} (h : ta σ H (MethE C f sp dvs E tA σ Q)) : tMeth C f sp dvs E ta tA σ H Q := h
theorem w_methE {sp : Sp} {dvs : List V} {E : XK} (h : H a = some (.ins C dx fs)) (e : fs.lookup f = none) (q : tA σ H fun vs H2 => sp (.ref a :: (vs ++ dvs)) H2 Q E) : MethE C f sp dvs E tA σ Q (.ref a) H := ⟨a, dx, fs, rfl, h, e, q⟩
theorem w_prop {sp : Sp} {dvs : List V} {E : XK} (h : ta σ H (PropE C sp dvs E Q)) : tProp C sp dvs E ta σ H Q := h
theorem w_propE {sp : Sp} {dvs : List V} {E : XK} (h : H a = some (.ins C dx fs)) (q : sp (.ref a :: dvs) H Q E) : PropE C sp dvs E Q (.ref a) H := ⟨a, dx, fs, rfl, h, q⟩
theorem w_make {sp : Sp} {dvs : List V} {E : XK} (h : tA σ H fun vs H1 => ∀ x dx, H1 x = none → H1 dx = none → dx ≠ x → sp (.ref x :: (vs ++ dvs)) (upd (upd H1 dx (.own x)) x (.ins C dx [])) (fun v H2 => v = .non ∧ Q (.ref x) H2) E) : tMake C sp dvs E tA σ H Q := h
theorem w_if (h : c σ H fun b H1 => if b = true then ta σ H1 Q else tb σ H1 Q) : tIf c ta tb σ H Q := h
theorem w_bm {T : String} {r : V → List V → Hp → VK → Prop} (h : ta σ H fun x H1 => TyAnd K T x H1 (tA σ H1 fun xs H2 => r x xs H2 Q)) : tBM K T r ta tA σ H Q := h
theorem w_bm0 {T : String} {r : V → List V → Hp → VK → Prop} (h : ta σ H fun x H1 => TyAnd K T x H1 (r x [] H1 Q)) : tBM0 K T r ta σ H Q := h
theorem w_chain {r r' : R2} {tc : TE} (h : ta σ H fun x H1 => tb σ H1 fun y H2 => r x y H2 fun z H3 => ∃ k, z = .bl k ∧ (if k = true then tc σ H3 fun w' H4 => r' y w' H4 Q else Q (.bl false) H3)) : tChain r r' ta tb tc σ H Q := h
/-! tests -/
theorem w_test (h : te σ H fun x H' => ∃ k, x = .bl k ∧ B k H') : tTest te σ H B := h
theorem w_tB (h : te σ H fun x H' => ∃ k, x = .bl k ∧ B k H') : tB te σ H B := h
theorem w_exbl {b : Bool} {P : Bool → Prop} (h : P b) : ∃ k, V.bl b = V.bl k ∧ P k := ⟨b, rfl, h⟩
theorem w_not (h : t σ H fun b H' => B (!b) H') : tNot t σ H B := h
theorem w_and (h : t σ H fun b H1 => if b = true then u σ H1 B else B false H1) : tAnd t u σ H B := h
theorem w_or (h : t σ H fun b H1 => if b = true then B true H1 else u σ H1 B) : tOr t u σ H B := h
theorem w_ite {c A B : Prop} [Decidable c] (h1 : c → A) (h2 : ¬ c → B) : if decide c = true then A else B := by
  by_cases h : c
  · rw [if_pos (decide_eq_true h)]
    exact h1 h
  · rw [if_neg (by rw [decide_eq_false h]; decide)]
    exact h2 h
theorem w_iteN {c A B : Prop} [Decidable c] (h1 : ¬ c → A) (h2 : c → B) : if (!decide c) = true then A else B := by
  by_cases h : c
  · rw [if_neg (by rw [decide_eq_true h]; decide)]
    exact h2 h
  · rw [if_pos (by rw [decide_eq_false h]; rfl)]
    exact h1 h
theorem w_iteT {A B : Prop} (h : A) : if true = true then A else B := by rw [if_pos rfl]; exact h
theorem w_iteF {A B : Prop} (h : B) : if false = true then A else B := by rw [if_neg Bool.false_ne_true]; exact h
theorem w_iteNT {A B : Prop} (h : B) : if (!true) = true then A else B := by rw [if_neg (by decide)]; exact h
theorem w_iteNF {A B : Prop} (h : A) : if (!false) = true then A else B := by rw [if_pos (by decide)]; exact h
theorem w_iteP {c A B : Prop} [Decidable c] (hc : c) (h : A) : if decide c = true then A else B := w_ite (fun _ => h) fun n => absurd hc n
theorem w_iteQ {c A B : Prop} [Decidable c] (hc : ¬ c) (h : B) : if decide c = true then A else B := w_ite (fun n => absurd n hc) fun _ => h
theorem w_iteNP {c A B : Prop} [Decidable c] (hc : c) (h : B) : if (!decide c) = true then A else B := w_iteN (fun n => absurd hc n) fun _ => h
theorem w_iteNQ {c A B : Prop} [Decidable c] (hc : ¬ c) (h : A) : if (!decide c) = true then A else B := w_iteN (fun _ => h) fun n => absurd n hc
theorem w_iteB {b : Bool} {A B : Prop} (h1 : b = true → A) (h2 : b = false → B) : if b = true then A else B := by
  cases b with
  | true => exact w_iteT (h1 rfl)
  | false => exact w_iteF (h2 rfl)
end

/-! ### reads of lists -/
theorem atI_lt {α : Type} {xs : List α} {r : Int} (h0 : 0 ≤ r) (h1 : r < xs.length) : ∃ v, v ∈ xs ∧ atI xs r = some v ∧ xs[r.toNat]? = some v := by
  have hl : r.toNat < xs.length := by omega
  have e : xs[r.toNat]? = some xs[r.toNat] := List.getElem?_eq_getElem hl
  refine ⟨xs[r.toNat], List.getElem_mem hl, ?_, e⟩
  have q := atI_nat e
  have z : ((r.toNat : Nat) : Int) = r := Int.toNat_of_nonneg h0
  rw [z] at q
  exact q
theorem atI_ints {ns : List Int} {r : Int} (h0 : 0 ≤ r) (h1 : r < ns.length) : ∃ n, n ∈ ns ∧ atI (ns.map V.int) r = some (.int n) ∧ ns[r.toNat]? = some n := by
  obtain ⟨v, hv, e, e2⟩ := atI_lt (xs := ns.map V.int) h0 (by rw [List.length_map]; exact h1)
  rw [List.getElem?_map] at e2
  cases q : ns[r.toNat]? with
  | none =>
    rw [q] at e2
    cases e2
  | some n =>
    rw [q] at e2
    cases e2
    exact ⟨n, List.mem_of_getElem? q, e, rfl⟩
theorem map_at {ns : List Int} {i : Nat} {x : V} (h : (ns.map V.int)[i]? = some x) : ∃ n, ns[i]? = some n ∧ x = .int n := by
  rw [List.getElem?_map] at h
  cases e : ns[i]? with
  | none =>
    rw [e] at h
    cases h
  | some n =>
    rw [e] at h
    exact ⟨n, rfl, (Option.some.inj h).symm⟩
theorem map_at' {α : Type} {f : α → V} {ns : List α} {i : Nat} {x : V} (h : (ns.map f)[i]? = some x) : ∃ n, ns[i]? = some n ∧ x = f n := by
  rw [List.getElem?_map] at h
  cases e : ns[i]? with
  | none =>
    rw [e] at h
    cases h
  | some n =>
    rw [e] at h
    exact ⟨n, rfl, (Option.some.inj h).symm⟩
theorem map_snoc (f : Int → V) (ns : List Int) (n : Int) : ns.map f ++ [f n] = (ns ++ [n]).map f := by simp

/-- the ints of written items -/
def unV : List V → List Int
  | [] => []
  | .int i :: r => i :: unV r
  | _ :: r => unV r
section
variable {K : PySem.W.Frag} {H : Hp} {p : Addr} {xs : List V} {m : Int} {Q : VK} {ns : List Int}
theorem w_ixLi (h : SqL K H p xs) (e : xs = (unV xs).map V.int) (h0 : 0 ≤ m) (h1 : m < (unV xs).length) (q : ∀ n, n ∈ unV xs → Q (.int n) H) : rIxL K (.ref p) (.int m) H Q := by
  obtain ⟨n, hn, e2, _⟩ := atI_ints h0 h1
  rw [← e] at e2
  exact w_ixL h e2 (q n hn)
theorem w_ixTi (h : SqT K H p xs) (e : xs = (unV xs).map V.int) (h0 : 0 ≤ m) (h1 : m < (unV xs).length) (q : ∀ n, n ∈ unV xs → Q (.int n) H) : rIxT K (.ref p) (.int m) H Q := by
  obtain ⟨n, hn, e2, _⟩ := atI_ints h0 h1
  rw [← e] at e2
  exact w_ixT h e2 (q n hn)
theorem w_ixLm (h : SqL K H p (ns.map V.int)) (h0 : 0 ≤ m) (h1 : m < ns.length) (q : ∀ n, ns[m.toNat]? = some n → Q (.int n) H) : rIxL K (.ref p) (.int m) H Q := by
  obtain ⟨n, hn, e2, e3⟩ := atI_ints h0 h1
  exact w_ixL h e2 (q n e3)
theorem w_ixLast (h : SqL K H p (ns.map V.int)) (hne : ns ≠ []) (q : ∀ init x, ns = init ++ [x] → Q (.int x) H) : rIxL K (.ref p) (.int (-1)) H Q := by
  obtain ⟨init, x, e⟩ : ∃ init x, ns = init ++ [x] := by
    exact ⟨ns.dropLast, ns.getLast hne, (List.dropLast_concat_getLast hne).symm⟩
  subst e
  refine w_ixL h ?_ (q _ _ rfl)
  rw [List.map_append]
  exact atI_last _ _
theorem w_len {r : List V} (h : SqL K H p r) (q : Q (.int r.length) H) : rLen K [.ref p] H Q := ⟨_, _, rfl, .inl ⟨r, h, rfl⟩, q⟩
theorem w_lenI (h : SqL K H p (ns.map V.int)) (q : Q (.int ns.length) H) : rLen K [.ref p] H Q := w_len h (by rw [List.length_map]; exact q)
theorem w_append {y : V} (h : H p = some (.lst xs)) (hz : xs.length < sizeLine) (q : Q .non (upd H p (.lst (xs ++ [y])))) : rAppend (.ref p) [y] H Q := ⟨p, xs, y, rfl, rfl, h, hz, q⟩
theorem w_appendI {y : Int} (h : H p = some (.lst (ns.map V.int))) (hz : ns.length < 16777216) (q : Q .non (upd H p (.lst ((ns ++ [y]).map V.int)))) : rAppend (.ref p) [.int y] H Q :=
  ⟨p, _, _, rfl, rfl, h, szlt (by rw [List.length_map]; exact hz), by rw [map_snoc]; exact q⟩
theorem w_tyL {R : Prop} (h : H p = some (.lst xs)) (q : R) : TyAnd K "list" (.ref p) H R := ⟨.inl ⟨rfl, _, SqL.of h⟩, q⟩
theorem w_max2 {i j : Int} (q : Q (.int (if j > i then j else i)) H) : rMax2 [.int i, .int j] H Q := ⟨i, j, rfl, q⟩
theorem w_min2 {i j : Int} (q : Q (.int (if j < i then j else i)) H) : rMin2 [.int i, .int j] H Q := ⟨i, j, rfl, q⟩
theorem w_abs {i : Int} (q : Q (.int (if i < 0 then -i else i)) H) : rAbs [.int i] H Q := ⟨i, rfl, q⟩
theorem w_sum (h : SqL K H p (ns.map V.int)) (q : Q (.int ns.sum) H) : rSum K [.ref p] H Q := ⟨p, ns, rfl, h, q⟩
theorem w_maxL (h : SqL K H p (ns.map V.int)) (h0 : 0 < ns.length) (q : ∀ m, m ∈ ns → (∀ y, y ∈ ns → y ≤ m) → Q (.int m) H) : rMax K [.ref p] H Q := ⟨p, ns, rfl, h, h0, q⟩
theorem w_minL (h : SqL K H p (ns.map V.int)) (h0 : 0 < ns.length) (q : ∀ m, m ∈ ns → (∀ y, y ∈ ns → m ≤ y) → Q (.int m) H) : rMin K [.ref p] H Q := ⟨p, ns, rfl, h, h0, q⟩
theorem w_catI {q : Addr} {ms : List Int} (h1 : H p = some (.lst (ns.map V.int))) (h2 : H q = some (.lst (ms.map V.int))) (hz : ns.length + ms.length ≤ 16777216) (k : ∀ r, H r = none → Q (.ref r) (upd H r (.lst ((ns ++ ms).map V.int)))) : rCat (.ref p) (.ref q) H Q :=
  ⟨p, q, _, _, rfl, rfl, h1, h2, szle' (by rw [List.length_map, List.length_map]; exact hz), fun r hr => by rw [← List.map_append]; exact k r hr⟩
theorem w_ixAny (h : SqL K H p xs) (h0 : 0 ≤ m) (h1 : m < xs.length) (q : ∀ v, v ∈ xs → Q v H) : rIxL K (.ref p) (.int m) H Q := by
  obtain ⟨v, hv, e, _⟩ := atI_lt h0 h1
  exact w_ixL h e (q v hv)
theorem w_catIL {q : Addr} {ys : List V} (h1 : H p = some (.lst (ns.map V.int))) (h2 : H q = some (.lst ys)) (e : ys = (unV ys).map V.int) (hz : ns.length + (unV ys).length ≤ 16777216) (k : ∀ r, H r = none → Q (.ref r) (upd H r (.lst ((ns ++ unV ys).map V.int)))) : rCat (.ref p) (.ref q) H Q :=
  w_catI h1 (by rw [← e]; exact h2) hz k
theorem w_catLI {q : Addr} {ys : List V} (h1 : H p = some (.lst ys)) (h2 : H q = some (.lst (ns.map V.int))) (e : ys = (unV ys).map V.int) (hz : (unV ys).length + ns.length ≤ 16777216) (k : ∀ r, H r = none → Q (.ref r) (upd H r (.lst ((unV ys ++ ns).map V.int)))) : rCat (.ref p) (.ref q) H Q :=
  w_catI (by rw [← e]; exact h1) h2 hz k
theorem w_repI {k : Int} (h : H p = some (.lst (ns.map V.int))) (k1 : -(2 ^ 63) ≤ k) (k2 : k < 2 ^ 63) (hz : ns.length * k.toNat ≤ 16777216) (q : ∀ r, H r = none → Q (.ref r) (upd H r (.lst ((List.replicate k.toNat (ns.map V.int)).flatten)))) : rRep (.ref p) (.int k) H Q :=
  ⟨p, k, _, rfl, rfl, h, k1, k2, szle' (by rw [List.length_map]; exact hz), fun r hr => q r hr⟩
theorem w_intI {i : Int} (q : Q (.int i) H) : rInt1 [.int i] H Q := .inl ⟨i, rfl, q⟩
theorem w_intB {k : Bool} (q : Q (.int (if k then 1 else 0)) H) : rInt1 [.bl k] H Q := .inr ⟨k, rfl, q⟩
theorem w_strI {i : Int} (h : i.natAbs.log2 < 1920) (q : Q (.str (toString i)) H) : rStrI [.int i] H Q := ⟨i, rfl, h, q⟩
theorem w_listof (h : SqL K H p xs) (q : ∀ l, H l = none → Q (.ref l) (upd H l (.lst xs))) : rListOf K [.ref p] H Q := ⟨p, xs, rfl, .inl h, q⟩
end

theorem mem_snoc {α : Type} {P : α → Prop} {xs : List α} {y : α} (h : ∀ x ∈ xs, P x) (hy : P y) : ∀ x ∈ xs ++ [y], P x := fun x hx => by
  rcases List.mem_append.mp hx with z | z
  · exact h x z
  · rw [List.mem_singleton.mp z]
    exact hy
theorem len_snoc {α : Type} {xs : List α} {y : α} {i : Nat} (h : xs.length = i) : (xs ++ [y]).length = i + 1 := by simp [h]

/-! ### data -/
section
variable {K : PySem.W.Frag} {H : Hp}
theorem dpAll_ints : ∀ ns : List Int, DpAll K H (ns.map V.int) (ns.map PyData.int)
  | [] => .nil
  | n :: ns => .cons (.int n) (dpAll_ints ns)
theorem canLay_ints : ∀ ns : List Int, PyData.canLayAll0 (ns.map PyData.int) = true
  | [] => rfl
  | n :: ns => by
    have ih := canLay_ints ns
    simp only [List.map_cons, PyData.canLayAll0, PyData.canLay0, ih, Bool.and_self]
theorem depth_ints : ∀ ns : List Int, PyData.depthAll (ns.map PyData.int) ≤ 1
  | [] => by simp [PyData.depthAll]
  | n :: ns => by
    have ih := depth_ints ns
    simp only [List.map_cons, PyData.depthAll, PyData.depth]
    omega
theorem shaped_ints (ns : List Int) : SeqAt.shaped (.list (ns.map PyData.int)) = true := by
  unfold SeqAt.shaped
  have h1 : PyData.canLay0 (.list (ns.map PyData.int)) = true := by simp only [PyData.canLay0]; exact canLay_ints ns
  have h2 : PyData.depth (.list (ns.map PyData.int)) ≤ 64 := by
    have := depth_ints ns
    simp only [PyData.depth]
    omega
  rw [h1, decide_eq_true h2]
  rfl
theorem eqvAll_ints : ∀ ns ms : List Int, PyData.eqvAll (ns.map PyData.int) (ms.map PyData.int) = decide (ns = ms)
  | [], [] => by simp [PyData.eqvAll]
  | [], m :: ms => by simp [PyData.eqvAll]
  | n :: ns, [] => by simp [PyData.eqvAll]
  | n :: ns, m :: ms => by
    simp only [List.map_cons, PyData.eqvAll, PyData.eqv, eqvAll_ints ns ms]
    by_cases h : n = m
    · subst h
      by_cases h2 : ns = ms <;> simp [h2]
    · simp [h]
theorem eqv_ints (ns ms : List Int) : PyData.eqv (.list (ns.map PyData.int)) (.list (ms.map PyData.int)) = decide (ns = ms) := by
  simp only [PyData.eqv]
  exact eqvAll_ints ns ms
theorem dp_ints {p : Addr} {ns : List Int} (h : SqL K H p (ns.map V.int)) : Dp K H (.ref p) (.list (ns.map PyData.int)) := .lst h (dpAll_ints ns)
variable {p q : Addr} {ns ms : List Int} {Q : VK}
theorem w_eqLI (h1 : SqL K H p (ns.map V.int)) (h2 : SqL K H q (ms.map V.int)) (k : Q (.bl (decide (ns = ms))) H) : rEqD K (.ref p) (.ref q) H Q :=
  ⟨_, _, dp_ints h1, dp_ints h2, shaped_ints _, shaped_ints _, by rw [eqv_ints]; exact k⟩
theorem w_neLI (h1 : SqL K H p (ns.map V.int)) (h2 : SqL K H q (ms.map V.int)) (k : Q (.bl (!decide (ns = ms))) H) : rNeD K (.ref p) (.ref q) H Q :=
  ⟨_, _, dp_ints h1, dp_ints h2, shaped_ints _, shaped_ints _, by rw [eqv_ints]; exact k⟩
theorem w_eqNil (h1 : SqL K H p (ns.map V.int)) (h2 : SqL K H q []) (k : Q (.bl (decide (ns = []))) H) : rEqD K (.ref p) (.ref q) H Q := w_eqLI (ms := []) h1 h2 k
theorem w_neNil (h1 : SqL K H p (ns.map V.int)) (h2 : SqL K H q []) (k : Q (.bl (!decide (ns = []))) H) : rNeD K (.ref p) (.ref q) H Q := w_neLI (ms := []) h1 h2 k
end

/-! ### loops -/
def ForB (g : TG) (tb : TS) (D : Ends) (σ : L2.St) : It → Hp → Prop := fun J H1 => ∃ W : Nat → Nat → L2.St → Hp → Prop, (∃ m, W 0 m σ H1) ∧ ∀ i m σ H, W i m σ H →
  (J.stop i H ∧ D.nx σ H) ∨ (J.go i H ∧ ∃ N : L2.St → Hp → Prop, (∀ σ' H', N σ' H' → ∃ m', m' < m ∧ W (i + 1) m' σ' H') ∧ ∀ x H', J.yld i H x H' → g x σ H' fun σ2 H2 => tb { D with nx := N, ct := N, bk := D.nx } σ2 H2)
/-- y is appended to the new list at L, then N -/
def AppE (L : Addr) (N : Hp → Prop) : V → Hp → Prop := fun y H4 => ∃ acc, H4 L = some (.lst acc) ∧ acc.length < sizeLine ∧ N (upd H4 L (.lst (acc ++ [y])))
def LcB (g : TG) (tt : TT) (te : TE) (vs : List Nat) (σ : L2.St) (Q : VK) : It → Hp → Prop := fun J H1 => ∀ D, H1 D = none → ∃ W : Nat → Nat → Hp → Prop, (∃ m, W 0 m (upd H1 D (.lst []))) ∧ ∀ i m H, W i m H →
  (J.stop i H ∧ Q (.ref D) H) ∨ (J.go i H ∧ ∃ Nx : Hp → Prop, (∀ H', Nx H' → ∃ m', m' < m ∧ W (i + 1) m' H') ∧ ∀ x H', J.yld i H x H' → g x (wipe σ vs) H' fun σ2 H2 => wipe σ2 vs = wipe σ vs ∧ tt σ2 H2 fun b H3 =>
    if b = true then te σ2 H3 (AppE D Nx) else Nx H3)
section
variable {K : PySem.W.Frag} {σ : L2.St} {H : Hp} {D : Ends} {wi : TI} {g : TG} {tb : TS} {tt : TT} {te tl : TE} {ta : TA} {vs : List Nat} {Q : VK} {R : It → Hp → Prop} {a : Addr} {xs : List V} {lo j : Int} {n : Nat}
theorem w_for (h : wi σ H (ForB g tb D σ)) : tFor wi g tb D σ H := h
theorem w_lc (h : wi σ H (LcB g tt te vs σ Q)) : tLc wi g tt te vs σ H Q := h
def LstE (K : PySem.W.Frag) (R : It → Hp → Prop) : V → Hp → Prop := fun x H1 => ∃ a, x = .ref a ∧ (∃ xs, SqL K H1 a xs) ∧ R (Itl K a) H1
def Rng1E (R : It → Hp → Prop) : List V → Hp → Prop := fun vs H1 => ∃ j : Int, vs = [.int j] ∧ -(2 ^ 62) ≤ j ∧ j < 2 ^ 62 ∧ R (Itr 0 j.toNat) H1
def Rng2E (R : It → Hp → Prop) : List V → Hp → Prop := fun vs H1 => ∃ i j : Int, vs = [.int i, .int j] ∧ (-(2 ^ 62) ≤ i ∧ i < 2 ^ 62 ∧ -(2 ^ 62) ≤ j ∧ j < 2 ^ 62) ∧ R (Itr i (j - i).toNat) H1
theorem w_iList (h : tl σ H (LstE K R)) : iList K tl σ H R := h
theorem w_iListE (h : SqL K H a xs) (q : R (Itl K a) H) : LstE K R (.ref a) H := ⟨a, rfl, ⟨xs, h⟩, q⟩
theorem w_rng1 (h : ta σ H (Rng1E R)) : iRng1 ta σ H R := h
theorem w_rng1E (h1 : -(2 ^ 62) ≤ j) (h2 : j < 2 ^ 62) (q : R (Itr 0 j.toNat) H) : Rng1E R [.int j] H := ⟨j, rfl, h1, h2, q⟩
theorem w_rng2 (h : ta σ H (Rng2E R)) : iRng2 ta σ H R := h
theorem w_rng2E (h1 : -(2 ^ 62) ≤ lo ∧ lo < 2 ^ 62 ∧ -(2 ^ 62) ≤ j ∧ j < 2 ^ 62) (q : R (Itr lo (j - lo).toNat) H) : Rng2E R [.int lo, .int j] H := ⟨lo, j, rfl, h1, q⟩
theorem f_range (Pv : Nat → L2.St → Hp → Prop) (h0 : Pv 0 σ H) (hs : ∀ i σ H, i < n → Pv i σ H → g (.int (lo + i)) σ H fun σ2 H2 => tb { D with nx := Pv (i + 1), ct := Pv (i + 1), bk := D.nx } σ2 H2) (hd : ∀ σ H, Pv n σ H → D.nx σ H) :
    ForB g tb D σ (Itr lo n) H := for_range Pv h0 hs hd
theorem f_list (xs : List V) (Pv : Nat → L2.St → Hp → Prop) (h0 : Pv 0 σ H) (hl : ∀ i σ H, i ≤ xs.length → Pv i σ H → SqL K H a xs) (hs : ∀ i x σ H, xs[i]? = some x → Pv i σ H → g x σ H fun σ2 H2 => tb { D with nx := Pv (i + 1), ct := Pv (i + 1), bk := D.nx } σ2 H2) (hd : ∀ σ H, Pv xs.length σ H → D.nx σ H) :
    ForB g tb D σ (Itl K a) H := for_list Pv h0 hl hs hd
theorem f_tup (xs : List V) (Pv : Nat → L2.St → Hp → Prop) (h0 : Pv 0 σ H) (hl : ∀ i σ H, i ≤ xs.length → Pv i σ H → SqT K H a xs) (hs : ∀ i x σ H, xs[i]? = some x → Pv i σ H → g x σ H fun σ2 H2 => tb { D with nx := Pv (i + 1), ct := Pv (i + 1), bk := D.nx } σ2 H2) (hd : ∀ σ H, Pv xs.length σ H → D.nx σ H) :
    ForB g tb D σ (Itt K a) H := for_tup Pv h0 hl hs hd
/-- enumerate: each turn a new pair -/
theorem f_enum (xs : List V) (Pv : Nat → L2.St → Hp → Prop) (h0 : Pv 0 σ H) (hl : ∀ i σ H, i ≤ xs.length → Pv i σ H → SqL K H a xs)
    (hs : ∀ (i : Nat) (x : V) (T : Addr) (σ : L2.St) (H : Hp), xs[i]? = some x → Pv i σ H → H T = none → g (.ref T) σ (upd H T (.tup [.int (i : Nat), x])) fun σ2 H2 => tb { D with nx := Pv (i + 1), ct := Pv (i + 1), bk := D.nx } σ2 H2) (hd : ∀ σ H, Pv xs.length σ H → D.nx σ H) :
    ForB g tb D σ (Ite K a) H := by
  refine ⟨fun i m σ H => m = xs.length - i ∧ i ≤ xs.length ∧ Pv i σ H, ⟨xs.length, by simp, Nat.zero_le _, h0⟩, ?_⟩
  rintro i m σ H ⟨rfl, hi, p⟩
  have q := hl i σ H hi p
  by_cases hlt : i < xs.length
  · refine .inr ⟨⟨xs, xs[i], q, by simp [hlt]⟩, Pv (i + 1), fun σ' H' p' => ⟨xs.length - (i + 1), by omega, rfl, hlt, p'⟩, fun x H' y => ?_⟩
    obtain ⟨T, x', rfl, hT, rfl, f1⟩ := y
    exact hs i x' T σ H (f1 xs q) p hT
  · have e : i = xs.length := by omega
    subst e
    exact .inl ⟨⟨xs, q, Nat.le_refl _⟩, hd σ H p⟩
theorem f_zip {b : Addr} (xs ys : List V) (hl : xs.length = ys.length) (Pv : Nat → L2.St → Hp → Prop) (h0 : Pv 0 σ H) (hq : ∀ i σ H, Pv i σ H → SqL K H a xs ∧ SqL K H b ys)
    (hs : ∀ (i : Nat) (x y : V) (T : Addr) (σ : L2.St) (H : Hp), xs[i]? = some x → ys[i]? = some y → Pv i σ H → H T = none → g (.ref T) σ (upd H T (.tup [x, y])) fun σ2 H2 => tb { D with nx := Pv (i + 1), ct := Pv (i + 1), bk := D.nx } σ2 H2) (hd : ∀ σ H, Pv xs.length σ H → D.nx σ H) :
    ForB g tb D σ (Itz K a b) H := by
  refine ⟨fun i m σ H => m = xs.length - i ∧ i ≤ xs.length ∧ Pv i σ H, ⟨xs.length, rfl, Nat.zero_le _, h0⟩, ?_⟩
  rintro i m σ H ⟨rfl, hi, p⟩
  obtain ⟨qx, qy⟩ := hq i σ H p
  by_cases hlt : i < xs.length
  · have hx : xs[i]? = some xs[i] := List.getElem?_eq_getElem hlt
    have hlt2 : i < ys.length := by omega
    have hy : ys[i]? = some ys[i] := List.getElem?_eq_getElem hlt2
    refine .inr ⟨⟨xs, ys, _, _, qx, qy, hx, hy⟩, Pv (i + 1), fun σ' H' p' => ⟨xs.length - (i + 1), by omega, rfl, hlt, p'⟩, fun v H' y => ?_⟩
    obtain ⟨T, x', y', rfl, hT, rfl, f1, f2⟩ := y
    exact hs i x' y' T σ H (f1 xs qx) (f2 ys qy) p hT
  · have e : i = xs.length := by omega
    subst e
    exact .inl ⟨⟨xs, ys, qx, qy, Or.inl (Nat.le_refl _)⟩, hd σ H p⟩
def EnuE (K : PySem.W.Frag) (R : It → Hp → Prop) : List V → Hp → Prop := fun vs H1 => ∃ a xs, vs = [.ref a] ∧ SqL K H1 a xs ∧ R (Ite K a) H1
theorem w_enum (h : ta σ H (EnuE K R)) : iEnum K ta σ H R := h
theorem w_enumE (h : SqL K H a xs) (q : R (Ite K a) H) : EnuE K R [.ref a] H := ⟨a, xs, rfl, h, q⟩
def ZipE (K : PySem.W.Frag) (R : It → Hp → Prop) : List V → Hp → Prop := fun vs H1 => ∃ a b xs ys, vs = [.ref a, .ref b] ∧ SqL K H1 a xs ∧ SqL K H1 b ys ∧ R (Itz K a b) H1
theorem w_zip (h : ta σ H (ZipE K R)) : iZip K ta σ H R := h
theorem w_zipE {b : Addr} {ys : List V} (h : SqL K H a xs) (h2 : SqL K H b ys) (q : R (Itz K a b) H) : ZipE K R [.ref a, .ref b] H := ⟨a, b, xs, ys, rfl, h, h2, q⟩
theorem w_gTup {k : Nat} {t : TGs} {Q : L2.St → Hp → Prop} (h : SqT K H a xs) (e : xs.length = k) (q : t xs σ H Q) : gTup K k t (.ref a) σ H Q := ⟨a, xs, rfl, h, e, q⟩
theorem w_gLst {k : Nat} {t : TGs} {Q : L2.St → Hp → Prop} (h : SqL K H a xs) (e : xs.length = k) (q : t xs σ H Q) : gLst K k t (.ref a) σ H Q := ⟨a, xs, rfl, h, e, q⟩
theorem w_gNil {Q : L2.St → Hp → Prop} (q : Q σ H) : gNil [] σ H Q := ⟨rfl, q⟩
theorem w_gCons {v : V} {r : List V} {u : TGs} {Q : L2.St → Hp → Prop} (q : g v σ H fun σ' H' => u r σ' H' Q) : gCons g u (v :: r) σ H Q := ⟨v, r, rfl, q⟩
theorem l_range (Pv : Addr → Nat → Hp → Prop) (h0 : ∀ L, H L = none → Pv L 0 (upd H L (.lst []))) (hs : ∀ L i H', H L = none → i < n → Pv L i H' → g (.int (lo + i)) (wipe σ vs) H' fun σ2 H2 => wipe σ2 vs = wipe σ vs ∧ tt σ2 H2 fun b H3 => if b = true then te σ2 H3 (AppE L (Pv L (i + 1))) else Pv L (i + 1) H3)
    (hd : ∀ L H', H L = none → Pv L n H' → Q (.ref L) H') : LcB g tt te vs σ Q (Itr lo n) H := fun L hL => lc_range (Pv L) (h0 L hL) (fun i H' => hs L i H' hL) (fun H' => hd L H' hL)
theorem l_list (xs : List V) (Pv : Addr → Nat → Hp → Prop) (h0 : ∀ L, H L = none → Pv L 0 (upd H L (.lst []))) (hl : ∀ L i H', H L = none → i ≤ xs.length → Pv L i H' → SqL K H' a xs) (hs : ∀ L i x H', H L = none → xs[i]? = some x → Pv L i H' → g x (wipe σ vs) H' fun σ2 H2 => wipe σ2 vs = wipe σ vs ∧ tt σ2 H2 fun b H3 => if b = true then te σ2 H3 (AppE L (Pv L (i + 1))) else Pv L (i + 1) H3)
    (hd : ∀ L H', H L = none → Pv L xs.length H' → Q (.ref L) H') : LcB g tt te vs σ Q (Itl K a) H := fun L hL => lc_list (Pv L) (h0 L hL) (fun i H' => hl L i H' hL) (fun i x H' => hs L i x H' hL) (fun H' => hd L H' hL)
theorem w_tYes {B : Bool → Hp → Prop} (h : B true H) : tYes σ H B := h
theorem w_appE {L : Addr} {N : Hp → Prop} {ys : List V} {y : V} (h : H L = some (.lst ys)) (hz : ys.length < 16777216) (q : N (upd H L (.lst (ys ++ [y])))) : AppE L N y H := ⟨ys, h, szlt hz, q⟩
theorem w_appEI {L : Addr} {N : Hp → Prop} {ys : List Int} {m : Int} (h : H L = some (.lst (ys.map V.int))) (hz : ys.length < 16777216) (q : N (upd H L (.lst ((ys ++ [m]).map V.int)))) : AppE L N (.int m) H := ⟨_, h, by rw [List.length_map]; exact szlt hz, by rw [map_snoc]; exact q⟩
theorem w_appEB {L : Addr} {N : Hp → Prop} {ys : List Bool} {m : Bool} (h : H L = some (.lst (ys.map V.bl))) (hz : ys.length < 16777216) (q : N (upd H L (.lst ((ys ++ [m]).map V.bl)))) : AppE L N (.bl m) H := ⟨_, h, by rw [List.length_map]; exact szlt hz, by rw [show ys.map V.bl ++ [V.bl m] = (ys ++ [m]).map V.bl by simp]; exact q⟩
/-- [f n for n in ints], the element leaving all as it is: target in slot j -/
theorem l_map (ns : List Int) (f : Int → Int) {j : Nat} (hx : SqL K H a (ns.map V.int)) (hj : ∀ v, wipe ((wipe σ vs).set j (some v)) vs = wipe σ vs) (hz : ns.length ≤ 16777216)
    (he : ∀ (i : Nat) (n : Int) (H' : Hp), ns[i]? = some n → Fr [] H H' → ∀ Q : VK, (∀ H2, Fr [] H' H2 → Q (.int (f n)) H2) → te ((wipe σ vs).set j (some (.int n))) H' Q)
    (k : ∀ L H', H L = none → Fr [] H H' → H' L = some (.lst ((ns.map f).map V.int)) → Q (.ref L) H') : LcB (gName j) tYes te vs σ Q (Itl K a) H := by
  refine l_list (ns.map V.int) (fun L i H' => Fr [] H H' ∧ H' L = some (.lst (((ns.take i).map f).map V.int))) (fun L hL => ⟨Fr.refl.new hL, upd_same⟩) (fun L i H' hL _ h => h.1.seqL (by simp) hx) (fun L i x H' hL e h => ?_) (fun L H' hL h => ?_)
  · obtain ⟨n, en, rfl⟩ := map_at e
    obtain ⟨h1, h2⟩ := h
    refine w_gname ⟨hj _, w_tYes (w_iteT ?_)⟩
    refine he i n H' en h1 _ fun H2 f2 => ⟨_, f2.at0 h2, ?_, ((h1.trans f2).put (.inl hL)), ?_⟩
    · rw [List.length_map, List.length_map, List.length_take]
      have q := (List.getElem?_eq_some_iff.mp en).1
      exact szlt (by omega)
    · rw [upd_same]
      have q := List.take_succ (l := ns) (i := i)
      rw [en] at q
      rw [q]
      simp
  · have e : ns.take (ns.map V.int).length = ns := by rw [List.length_map]; exact List.take_length ..
    obtain ⟨h1, h2⟩ := h
    rw [e] at h2
    exact k L H' hL h1 h2
end

/-- calls by keywords -/
def KwE (n : Nat) (ix : List Nat) (sp : Sp) (Q : VK) : List V → Hp → Prop := fun zs H => zs.length = n ∧ sp (pick ix zs) H Q E0
def MkE (C : Addr) (n : Nat) (ix : List Nat) (sp : Sp) (Q : VK) : List V → Hp → Prop := fun zs H2 => ([] : List V).length = 0 ∧ zs.length = n ∧ ∀ x dx, H2 x = none → H2 dx = none → dx ≠ x →
  sp ([.ref x] ++ pick ix zs) (upd (upd H2 dx (.own x)) x (.ins C dx [])) (fun v H3 => v = .non ∧ Q (.ref x) H3) E0
def MkwE (n : Nat) (ix : List Nat) (sp : Sp) (Q : VK) (x : V) : List V → Hp → Prop := fun zs H => zs.length = n ∧ sp (x :: pick ix zs) H Q E0
def MethKE (C : Addr) (m : Str) (n : Nat) (ix : List Nat) (sp : Sp) (tk : TA) (σ : L2.St) (Q : VK) : V → Hp → Prop := fun x H1 => ∃ a dx fs, x = .ref a ∧ H1 a = some (.ins C dx fs) ∧ fs.lookup m = none ∧ tk σ H1 (MkwE n ix sp Q x)
section
variable {σ : L2.St} {H : Hp} {n : Nat} {ix : List Nat} {sp : Sp} {Q : VK} {tk : TA} {ta : TE} {zs : List V} {C a dx : Addr} {m : Str} {fs : List (Str × V)} {x : V}
theorem w_callK0 (h : tk σ H (KwE n ix sp Q)) : tCallK0 n ix sp tk σ H Q := h
theorem w_kwE (e : zs.length = n) (q : sp (pick ix zs) H Q E0) : KwE n ix sp Q zs H := ⟨e, q⟩
theorem w_makeK (h : tk σ H (MkE C n ix sp Q)) : tMakeK C 0 n sp (fun vs zs => vs ++ pick ix zs) E0 tNil tk σ H Q := h
theorem w_mkE (e : zs.length = n) (q : ∀ x dx, H x = none → H dx = none → dx ≠ x → sp ([.ref x] ++ pick ix zs) (upd (upd H dx (.own x)) x (.ins C dx [])) (fun v H3 => v = .non ∧ Q (.ref x) H3) E0) : MkE C n ix sp Q zs H := ⟨rfl, e, q⟩
theorem w_methK (h : ta σ H (MethKE C m n ix sp tk σ Q)) : tMethK0 C m n ix sp ta tk σ H Q := h
theorem w_methKE (h : H a = some (.ins C dx fs)) (e : fs.lookup m = none) (q : tk σ H (MkwE n ix sp Q (.ref a))) : MethKE C m n ix sp tk σ Q (.ref a) H := ⟨a, dx, fs, rfl, h, e, q⟩
theorem w_mkwE (e : zs.length = n) (q : sp (x :: pick ix zs) H Q E0) : MkwE n ix sp Q x zs H := ⟨e, q⟩
end
def LenSE (K : PySem.W.Frag) (Q : VK) : V → Hp → Prop := fun x H1 => ∃ (l : Addr) (ns : List Int), x = .ref l ∧ SqL K H1 l (ns.map V.int) ∧ ns.length ≤ 4000 ∧ Q (.int ((distinct ns).length : Nat)) H1
section
variable {K : PySem.W.Frag} {σ : L2.St} {H : Hp} {ta : TE} {Q : VK} {a : Addr} {ns : List Int} {b : Bool}
theorem w_lenSet (h : ta σ H (LenSE K Q)) : tLenSetJ K ta σ H Q := h
theorem w_lenSE (h : SqL K H a (ns.map V.int)) (hl : ns.length ≤ 4000) (q : Q (.int ((distinct ns).length : Nat)) H) : LenSE K Q (.ref a) H := ⟨a, ns, rfl, h, hl, q⟩
/-- isinstance by built-in classes -/
theorem w_isi {x : V} {n : String} {t : Value} (h : TyX K H x t) (e : PySem.W.kitOne K t (.type n) = some b) (q : Q (.bl b) H) : rIsi K [x, .ty n] H Q := ⟨x, .ty n, t, .type n, b, rfl, .ty n, h, e, q⟩
theorem tyx_lst {xs : List V} (h : H a = some (.lst xs)) : TyX K H (.ref a) (.type "list") := .base (.lst h)
theorem tyx_tup {xs : List V} (h : H a = some (.tup xs)) : TyX K H (.ref a) (.type "tuple") := .base (.tup h)
def SrtKE (K : PySem.W.Frag) (b : Bool) (Q : VK) : List V → List V → Hp → Prop := fun vs zs H => rSortedKw K b [.bl b] vs zs H Q
theorem w_sortKw {t tk : TA} {r : List V → List V → Hp → VK → Prop} (h : t σ H fun vs H1 => tk σ H1 fun zs H2 => r vs zs H2 Q) : tCKw r t tk σ H Q := h
theorem w_sortedKw (h : SqL K H a (ns.map V.int)) (q : ∀ (ns' : List Int) (p : Addr), ns'.Perm ns → OrdB b ns' → H p = none → Q (.ref p) (upd H p (.lst (ns'.map V.int)))) : rSortedKw K b [.bl b] [.ref a] [.bl b] H Q := ⟨a, ns, rfl, rfl, h, q⟩
theorem w_sortedI (h : SqL K H a (ns.map V.int)) (q : ∀ (ns' : List Int) (p : Addr), ns'.Perm ns → ns'.Pairwise (· ≤ ·) → H p = none → Q (.ref p) (upd H p (.lst (ns'.map V.int)))) : rSortedI K [.ref a] H Q := ⟨a, ns, rfl, h, q⟩
theorem w_extendI {q : Addr} {ms : List Int} (h1 : H a = some (.lst (ns.map V.int))) (h2 : H q = some (.lst (ms.map V.int))) (hz : ns.length + ms.length ≤ 16777216) (k : Q .non (upd H a (.lst ((ns ++ ms).map V.int)))) : rExtend (.ref a) [.ref q] H Q :=
  ⟨a, q, _, _, rfl, rfl, h1, h2, szle' (by rw [List.length_map, List.length_map]; exact hz), by rw [← List.map_append]; exact k⟩
/-- [m] * k -/
theorem w_rep1 {k m : Int} (h : H a = some (.lst [.int m])) (k1 : -(2 ^ 63) ≤ k) (k2 : k ≤ 16777216) (q : ∀ r, H r = none → Q (.ref r) (upd H r (.lst ((List.replicate k.toNat m).map V.int)))) : rRep (.ref a) (.int k) H Q := by
  refine ⟨a, k, _, rfl, rfl, h, k1, Int.lt_of_le_of_lt k2 (by decide), szle' (by simp; omega), fun r hr => ?_⟩
  have e : (List.replicate k.toNat [V.int m]).flatten = (List.replicate k.toNat m).map V.int := by
    rw [List.map_replicate]
    generalize k.toNat = j
    induction j with
    | zero => rfl
    | succ j ih => rw [List.replicate_succ, List.flatten_cons, ih, List.replicate_succ]; rfl
  rw [e]
  exact q r hr
end
section
variable {σ : L2.St} {H : Hp} {c : TT} {tb : TS} {D : Ends}
def WhT (W : Nat → L2.St → Hp → Prop) (m : Nat) (tb : TS) (D : Ends) (σ : L2.St) (H1 : Hp) : Prop := ∃ N : L2.St → Hp → Prop, (∀ σ' H', N σ' H' → ∃ m', m' < m ∧ W m' σ' H') ∧ tb { D with nx := N, ct := N, bk := D.nx } σ H1
theorem w_while (W : Nat → L2.St → Hp → Prop) (m0 : Nat) (h0 : W m0 σ H) (hs : ∀ m σ H, W m σ H → c σ H fun b H1 => if b = true then WhT W m tb D σ H1 else D.nx σ H1) : tWhile c tb D σ H := ⟨W, ⟨m0, h0⟩, hs⟩
theorem w_whT {W : Nat → L2.St → Hp → Prop} {m : Nat} (q : tb { D with nx := fun σ' H' => ∃ m', m' < m ∧ W m' σ' H', ct := fun σ' H' => ∃ m', m' < m ∧ W m' σ' H', bk := D.nx } σ H) : WhT W m tb D σ H := ⟨_, fun _ _ h => h, q⟩
end
/-! ### joins, dicts -/
section
variable {K : PySem.W.Frag} {σ : L2.St} {H : Hp} {D : Ends} {c : TT} {t1 t2 : TS} {td ty tv ta tb te : TE} {Q : VK} {a g : Addr} {kvs kvs' : List (Key × V)} {k : Str} {v x y : V} {R : Hp → Prop} {S S' : List Addr} {H1 H2 : Hp}
/-- one continuation for both branches: I holds at their ends -/
theorem w_ifJ (I : L2.St → Hp → Prop) (h : ∀ N : L2.St → Hp → Prop, (∀ σ H, I σ H → N σ H) → tIfS c t1 t2 { D with nx := N } σ H) (k : ∀ σ H, I σ H → D.nx σ H) : tIfS c t1 t2 D σ H := h D.nx k
def DGE (x : V) (Q : VK) : V → Hp → Prop := fun y H2 => ∃ a v, x = .ref a ∧ DGet H2 a y (some v) ∧ Q v H2
theorem w_dget (h : td σ H fun x H1 => ty σ H1 (DGE x Q)) : tDGet td ty σ H Q := h
theorem w_dgetE (h : H a = some (.dK kvs)) (e : valV kvs (.inr k) = some v) (q : Q v H) : DGE (.ref a) Q (.str k) H := ⟨a, v, rfl, by rw [← e]; exact DGet.k (k := .inr k) h, q⟩
def DPE (x : V) (v : V) (R : Hp → Prop) : V → Hp → Prop := fun y H3 => ∃ a H4, x = .ref a ∧ DPut H3 a y v H4 ∧ R H4
theorem w_dput (h : tv σ H fun v H1 => td σ H1 fun x H2 => ty σ H2 (DPE x v (D.nx σ))) : sDPut td ty tv D σ H := h
theorem w_dputE (h : H a = some (.dK kvs)) (hl : kvs.length < 16777216) (e : putK kvs (.inr k) v = kvs') (q : R (upd H a (.dK kvs'))) : DPE (.ref a) v R (.str k) H := ⟨a, _, rfl, DPut.k (k := .inr k) h (szlt hl), by rw [e]; exact q⟩
def DAE (tv : TE) (rd : V → V → Hp → VK → Prop) (R : Hp → Prop) (σ : L2.St) (x : V) : V → Hp → Prop := fun y H2 => ∃ a v, x = .ref a ∧ DGet H2 a y (some v) ∧ tv σ H2 fun y2 H3 => rd v y2 H3 fun z H4 => ∃ H5, DPut H4 a y z H5 ∧ R H5
theorem w_daug {rd : V → V → Hp → VK → Prop} (h : td σ H fun x H1 => ty σ H1 (DAE tv rd (D.nx σ) σ x)) : sDAug td ty tv rd D σ H := h
theorem w_daugE {rd : V → V → Hp → VK → Prop} (h : H a = some (.dK kvs)) (e : valV kvs (.inr k) = some v) (q : tv σ H fun y2 H3 => rd v y2 H3 fun z H4 => DPE (.ref a) z R (.str k) H4) : DAE tv rd R σ (.ref a) (.str k) H := by
  refine ⟨a, v, rfl, by rw [← e]; exact DGet.k (k := .inr k) h, ?_⟩
  have e2 : (fun (y2 : V) (H3 : Hp) => rd v y2 H3 fun z H4 => DPE (.ref a) z R (.str k) H4) = fun y2 H3 => rd v y2 H3 fun z H4 => ∃ H5, DPut H4 a (.str k) z H5 ∧ R H5 := by
    funext y2 H3
    congr 1
    funext z H4
    exact propext ⟨fun ⟨b, H5, e, p, r⟩ => by cases e; exact ⟨H5, p, r⟩, fun ⟨H5, p, r⟩ => ⟨a, H5, rfl, p, r⟩⟩
  rw [← e2]
  exact q
def keysOf : List (V × V) → List (Key × V)
  | [] => []
  | (.str s, v) :: r => (.inr s, v) :: keysOf r
  | _ :: r => keysOf r
def DspE (p : Addr) (Q : VK) : List (V × V) → Hp → Prop := fun ps H2 => H2 p = some (.dK []) ∧ ∃ kvs : List (Key × V), ps = kvs.map (fun kv => (kV kv.1, kv.2)) ∧ kvs.length ≤ 15 ∧ Q (.ref p) (upd H2 p (.dK (mergeK [] kvs)))
theorem w_disp {trs : List (TE × TE)} (h : ∀ p, H p = none → tPairs trs σ (upd H p (.dK [])) (DspE p Q)) : tDisp trs σ H Q := h
theorem w_pairN {R : List (V × V) → Hp → Prop} (h : R [] H) : tPairs [] σ H R := h
theorem w_pairC {tk tv : TE} {trs : List (TE × TE)} {R : List (V × V) → Hp → Prop} (h : tk σ H fun x H1 => tv σ H1 fun y H2 => tPairs trs σ H2 fun ps H3 => R ((x, y) :: ps) H3) : tPairs ((tk, tv) :: trs) σ H R := h
theorem valV_ne {p : Key × V} {r : List (Key × V)} {k : Key} (e : ¬ p.1 = k) : valV (p :: r) k = valV r k := valV_neg e
theorem mergeK_go : ∀ (more acc : List (Key × V)), (acc.map (·.1) ++ more.map (·.1)).Nodup → mergeK acc more = acc ++ more
  | [], acc, _ => by simp [mergeK]
  | p :: r, acc, h => by
    have hp : valV acc p.1 = none := by
      cases e : valV acc p.1 with
      | none => rfl
      | some z =>
        have e2 := valV_any p.1 acc
        rw [e] at e2
        obtain ⟨q, hq, hq2⟩ := List.any_eq_true.mp (show (acc.any fun kv => decide (kv.1 = p.1)) = true from e2)
        have hq3 := of_decide_eq_true hq2
        have := (List.nodup_append.mp h).2.2 q.1 (List.mem_map.mpr ⟨q, hq, rfl⟩) p.1 (by simp)
        exact absurd hq3 this
    have e : mergeK acc (p :: r) = mergeK (putK acc p.1 p.2) r := rfl
    rw [e, putK_new _ hp, mergeK_go r (acc ++ [(p.1, p.2)]) (by simpa using h)]
    simp
theorem w_dspE {p : Addr} {ps : List (V × V)} (h : H p = some (.dK [])) (e : ps = (keysOf ps).map fun kv => (kV kv.1, kv.2)) (hl : (keysOf ps).length ≤ 15) (n : ((keysOf ps).map (·.1)).Nodup) (q : Q (.ref p) (upd H p (.dK (keysOf ps)))) : DspE p Q ps H := by
  refine ⟨h, keysOf ps, e, hl, ?_⟩
  rw [mergeK_go _ [] (by simpa using n)]
  exact q
theorem mem2a {a g : Addr} : a ∈ [a, g] := by simp
theorem mem2b {a g : Addr} : g ∈ [a, g] := by simp
theorem nn3 {b a g : Addr} (h1 : b ≠ a) (h2 : b ≠ g) : b ∉ [a, g] := by simp [h1, h2]
theorem _root_.Pg.Fr.loc2 {p q : Addr} (h : Fr S H H1) (n : H p = none) (m : H q = none) (h' : Fr [p, q] H1 H2) : Fr S H H2 := fun b o z e => by
  refine h' b o (nn3 ?_ ?_) (h b o z e)
  · intro q
    rw [q, n] at e
    cases e
  · intro q
    rw [q, m] at e
    cases e
/-! ### pop, repr, texts of ints -/
theorem w_pop0 {ns : List Int} {m : Int} (h : H a = some (.lst ((m :: ns).map V.int))) (q : Q (.int m) (upd H a (.lst (ns.map V.int)))) : rPopAt (.ref a) [.int 0] H Q := by
  refine ⟨a, _, 0, 0, .int m, rfl, rfl, h, by decide, by decide, ?_, rfl, q⟩
  simp [seqIndex?]
end
def rReprI : List V → Hp → VK → Prop := fun xs H Q => ∃ i, xs = [.int i] ∧ i.natAbs.log2 < 1920 ∧ Q (.str (toString i)) H
theorem call_reprI {X : Cx} : CallR X (.builtin "repr") rReprI := SkE.call_repr_int
theorem w_reprI {i : Int} {H : Hp} {Q : VK} (h : i.natAbs.log2 < 1920) (q : Q (.str (toString i)) H) : rReprI [.int i] H Q := ⟨i, rfl, h, q⟩
theorem log_lt {i : Int} (h : i.natAbs < 2 ^ 250) : i.natAbs.log2 < 1920 := Nat.lt_of_lt_of_le (PySem.Flt.log2_lt_of (by decide) h) (by decide)
theorem w_eqS {s t : Str} {H : Hp} {Q : VK} (q : Q (.bl (decide (s = t))) H) : rEq (.str s) (.str t) H Q := ⟨rfl, by
  have e : decide (V.str s = V.str t) = decide (s = t) := by
    by_cases z : s = t
    · subst z
      rw [decide_eq_true rfl, decide_eq_true rfl]
    · rw [decide_eq_false z, decide_eq_false fun q => z (V.str.inj q)]
  rw [e]
  exact q⟩
theorem w_neS {s t : Str} {H : Hp} {Q : VK} (q : Q (.bl (!decide (s = t))) H) : rNe (.str s) (.str t) H Q := ⟨rfl, by
  have e : decide (V.str s = V.str t) = decide (s = t) := by
    by_cases z : s = t
    · subst z
      rw [decide_eq_true rfl, decide_eq_true rfl]
    · rw [decide_eq_false z, decide_eq_false fun q => z (V.str.inj q)]
  rw [e]
  exact q⟩
/-! ### slices, counts, pops -/
def cutI (ns : List Int) (lo hi : Option Int) : List Int := (ns.drop (HT.sIx ns.length 0 lo)).take (HT.sIx ns.length ns.length hi - HT.sIx ns.length 0 lo)
theorem cutV_ints (ns : List Int) (lo hi : Option Int) : cutV (ns.map V.int) lo hi = (cutI ns lo hi).map V.int := by
  unfold cutV cutI
  rw [List.length_map, List.map_take, List.map_drop]
theorem cutI_mem {ns : List Int} {lo hi : Option Int} {x : Int} (h : x ∈ cutI ns lo hi) : x ∈ ns := List.mem_of_mem_drop (List.mem_of_mem_take h)
theorem cutI_len (ns : List Int) (lo hi : Option Int) : (cutI ns lo hi).length ≤ ns.length := by
  unfold cutI
  rw [List.length_take, List.length_drop]
  omega
theorem cutI_take (ns : List Int) (n : Nat) : cutI ns none (some (n : Int)) = ns.take n := by
  unfold cutI
  rw [HT.sIx_nat, HT.sIx_none, List.drop_zero, Nat.sub_zero]
  by_cases h : n ≤ ns.length
  · rw [Nat.min_eq_left h]
  · rw [Nat.min_eq_right (by omega), List.take_length, List.take_of_length_le (by omega)]
theorem cutI_drop (ns : List Int) (n : Nat) : cutI ns (some (n : Int)) none = ns.drop n := by
  unfold cutI
  rw [HT.sIx_nat, HT.sIx_none]
  by_cases h : n ≤ ns.length
  · rw [Nat.min_eq_left h, List.take_of_length_le (by rw [List.length_drop]; omega)]
  · rw [Nat.min_eq_right (by omega), List.drop_length, List.drop_of_length_le (by omega)]
    simp
def PartE (R : Option Int → Hp → Prop) : V → Hp → Prop := fun x H1 => ∃ i, x = .int i ∧ R (some i) H1
section
variable {K : PySem.W.Frag} {σ : L2.St} {H : Hp} {ta tb te : TE} {Q : VK} {a p : Addr} {ns ms : List Int} {xs ys : List V} {m n : Int} {v x y : V} {tl th : TO}
theorem w_sl {r : V → Option Int → Option Int → Hp → VK → Prop} (h : te σ H fun x H1 => tl σ H1 fun l H2 => th σ H2 fun u H3 => r x l u H3 Q) : tSl r te tl th σ H Q := h
theorem w_noPart {R : Option Int → Hp → Prop} (h : R none H) : tNoPart σ H R := h
theorem w_part {R : Option Int → Hp → Prop} (h : te σ H (PartE R)) : tPart te σ H R := h
theorem w_partE {R : Option Int → Hp → Prop} (h : R (some m) H) : PartE R (.int m) H := ⟨m, rfl, h⟩
theorem w_slI {lo hi : Option Int} (h : SqL K H a (ns.map V.int)) (q : ∀ p, H p = none → Q (.ref p) (upd H p (.lst ((cutI ns lo hi).map V.int)))) : rSlL K (.ref a) lo hi H Q := ⟨a, _, rfl, h, fun p hp => by rw [cutV_ints]; exact q p hp⟩
theorem w_lcount (h : SqL K H a (ns.map V.int)) (q : Q (.int (ns.count m : Nat)) H) : rCntI K (.ref a) [.int m] H Q := ⟨a, ns, m, rfl, rfl, h, q⟩
theorem w_popAt (h : H a = some (.lst (ns.map V.int))) (h0 : 0 ≤ m) (h1 : m < ns.length) (hz : ns.length ≤ 16777216) (q : ∀ n, ns[m.toNat]? = some n → Q (.int n) (upd H a (.lst ((ns.eraseIdx m.toNat).map V.int)))) : rPopAt (.ref a) [.int m] H Q := by
  obtain ⟨n, hn, e2, e3⟩ := atI_ints h0 h1
  refine ⟨a, _, m, m.toNat, .int n, rfl, rfl, h, by omega, by omega, ?_, by rw [List.getElem?_map, e3]; rfl, by rw [erase_mapI]; exact q n e3⟩
  have hneg : ¬ m < 0 := by omega
  simp only [seqIndex?, List.length_map, hneg, if_false]
  rw [if_pos]
  simp only [Bool.and_eq_true, decide_eq_true_eq]
  omega
theorem w_setLI {Q : Hp → Prop} (h : H p = some (.lst (ns.map V.int))) (h0 : 0 ≤ m) (h1 : m < ns.length) (q : Q (upd H p (.lst ((ns.set m.toNat n).map V.int)))) : rSetL (.ref p) (.int m) (.int n) H Q := by
  refine ⟨p, _, m, m.toNat, rfl, rfl, h, ?_, by rw [← List.map_set]; exact q⟩
  rw [List.length_map]
  have z : ((m.toNat : Nat) : Int) = m := Int.toNat_of_nonneg h0
  unfold ixN
  rw [if_pos h0, if_pos h1]
theorem w_catLL {q : Addr} (h1 : H p = some (.lst xs)) (h2 : H q = some (.lst ys)) (e : xs = (unV xs).map V.int) (e2 : ys = (unV ys).map V.int) (hz : (unV xs).length + (unV ys).length ≤ 16777216) (k : ∀ r, H r = none → Q (.ref r) (upd H r (.lst ((unV xs ++ unV ys).map V.int)))) : rCat (.ref p) (.ref q) H Q :=
  w_catI (by rw [← e]; exact h1) (by rw [← e2]; exact h2) hz k
theorem w_isN (q : Q (.bl (decide (x = .non))) H) : rIsN x .non H Q := ⟨rfl, q⟩
theorem w_notN (q : Q (.bl (!decide (x = .non))) H) : rNotN x .non H Q := ⟨rfl, q⟩
theorem w_isNN (q : Q (.bl true) H) : rIsN .non .non H Q := ⟨rfl, q⟩
theorem w_isNI (q : Q (.bl false) H) : rIsN (.int m) .non H Q := ⟨rfl, q⟩
theorem w_isNR (q : Q (.bl false) H) : rIsN (.ref a) .non H Q := ⟨rfl, q⟩
theorem w_notNN (q : Q (.bl false) H) : rNotN .non .non H Q := ⟨rfl, q⟩
theorem w_notNI (q : Q (.bl true) H) : rNotN (.int m) .non H Q := ⟨rfl, q⟩
theorem w_notNR (q : Q (.bl true) H) : rNotN (.ref a) .non H Q := ⟨rfl, q⟩
def OrE (K : PySem.W.Frag) (tb : TE) (σ : L2.St) (Q : VK) : V → Hp → Prop := fun x H1 => ∃ k, TruV K x H1 k ∧ if k = true then Q x H1 else tb σ H1 Q
theorem w_orT (h : ta σ H (OrE K tb σ Q)) : tOrT K ta tb σ H Q := h
theorem w_orN (h : tb σ H Q) : OrE K tb σ Q .non H := ⟨false, rfl, w_iteF h⟩
theorem w_orI (h0 : m ≠ 0) (h : Q (.int m) H) : OrE K tb σ Q (.int m) H := ⟨true, by show true = _; simp [h0], w_iteT h⟩
theorem w_appV (h : H p = some (.lst xs)) (hz : xs.length < 16777216) (q : Q .non (upd H p (.lst (xs ++ [y])))) : rAppend (.ref p) [y] H Q := w_append h (szlt hz) q
theorem w_rep3 (h : H a = some (.lst [v])) (q : ∀ r, H r = none → Q (.ref r) (upd H r (.lst [v, v, v]))) : rRep (.ref a) (.int 3) H Q :=
  ⟨a, 3, _, rfl, rfl, h, by decide, by decide, szle rfl, fun r hr => q r hr⟩
end
theorem cmulW {i j : Int} {a b : Nat} (ha : i.natAbs < 2 ^ a) (hb : j.natAbs < 2 ^ b) (h : a + b < 1000000) (ha0 : 0 < a) (hb0 : 0 < b) : CMulW i j := by
  have h1 := PySem.Flt.log2_lt_of ha0 ha
  have h2 := PySem.Flt.log2_lt_of hb0 hb
  show i.natAbs.log2 + j.natAbs.log2 < 1000000
  omega
section
variable {σ : L2.St} {H : Hp} {ta tb : TE} {Q : VK} {b : Bool}
theorem w_andV (h : ta σ H fun x H1 => ∃ c, x = .bl c ∧ if c = true then tb σ H1 Q else Q (.bl false) H1) : tAndV ta tb σ H Q := h
theorem w_orV (h : ta σ H fun x H1 => ∃ c, x = .bl c ∧ if c = true then Q (.bl true) H1 else tb σ H1 Q) : tOrV ta tb σ H Q := h
theorem w_notV (h : ta σ H fun x H1 => ∃ c, x = .bl c ∧ Q (.bl (!c)) H1) : tNotV ta σ H Q := h
end
/-! ### range(i, j, -1), slices with a step -/
def Rng3E (R : It → Hp → Prop) : List V → Hp → Prop := fun vs H1 => ∃ (i j c : Int) (n : Nat), vs = [.int i, .int j, .int c] ∧ RgC i j c n ∧ R (Itc i c n) H1
section
variable {K : PySem.W.Frag} {σ : L2.St} {H : Hp} {D : Ends} {ta : TA} {R : It → Hp → Prop} {g : TG} {tb : TS} {te : TE} {tl ts : TO} {Q : VK} {a : Addr} {ns : List Int} {n : Nat} {i c : Int} {lo st : Option Int} {x : V}
theorem w_rng3 (h : ta σ H (Rng3E R)) : iRng3 ta σ H R := h
theorem f_rangeC (Pv : Nat → L2.St → Hp → Prop) (h0 : Pv 0 σ H) (hs : ∀ k σ H, k < n → Pv k σ H → g (.int (i + (k : Nat) * c)) σ H fun σ2 H2 => tb { D with nx := Pv (k + 1), ct := Pv (k + 1), bk := D.nx } σ2 H2) (hd : ∀ σ H, Pv n σ H → D.nx σ H) :
    ForB g tb D σ (Itc i c n) H := for_rangeC Pv h0 hs hd
def SlsE (K : PySem.W.Frag) (Q : VK) (x : V) (lo : Option Int) : Option Int → Hp → Prop := fun st H3 => ∃ a xs, x = .ref a ∧ SqL K H3 a xs ∧ st ≠ some 0 ∧ (pickSl xs lo st).length ≤ sizeLine ∧ ∀ p, H3 p = none → Q (.ref p) (upd H3 p (.lst (pickSl xs lo st)))
theorem w_sls (h : te σ H fun x H1 => tl σ H1 fun lo H2 => ts σ H2 (SlsE K Q x lo)) : tSlStep K te tl ts σ H Q := h
theorem pickSl_map (ns : List Int) : pickSl (ns.map V.int) lo st = (pickSl ns lo st).map V.int := by
  unfold pickSl
  rw [List.length_map, List.map_filterMap]
  congr 1
  funext k
  rw [List.getElem?_map]
theorem w_slsE (h : SqL K H a (ns.map V.int)) (h0 : st ≠ some 0) (hz : (pickSl ns lo st).length ≤ 16777216) (q : ∀ p, H p = none → Q (.ref p) (upd H p (.lst ((pickSl ns lo st).map V.int)))) : SlsE K Q (.ref a) lo st H :=
  ⟨a, _, rfl, h, h0, by rw [pickSl_map, List.length_map]; exact szle' hz, fun p hp => by rw [pickSl_map]; exact q p hp⟩
end
theorem w_rng3N {H : Hp} {R : It → Hp → Prop} {i j : Int} (h : -(2 ^ 62) ≤ i ∧ i < 2 ^ 62 ∧ -(2 ^ 62) ≤ j ∧ j < 2 ^ 62) (q : R (Itc i (-1) (i - j).toNat) H) : Rng3E R [.int i, .int j, .int (-1)] H :=
  ⟨i, j, -1, _, rfl, RgC.neg h.1 h.2.1 h.2.2.1 h.2.2.2, q⟩
theorem w_appendR {H : Hp} {Q : VK} {p y : Addr} {ps : List Addr} (h : H p = some (.lst (ps.map V.ref))) (hz : ps.length < 16777216) (q : Q .non (upd H p (.lst ((ps ++ [y]).map V.ref)))) : rAppend (.ref p) [.ref y] H Q :=
  w_append h (by rw [List.length_map]; exact szlt hz) (by rw [show ps.map V.ref ++ [V.ref y] = (ps ++ [y]).map V.ref by simp]; exact q)
section
variable {K : PySem.W.Frag} {σ : L2.St} {H : Hp} {te : TE} {Q : VK} {a : Addr} {ns : List Int}
def RevE (K : PySem.W.Frag) (Q : VK) : V → Hp → Prop := fun x H1 => ∃ a xs, x = .ref a ∧ SqL K H1 a xs ∧ ∀ p, H1 p = none → Q (.ref p) (upd H1 p (.lst xs.reverse))
theorem w_revL (h : te σ H (RevE K Q)) : tRevL K te σ H Q := h
theorem w_revE (h : SqL K H a (ns.map V.int)) (q : ∀ p, H p = none → Q (.ref p) (upd H p (.lst (ns.reverse.map V.int)))) : RevE K Q (.ref a) H := ⟨a, _, rfl, h, fun p hp => by rw [← List.map_reverse]; exact q p hp⟩
end
theorem w_whileJ {c : TT} {tb : TS} {D : Ends} {σ : L2.St} {H : Hp} (I : L2.St → Hp → Prop) (h : ∀ N : L2.St → Hp → Prop, (∀ σ H, I σ H → N σ H) → tWhile c tb { D with nx := N } σ H) (k : ∀ σ H, I σ H → D.nx σ H) : tWhile c tb D σ H := h D.nx k
theorem w_appER {L R : Addr} {N : Hp → Prop} {rs : List Addr} {H : Hp} (h : H L = some (.lst (rs.map V.ref))) (hz : rs.length < 16777216) (q : N (upd H L (.lst ((rs ++ [R]).map V.ref)))) : AppE L N (.ref R) H := ⟨_, h, by rw [List.length_map]; exact szlt hz, by rw [show rs.map V.ref ++ [V.ref R] = (rs ++ [R]).map V.ref by simp]; exact q⟩
end Pg

namespace Pg
open PySem PySem.Spec PyProof.Rows L2
/-! ### defs that are run where no repr is under way -/
structure FnG (P : Program) (w : World) (K : PySem.W.Frag) (mg : Str → Option Value) (base : Heap) (k : Nat) (f : Addr) (fd : FuncData) (ps : List Str) (sp : Sp) : Prop where
  len : ∀ vs H Q E, sp vs H Q E → vs.length = ps.length
  run : ∀ (A : Around) (outer : List Env) (s : Shared) (H : Hp) (args : Args) (us : List Value) (vs : List V) (Q : VK) (E : XK), Room k A → A.guards = some [] → Env0 P w K mg base A outer s H →
    BindsTo s fd args (ps.zip us) → Vals vs us → sp vs H Q E → codeAny (model P w) A (.call (.ref f) args) (CR CX0 outer P w H s Q E) s
structure GefAt (P : Program) (w : World) (K : PySem.W.Frag) (mg : Str → Option Value) (base : Heap) (x : Str) (st : Stmt) (k : Nat) (ps : List Str) (sp : Sp) : Prop where
  ex : ∃ f fd, mg x = some (.ref f) ∧ Fun K x x st f fd ∧ FnG P w K mg base k f fd ps sp ∧ Binds K fd ps []
section
variable {P : Program} {w : World} {K : PySem.W.Frag} {mg : Str → Option Value} {base : Heap} {x : Str} {st : Stmt} {k : Nat} {ps N : List Str} {sp : Sp}
theorem CE.of_inv {qual : Str} {scope : Scope} {f : Addr} {cd : Value} {A : Around} {outer : List Env} {s s' : Shared} {H H' : Hp} {E : XK} {σ : L2.St} {v : V} {u : Value} {Q : VK}
    (J : Inv (cxOf CX0 P w K mg base N qual scope f cd A outer s H E) [] σ H' s') (r : RelV v u) (q : Q v H') : CE outer P w H s Q u s' := ⟨v, H', J.os, J.bare, J.base, J.hok, r, q⟩
/-- a def by its body, which may look at what is under way -/
theorem FunAt.okG (F : FunAt K mg x st) (S : FnScope N ps (defScope st)) (len : ∀ vs H Q E, sp vs H Q E → vs.length = ps.length)
    (hb : ∀ (kV doc pm : Value) (an : Option Addr) (cdv ct : Value) (us : List Value), us.length = ps.length → bindArgs (PySem.W.fnOf x x (defArgs st) (defBody st) (defScope st) .none kV doc pm an cdv ct) ⟨us, []⟩ = pure (ps.zip us))
    (hbody : ∀ (f : Addr) (cdv : Value) (A : Around) (outer : List Env) (s : Shared) (H : Hp) (vs : List V) (Q : VK) (E : XK), Room k (A.deeper (envOfC x (defScope st) s.heap.objs.size f cdv)) → (A.deeper (envOfC x (defScope st) s.heap.objs.size f cdv)).guards = some [] → sp vs H Q E →
      ∃ t, PSs (cxOf CX0 P w K mg base N x (defScope st) f cdv A outer s H E).nox (defBody st) t ∧ t { nx := fun _ H' => Q .non H', rt := Q } (start N vs) H) : GefAt P w K mg base x st (k + 1) ps sp := by
  obtain ⟨f, fd, hm, F⟩ := F.ex
  refine ⟨f, fd, hm, F, ⟨len, ?_⟩, F.binds hb⟩
  obtain ⟨oc, od, kV, doc, pm, an, cdv, ct, osl, rfl, lk, hcd⟩ := F.ex
  intro A outer s H args us vs Q E hr hg e0 bt rv hsp
  have there : ∀ b o, base.get? b = some o → s.heap.get? b = some o := fun b o e => (e0.bs b o e).1
  have hK := e0.mod.kin.keeps there
  have hlim := e0.mod.nolimit.keeps there
  have kinds : ∀ y ∈ ps.zip us, (defScope st).names.lookup y.1 = some .local ∨ ((defScope st).names.lookup y.1 = some .cell ∧ ((cellsFrom (s.heap.objs.size + 1) (defScope st).names []).lookup y.1).isSome = true) := by
    rintro ⟨n, v⟩ hy
    cases S.par n (List.of_mem_zip hy).1 with
    | inl q => exact .inl q
    | inr q => exact .inr ⟨q, PySem.W.cellsFrom_some _ _ _ (.inl q)⟩
  obtain ⟨t, ht, hq⟩ := hbody f cdv A outer s H vs Q E (hr.deeper _) hg hsp
  have ht := ht.nox
  apply codeAny_call_function hr.depth (hK _ _ lk) rfl S.co S.gen rfl (PySem.W.codeRec_of hK hcd)
  apply bt
  apply wpAny_newFunctionEnv_cells S.kind kinds
  rintro env rfl s1 ic
  refine ⟨hlim.keeps ic.toInCall.keep, codeAny_func ?_⟩
  have I := inv_start (CX := CX0) (P := P) (w := w) (K := K) (mg := mg) (base := base) (E := E) S hr.hd e0 (len _ _ _ _ hsp) rv ic
  refine wpAny_mono (ht.run [] s1 (start N vs) H _ I hq) ?_ (fun _ _ z => z)
  intro fl s' hs
  match fl, hs with
  | .ret u, ⟨v, σ', H', J, r, q⟩ => exact CE.of_inv J r q
  | .next, ⟨σ', H', J, q⟩ => exact CE.of_inv (v := V.non) (u := Value.none) J rfl q
  | .brk, ⟨_, _, _, q⟩ => exact q.elim
  | .cont, ⟨_, _, _, q⟩ => exact q.elim
end
section
variable {X : Cx} {x : Str} {st : Stmt} {k : Nat} {ps : List Str} {sp : Sp} {e : Expr} {es : List Expr} {t : TA} {p pos : Pos}
theorem pe_callG (D : GefAt X.prog X.w X.K X.mg X.base x st k ps sp) (hr : Room k X.A) (gu : X.A.guards = some []) (ha : PA X (e :: es) t) (hg : Gl X x := by rfl)
    (hdb : (x == ("__debug__" : Str)) = false := by decide) (he : starEach (e :: es) X.env = (false, eval e X.env) :: starEach es X.env := by rfl) (hpl : (backTo pos (starEach es X.env)).any (·.1) = false := by rfl) :
    PE X (.Call (.Name x p) (e :: es) [] pos) (tCall sp [] E0 t) := by
  obtain ⟨f, fd, hm, F, G, b⟩ := D.ex
  constructor
  intro pins s σ H Q I h
  apply wpAny_Call_Name_kw (ld_glob I hg hm ?_ hdb)
  apply PySem.W.callWith_K (h₀ := X.base) I.ok.mod.kin F.kp ?_ he hpl
  refine thn (ha.run pos pins s σ H _ I h) ?_
  rintro us s1 ⟨vs, H1, I1, r, q⟩
  refine ⟨I1.kIn, wpAny_call (codeAny_mono (G.run X.A X.stack s1 H1 ⟨us, []⟩ (us ++ []) (vs ++ []) Q E0 hr gu I1.env0 (b s1 us I1.kIn ?_) (r.append .nil) q) ?_)⟩
  · rw [← (r.append (Paired.nil : Vals [] [])).length]
    exact G.len _ _ _ _ q
  · intro rr s' hq
    match rr, hq with
    | .error e, hq => exact (pass0 (X := X) pins σ H1 s1 e s' I1 hq)
    | .ok (.ret u), hq => exact I1.after hq
    | .ok .next, hq => exact hq.elim
    | .ok .brk, hq => exact hq.elim
    | .ok .cont, hq => exact hq.elim
end
/-! ### repr of data -/
def rReprD (K : PySem.W.Frag) : List V → Hp → VK → Prop := fun xs H Q => ∃ (a : Addr) (d : PyData), xs = [.ref a] ∧ Dp K H (.ref a) d ∧ d.showable = true ∧ SeqAt.shaped d = true ∧ d.shown.length ≤ sizeLine ∧ Q (.str d.shown) H
theorem call_reprD {X : Cx} (hg : X.A.guards = some []) (hu : X.A.units + 100 < cLine) : CallR X (.builtin "repr") (rReprD X.K) := by
  intro pins s σ H xs us Q I r h
  obtain ⟨a, d, rfl, hd, hs, hsh, hz, q⟩ := h
  obtain ⟨u, rfl, ru⟩ := vals1 r
  obtain ⟨as, r1⟩ := Dp.reads I d _ u hd ru
  cases ru
  have hsh' : (PyData.canLay0 d && decide (PyData.depth d ≤ 64)) = true := hsh
  obtain ⟨c1, c2⟩ := Bool.and_eq_true_iff.mp hsh'
  have c3 := of_decide_eq_true c2
  refine repr_of_reads' r1 hs (PyData.noDict_hsm (PyData.hasDict_of_canLay d c1)) hg (by omega) (fun _ _ e => e) (fun h' u tk hk => ?_) hz
  exact ⟨.str _, H, I.kept (t' := tk) fun b o e => hk b o e, ⟨_, rfl⟩, q⟩
theorem gu_of {k : Nat} {A : Around} (r : Room k A) : A.units + 100 < cLine := by have := r.un; omega
/-! ### the end -/
def scr (K : PySem.W.Frag) (a : Addr) (ob : Obj) (xs : List V) : Hp := fun b => if b = a ∧ K.lookup a = none then some (.frz ob (.lst xs)) else none
theorem scr_cases (K : PySem.W.Frag) (a : Addr) (ob : Obj) (xs : List V) (b : Addr) : scr K a ob xs b = none ∨ (b = a ∧ K.lookup a = none ∧ scr K a ob xs b = some (.frz ob (.lst xs))) := by
  by_cases h : b = a ∧ K.lookup a = none
  · exact .inr ⟨h.1, h.2, if_pos h⟩
  · exact .inl (if_neg h)
theorem law_callG {P : Program} {w : World} {K : PySem.W.Frag} {mg mb : Str → Option Value} {k : Nat} {fa a : Addr} {fd : FuncData} {x : Str} {sp : Sp} {s₁ : Shared} {vs : List Value} {ns : List Int}
    (KX : K.In s₁.heap) (hns : s₁.heap.Ns mainGlobals mg) (hb : s₁.heap.Ns builtinsNs mb) (hbb : ∀ x : Str, x ≠ "__name__" → mb x = bootBuiltins x) (hlim : s₁.heap.NoLimit) (hg : s₁.gens = #[])
    (ha : s₁.heap.get? a = some { cls := .type "list", data := .seq vs.toArray }) (hi : IntsAre vs ns) (hl : ns.length ≤ sizeLine) (hr : Room k callerA)
    (F : ∀ base : Heap, K.In base → base.Ns mainGlobals mg → FnG P w K mg base k fa fd [x] sp) (hbind : ∀ (s : Shared) (u : Value), BindsTo s fd ⟨[u], []⟩ [(x, u)])
    (hsp : ∀ H : Hp, SqL K H a (ns.map V.int) → sp [.ref a] H (fun v _ => v = .bl true) fun _ _ _ => False) :
    codeAny (model P w) callerA (.call (.ref fa) ⟨[.ref a], []⟩) (fun r s' => r = .ok (.ret (.bool true)) ∧ OldK s₁.heap s'.heap ∧ s'.os = s₁.os ∧ AllBare s'.gens) s₁ := by
  have rv := vals_ints hi
  let ob : Obj := { cls := .type "list", data := .seq vs.toArray }
  let H : Hp := scr K a ob (ns.map V.int)
  have cs := scr_cases K a ob (ns.map V.int)
  have hok : HOk P w H s₁.heap := by
    intro b u z
    rcases cs b with q | ⟨rfl, _, q⟩
    · rw [show H b = none from q] at z
      cases z
    · rw [show H b = _ from q] at z
      cases z
      exact ⟨ha, by rw [List.length_map]; exact hl, vs, _, rv, ha⟩
  have hS : SqL K H a (ns.map V.int) := by
    cases hk : K.lookup a with
    | none => exact .inl (.inr ⟨ob, if_pos ⟨rfl, hk⟩⟩)
    | some o =>
      have e := (KX a o hk).symm.trans ha
      cases e
      exact .inr ⟨_, vs.toArray, _, hk, rfl, rfl, rfl, by rw [List.size_toArray, hi.length]; exact hl, by simpa using rv⟩
  have free : ∀ {b : Addr} {o : Obj}, s₁.heap.get? b = some o → (∀ q n, o.data ≠ .seq q n) → H b = none := by
    intro b o e n
    rcases cs b with q | ⟨rfl, _, _⟩
    · exact q
    · rw [ha] at e
      cases e
      exact absurd rfl (n _ _)
  have nsB : ∀ {b : Addr} {m : Str → Option Value}, s₁.heap.Ns b m → (hidT s₁.heap H).Ns b m := by
    rintro b m ⟨o, es, ep, e, d, r⟩
    exact ⟨o, es, ep, hidT_get e (free e fun q n z => by rw [d] at z; cases z), d, r⟩
  have kB : K.In (hidT s₁.heap H) := by
    intro b o e
    refine hidT_get (KX b o e) ?_
    rcases cs b with q | ⟨rfl, z, _⟩
    · exact q
    · rw [z] at e
      cases e
  obtain ⟨mc, l1, l2⟩ := hlim
  have e0 : Env0 P w K mg (hidT s₁.heap H) callerA [] s₁ H :=
    { frames := rfl, mod := ⟨kB, nsB hns, ⟨mb, nsB hb, hbb⟩, ⟨mc, nsB l1, l2⟩⟩, bs := fun b o e => of_hidT e, bsz := Nat.le_of_eq (hidT_size _ _), funs := trivial, frf := (fun b z => by cases z), hok := hok, bare := .of_eq hg }
  refine codeAny_mono ((F _ kB (nsB hns)).run callerA [] s₁ H ⟨[.ref a], []⟩ [.ref a] [.ref a] _ _ hr rfl e0 (hbind s₁ (.ref a)) (.cons rfl .nil) (hsp H hS)) ?_
  intro r s' h
  match r, h with
  | .error e, h => exact (show False from h).elim
  | .ok .next, h => exact h.elim
  | .ok .brk, h => exact h.elim
  | .ok .cont, h => exact h.elim
  | .ok (.ret u), ⟨v, H', os, bare, un, hok', r', q⟩ =>
    have q : v = .bl true := q
    subst q
    have r' : u = Value.bool true := r'
    subst r'
    refine ⟨rfl, OldK.of_keep ?_, os, bare⟩
    intro b o e
    rcases cs b with q | ⟨rfl, z, q⟩
    · exact un.keep b o e q (fun z => by cases z) (by simp)
    · obtain ⟨e2, _⟩ := hok' b _ (un.frzs b ob _ q)
      rw [ha] at e
      cases e
      exact e2
theorem walk_G {l : PySem.W.OpenLaw} {n k : Nat} {q : Program} {loose : List Str} {XP : (Str → Option Value) → Heap → Prop} {YP : World → Heap → Prop} {d : DefRec} {K : Params → PySem.W.Frag} {x : Str} {sp : World → Sp}
    (hn : l.most = some n) (hn2 : n ≤ sizeLine) (hdf : d.params.defaults = []) (hr : Room k callerA) (hY : ∀ (w : World) (h : Heap), YP w h → (K w.params).In h)
    (F : ∀ (w : World) (mg : Str → Option Value) (fa : Addr) (h : Heap), (K w.params).In h → h.Ns mainGlobals mg → mg d.name = some (.ref fa) →
      ∃ fd : FuncData, (∀ (s : Shared) (u : Value), BindsTo s fd ⟨[u], []⟩ [(x, u)]) ∧ ∀ base : Heap, (K w.params).In base → base.Ns mainGlobals mg → FnG l.prog w (K w.params) mg base k fa fd [x] (sp w))
    (hsp : ∀ (w : World) (H : Hp) (a : Addr) (ns : List Int), ns.length ≤ n → (∀ z ∈ ns, Builtin.Int.intBits z ≤ 1048576) → SqL (K w.params) H a (ns.map V.int) → sp w [.ref a] H (fun v _ => v = .bl true) fun _ _ _ => False) :
    PySem.W.WalkO q loose XP YP l.row.toRowW d [] (fun f vs => PySem.call f vs) := by
  refine Att.attach_callB hn hdf ?_
  intro w s₀ s₁ mg mb fa o pm cd doc a vs ns G Y ho hd hcd hmg hobj hints hlen hbits hg
  obtain ⟨fd, hb, hF⟩ := F w mg fa _ (hY w _ Y) G.T.g hmg
  exact law_callG (hY w _ Y) G.T.g G.T.b G.T.builtins G.T.nolimit hg hobj hints (Nat.le_trans hlen hn2) hr hF hb (fun H hS => hsp w H a ns hlen hbits hS)
/-! ### data that can be shown -/
structure Fine (d : PyData) : Prop where
  s : d.showable = true
  p : SeqAt.shaped d = true
  l : d.leavesShort 50 = true
  b : d.bulk ≤ 100000
theorem w_reprD {K : PySem.W.Frag} {H : Hp} {Q : VK} {a : Addr} {d : PyData} (h : Dp K H (.ref a) d) (f : Fine d) (q : Q (.str d.shown) H) : rReprD K [.ref a] H Q := by
  refine ⟨a, d, rfl, h, f.s, f.p, ?_, q⟩
  have h1 := PyData.shown_le_bulk 50 (by decide) d f.l
  have h2 := f.b
  rw [sizeLine_eq]
  omega
theorem showable_int {i : Int} (h : i.natAbs < 10 ^ 40) : (PyData.int i).showable = true := by
  have := log_lt (i := i) (Nat.lt_of_lt_of_le h (by decide))
  simp only [PyData.showable, this, decide_true]
theorem short_int {i : Int} (h : i.natAbs < 10 ^ 40) : (PyData.int i).leavesShort 50 = true := by
  have e := int_text_length_le10 (k := 40) (by decide) h
  have e2 : (PyData.shown (.int i)).length = (toString i).length := by
    simp only [PyData.shown]
    exact PySem.ofString_length (toString i)
  simp only [PyData.leavesShort, e2]
  exact decide_eq_true (by omega)
theorem showable_ints : ∀ {ns : List Int}, (∀ x ∈ ns, x.natAbs < 10 ^ 40) → PyData.showableAll (ns.map PyData.int) = true
  | [], _ => rfl
  | n :: ns, h => by
    have ih := showable_ints (ns := ns) fun x hx => h x (List.mem_cons_of_mem _ hx)
    have h1 := showable_int (h n List.mem_cons_self)
    simp only [List.map_cons, PyData.showableAll, ih, h1, Bool.and_self]
theorem short_ints : ∀ {ns : List Int}, (∀ x ∈ ns, x.natAbs < 10 ^ 40) → PyData.leavesShortAll 50 (ns.map PyData.int) = true
  | [], _ => rfl
  | n :: ns, h => by
    have ih := short_ints (ns := ns) fun x hx => h x (List.mem_cons_of_mem _ hx)
    have h1 := short_int (h n List.mem_cons_self)
    simp only [List.map_cons, PyData.leavesShortAll, ih, h1, Bool.and_self]
theorem bulk_ints : ∀ ns : List Int, PyData.bulkAll (ns.map PyData.int) = ns.length
  | [] => rfl
  | n :: ns => by
    have ih := bulk_ints ns
    simp only [List.map_cons, PyData.bulkAll, PyData.bulk, ih, List.length_cons]
    omega
def dI (ns : List Int) : PyData := .list (ns.map PyData.int)
theorem fine_ints {ns : List Int} (h : ∀ x ∈ ns, x.natAbs < 10 ^ 40) (hl : ns.length ≤ 10000) : Fine (dI ns) :=
  ⟨by simp only [dI, PyData.showable]; exact showable_ints h, shaped_ints ns, by simp only [dI, PyData.leavesShort]; exact short_ints h, by simp only [dI, PyData.bulk]; rw [bulk_ints]; omega⟩
structure FineAll (ds : List PyData) : Prop where
  s : PyData.showableAll ds = true
  c : PyData.canLayAll0 ds = true
  d : PyData.depthAll ds ≤ 40
  l : PyData.leavesShortAll 50 ds = true
theorem FineAll.nil : FineAll [] := ⟨rfl, rfl, by simp [PyData.depthAll], rfl⟩
theorem FineAll.cons {d : PyData} {ds : List PyData} (f : d.showable = true) (c : d.canLay0 = true) (dp : d.depth ≤ 40) (l : d.leavesShort 50 = true) (r : FineAll ds) : FineAll (d :: ds) :=
  ⟨by simp only [PyData.showableAll, f, r.s, Bool.and_self], by simp only [PyData.canLayAll0, c, r.c, Bool.and_self], by have := r.d; simp only [PyData.depthAll]; omega, by simp only [PyData.leavesShortAll, l, r.l, Bool.and_self]⟩
theorem FineAll.cons_ints {ns : List Int} {ds : List PyData} (h : ∀ x ∈ ns, x.natAbs < 10 ^ 40) (r : FineAll ds) : FineAll (dI ns :: ds) :=
  .cons (by simp only [dI, PyData.showable]; exact showable_ints h) (by simp only [dI, PyData.canLay0]; exact canLay_ints ns) (by have := depth_ints ns; simp only [dI, PyData.depth]; omega) (by simp only [dI, PyData.leavesShort]; exact short_ints h) r
theorem FineAll.cons_lst {xs ds : List PyData} (f : FineAll xs) (dp : PyData.depthAll xs ≤ 30) (r : FineAll ds) : FineAll (.list xs :: ds) :=
  .cons (by simp only [PyData.showable]; exact f.s) (by simp only [PyData.canLay0]; exact f.c) (by simp only [PyData.depth]; omega) (by simp only [PyData.leavesShort]; exact f.l) r
theorem FineAll.fine {ds : List PyData} (r : FineAll ds) (b : PyData.bulkAll ds ≤ 100000) : Fine (.list ds) :=
  ⟨by simp only [PyData.showable]; exact r.s, by
    unfold SeqAt.shaped
    have h1 : PyData.canLay0 (.list ds) = true := by simp only [PyData.canLay0]; exact r.c
    have h2 : PyData.depth (.list ds) ≤ 64 := by
      have := r.d
      simp only [PyData.depth]
      omega
    rw [h1, decide_eq_true h2]
    rfl, by simp only [PyData.leavesShort]; exact r.l, by simp only [PyData.bulk]; exact b⟩
/-! ### generators -/
structure GnAt (P : Program) (w : World) (K : PySem.W.Frag) (mg : Str → Option Value) (base : Heap) (x : Str) (st : Stmt) (k : Nat) (ps : List Str) (sp : SpG) : Prop where
  ex : ∃ f fd, mg x = some (.ref f) ∧ Fun K x x st f fd ∧ GFn P w K mg base k f fd ps sp ∧ Binds K fd ps []
theorem FunAt.okGn {P : Program} {w : World} {K : PySem.W.Frag} {mg : Str → Option Value} {base : Heap} {x : Str} {st : Stmt} {k : Nat} {ps N : List Str} {sp : SpG} (F : FunAt K mg x st) (S : GScope N ps (defScope st)) (len : ∀ vs H Q E, sp vs H Q E → vs.length = ps.length)
    (hb : ∀ (kV doc pm : Value) (an : Option Addr) (cdv ct : Value) (us : List Value), us.length = ps.length → bindArgs (PySem.W.fnOf x x (defArgs st) (defBody st) (defScope st) .none kV doc pm an cdv ct) ⟨us, []⟩ = pure (ps.zip us))
    (hbody : ∀ (f : Addr) (cdv : Value) (A : Around) (outer : List Env) (s : Shared) (H : Hp) (vs : List V) (Q : List V → Hp → Prop) (E : XK) (pn : List (Addr × Obj)), Room k (A.deeper (envOfC x (defScope st) s.heap.objs.size f cdv)) → sp vs H Q E →
      ∃ t, GSs (gcxOf P w K mg base N x (defScope st) f cdv A outer s H E pn) (defBody st) t ∧ t { nx := fun ys _ H' => Q ys H', rt := fun ys v H' => v = .non ∧ Q ys H' } [] (start N vs) H) : GnAt P w K mg base x st (k + 1) ps sp := by
  obtain ⟨f, fd, hm, F⟩ := F.ex
  refine ⟨f, fd, hm, F, ?_, F.binds hb⟩
  obtain ⟨oc, od, kV, doc, pm, an, cdv, ct, osl, rfl, lk, hcd⟩ := F.ex
  exact gfn_of lk hcd S len fun A outer s H vs Q E pn hr h => hbody f cdv A outer s H vs Q E pn hr h
theorem pe_listGD {X : Cx} {x : Str} {st : Stmt} {k : Nat} {ps : List Str} {sp : SpG} {e : Expr} {es : List Expr} {t : TA} {p p0 p1 pos : Pos} (D : GnAt X.prog X.w X.K X.mg X.base x st k ps sp) (hr : Room (k + 3) X.A) (hgl : Gl X "list") (hml : X.mg "list" = none) (ha : PA X (e :: es) t) (hg : Gl X x := by rfl)
    (hdb : (x == ("__debug__" : Str)) = false := by decide) (he : starEach (e :: es) X.env = (false, eval e X.env) :: starEach es X.env := by rfl) (hpl : (backTo p1 (starEach es X.env)).any (·.1) = false := by rfl)
    (he2 : starEach [.Call (.Name x p) (e :: es) [] p1] X.env = (false, eval (.Call (.Name x p) (e :: es) [] p1) X.env) :: starEach [] X.env := by rfl) :
    PE X (.Call (.Name "list" p0) [.Call (.Name x p) (e :: es) [] p1] [] pos) (tListG (tCallG sp [] E0 t)) := by
  obtain ⟨f, fd, hm, F, G, b⟩ := D.ex
  exact pe_listG (pgen_call G (hr.mono (by omega)) hg hm F.kp b .nil ha hdb he hpl) (fun _ _ _ _ _ _ _ z => by
    obtain ⟨_, _, _, _, _, _, _, _, _, _, _, _, q⟩ := z
    exact q.elim) (fun _ _ _ z => z.elim) hr hgl hml boot_list (by decide) (by decide) he2
section
variable {D : GEnds} {ys : List V} {σ : L2.St} {H : Hp} {t u : TGn} {te : TE} {c : TT} {tb : TGn} {ts : TS}
theorem w_gStart {N : List Str} {vs : List V} {σ' : L2.St} (e : L2.start N vs = σ') (h : t D ys σ' H) : t D ys (L2.start N vs) H := e ▸ h
theorem w_gThen (h : t { D with nx := fun ys' σ' H' => u D ys' σ' H' } ys σ H) : tGThen t u D ys σ H := h
theorem w_gPlain (h : ts (D.at ys) σ H) : tPlain ts D ys σ H := h
theorem w_gYield (hz : ys.length < 16777216) (h : te σ H fun x H1 => D.nx (ys ++ [x]) σ H1) : tGYield te D ys σ H := ⟨szlt hz, h⟩
theorem w_g0 (h : D.nx ys σ H) : tG0 D ys σ H := h
theorem w_at (h : D.nx ys σ H) : (D.at ys).nx σ H := h
end
section
variable {D : GEnds} {ys : List V} {σ : L2.St} {H : Hp} {c : TT} {tb : TGn}
def GWh (W : Nat → List V → L2.St → Hp → Prop) (m : Nat) (tb : TGn) (D : GEnds) (ys : List V) (σ : L2.St) (H1 : Hp) : Prop := ∃ N : List V → L2.St → Hp → Prop, (∀ ys' σ' H', N ys' σ' H' → ∃ m', m' < m ∧ W m' ys' σ' H') ∧ tb { D with nx := N, ct := N, bk := D.nx } ys σ H1
theorem w_gWhile (W : Nat → List V → L2.St → Hp → Prop) (m0 : Nat) (h0 : W m0 ys σ H) (hs : ∀ m ys σ H, W m ys σ H → c σ H fun b H1 => if b = true then GWh W m tb D ys σ H1 else D.nx ys σ H1) : tGWhile c tb D ys σ H := ⟨W, ⟨m0, h0⟩, hs⟩
theorem w_gWh {W : Nat → List V → L2.St → Hp → Prop} {m : Nat} (q : tb { D with nx := fun ys' σ' H' => ∃ m', m' < m ∧ W m' ys' σ' H', ct := fun ys' σ' H' => ∃ m', m' < m ∧ W m' ys' σ' H', bk := D.nx } ys σ H) : GWh W m tb D ys σ H := ⟨_, fun _ _ _ h => h, q⟩
def ListGE (Q : VK) : List V → Hp → Prop := fun out H2 => ∀ p, H2 p = none → Q (.ref p) (upd H2 p (.lst out))
theorem w_listG {tg : TGen} {Q : VK} (h : tg σ H (ListGE Q)) : tListG tg σ H Q := h
theorem w_callG {sp : SpG} {dvs : List V} {E : XK} {t : TA} {cont : List V → Hp → Prop} (h : t σ H fun vs H1 => sp (vs ++ dvs) H1 cont E) : tCallG sp dvs E t σ H cont := h
theorem w_listGE {Q : VK} {out : List V} (h : ∀ p, H p = none → Q (.ref p) (upd H p (.lst out))) : ListGE Q out H := h
end
end Pg

namespace Pg
open PySem PySem.Spec PyProof.Rows L2
/-! ### truths compared; None or a number compared -/
theorem dec_bl {a b : Bool} : decide (V.bl a = V.bl b) = (a == b) := by
  cases a <;> cases b <;> rfl
theorem w_eqB {a b : Bool} {H : Hp} {Q : VK} (q : Q (.bl (a == b)) H) : rEq (.bl a) (.bl b) H Q := ⟨rfl, by rw [dec_bl]; exact q⟩
theorem w_neB {a b : Bool} {H : Hp} {Q : VK} (q : Q (.bl (a != b)) H) : rNe (.bl a) (.bl b) H Q := ⟨rfl, by rw [dec_bl]; exact q⟩
theorem beq_iff {p q : Prop} [Decidable p] [Decidable q] (h : p ↔ q) : (decide p == decide q) = true := by
  by_cases z : p
  · rw [decide_eq_true z, decide_eq_true (h.mp z)]; rfl
  · rw [decide_eq_false z, decide_eq_false fun y => z (h.mpr y)]; rfl
theorem bne_iff {p q : Prop} [Decidable p] [Decidable q] (h : p ↔ q) : (decide p != decide q) = false := by
  by_cases z : p
  · rw [decide_eq_true z, decide_eq_true (h.mp z)]; rfl
  · rw [decide_eq_false z, decide_eq_false fun y => z (h.mpr y)]; rfl
theorem w_iteV {b : Bool} {A B : Prop} (e : b = true) (h : A) : if b = true then A else B := by rw [if_pos e]; exact h
theorem w_iteW {b : Bool} {A B : Prop} (e : b = false) (h : B) : if b = true then A else B := by rw [e]; exact h
/-- None or a number -/
def NonInt (v : V) : Prop := v = .non ∨ ∃ i, v = .int i
theorem NonInt.dp {K : PySem.W.Frag} {H : Hp} {v : V} (h : NonInt v) : ∃ d, Dp K H v d ∧ SeqAt.shaped d = true ∧ PyData.eqv d d = true := by
  rcases h with rfl | ⟨i, rfl⟩
  · exact ⟨.none, .non, by decide, by simp [PyData.eqv]⟩
  · exact ⟨.int i, .int i, by rfl, by simp [PyData.eqv]⟩
theorem w_eqSame {K : PySem.W.Frag} {H : Hp} {Q : VK} {v : V} (h : NonInt v) (q : Q (.bl true) H) : rEqD K v v H Q := by
  obtain ⟨d, h1, h2, h3⟩ := h.dp (K := K) (H := H)
  exact ⟨d, d, h1, h1, h2, h2, by rw [h3]; exact q⟩
theorem w_neSame {K : PySem.W.Frag} {H : Hp} {Q : VK} {v : V} (h : NonInt v) (q : Q (.bl false) H) : rNeD K v v H Q := by
  obtain ⟨d, h1, h2, h3⟩ := h.dp (K := K) (H := H)
  exact ⟨d, d, h1, h1, h2, h2, by rw [h3]; exact q⟩
/-! ### steps that go up, comprehensions over any walk -/
section
variable {σ : L2.St} {H : Hp} {g : TG} {tt : TT} {te : TE} {vs : List Nat} {Q : VK}
theorem l_it {J : It} {n : Nat} {G : Hp → Prop} {Y : Nat → Hp → V → Hp → Prop} (w : Walk J n G Y) (Pv : Addr → Nat → Hp → Prop) (h0 : ∀ L, H L = none → Pv L 0 (upd H L (.lst []))) (hG : ∀ L i H', H L = none → i ≤ n → Pv L i H' → G H')
    (hs : ∀ L i x H' H'', H L = none → i < n → Pv L i H' → Y i H' x H'' → g x (wipe σ vs) H'' fun σ2 H2 => wipe σ2 vs = wipe σ vs ∧ tt σ2 H2 fun b H3 => if b = true then te σ2 H3 (AppE L (Pv L (i + 1))) else Pv L (i + 1) H3)
    (hd : ∀ L H', H L = none → Pv L n H' → Q (.ref L) H') : LcB g tt te vs σ Q J H := fun L hL => lc_it w (Pv L) (h0 L hL) (fun i H' => hG L i H' hL) (fun i x H' H'' => hs L i x H' H'' hL) (fun H' => hd L H' hL)
theorem l_rangeC {lo c : Int} {n : Nat} (Pv : Addr → Nat → Hp → Prop) (h0 : ∀ L, H L = none → Pv L 0 (upd H L (.lst [])))
    (hs : ∀ L i H', H L = none → i < n → Pv L i H' → g (.int (lo + (i : Nat) * c)) (wipe σ vs) H' fun σ2 H2 => wipe σ2 vs = wipe σ vs ∧ tt σ2 H2 fun b H3 => if b = true then te σ2 H3 (AppE L (Pv L (i + 1))) else Pv L (i + 1) H3)
    (hd : ∀ L H', H L = none → Pv L n H' → Q (.ref L) H') : LcB g tt te vs σ Q (Itc lo c n) H :=
  l_it walk_rangeC Pv h0 (fun _ _ _ _ _ _ => trivial) (fun L i x H' H'' hL hi p y => by
    obtain ⟨e1, e2⟩ := y
    subst e1 e2
    exact hs L i _ hL hi p) hd
theorem l_enum {K : PySem.W.Frag} {a : Addr} (xs : List V) (Pv : Addr → Nat → Hp → Prop) (h0 : ∀ L, H L = none → Pv L 0 (upd H L (.lst []))) (hl : ∀ L i H', H L = none → i ≤ xs.length → Pv L i H' → SqL K H' a xs)
    (hs : ∀ L i x T H', H L = none → xs[i]? = some x → Pv L i H' → H' T = none → g (.ref T) (wipe σ vs) (upd H' T (.tup [.int (i : Nat), x])) fun σ2 H2 => wipe σ2 vs = wipe σ vs ∧ tt σ2 H2 fun b H3 => if b = true then te σ2 H3 (AppE L (Pv L (i + 1))) else Pv L (i + 1) H3)
    (hd : ∀ L H', H L = none → Pv L xs.length H' → Q (.ref L) H') : LcB g tt te vs σ Q (Ite K a) H :=
  l_it walk_enum Pv h0 hl (fun L i x H' H'' hL hi p y => by
    obtain ⟨T, u, v, h1, h2, h3, h4, h5⟩ := y
    subst h1 h3
    have h4 := Option.some.inj h4
    subst h4
    exact hs L i v T H' hL h5 p h2) hd
end
theorem RgC.pos {i j c : Int} (hi : 0 ≤ i) (hj : i ≤ j) (hj2 : j < 2 ^ 30) (hc : 1 ≤ c) (hc2 : c < 2 ^ 30) : RgC i j c ((j - i + c - 1) / c).toNat := by
  have e : Builtin.Range.rangeSize i j c = (((j - i + c - 1) / c).toNat : Int) := by
    unfold Builtin.Range.rangeSize
    rw [if_pos (by omega)]
    have h0 : 0 ≤ (j - i + c - 1) / c := Int.ediv_nonneg (by omega) (by omega)
    rw [Int.toNat_of_nonneg h0]
    by_cases h : i < j
    · rw [if_pos h, show j - i + c - 1 = (j - i - 1) + c by omega, Int.add_ediv_of_dvd_right (Int.dvd_refl c), Int.ediv_self (by omega)]
    · rw [if_neg h, show j - i + c - 1 = c - 1 by omega, Int.ediv_eq_zero_of_lt (by omega) (by omega)]
  have hb : ((j - i + c - 1) / c).toNat < 2 ^ 31 := by
    have h1 : (j - i + c - 1) / c ≤ j - i + c - 1 := Int.ediv_le_self _ (by omega)
    omega
  refine ⟨by omega, by omega, ?_, e⟩
  unfold Builtin.Range.small
  rw [e]
  simp only [Builtin.Range.rangeFitsLong, Bool.and_eq_true, Bool.or_eq_true, decide_eq_true_eq, beq_iff_eq]
  rw [if_pos (by omega)]
  simp only [Bool.and_eq_true, decide_eq_true_eq]
  omega
theorem w_rng3P {H : Hp} {R : It → Hp → Prop} {i j c : Int} (h : 0 ≤ i ∧ i ≤ j ∧ j < 2 ^ 30 ∧ 1 ≤ c ∧ c < 2 ^ 30) (q : R (Itc i c ((j - i + c - 1) / c).toNat) H) : Rng3E R [.int i, .int j, .int c] H :=
  ⟨i, j, c, _, rfl, RgC.pos h.1 h.2.1 h.2.2.1 h.2.2.2.1 h.2.2.2.2, q⟩
theorem kc_pi {X : Cx} {K : PySem.W.Frag} {tg e : Expr} {t : TE} (h : PI X tg e (iList X.K t)) (q : X.K = K) : PI X tg e (iList K t) := q ▸ h
theorem w_extendR {H : Hp} {Q : VK} {a q : Addr} {ps qs : List Addr} (h1 : H a = some (.lst (ps.map V.ref))) (h2 : H q = some (.lst (qs.map V.ref))) (hz : ps.length + qs.length ≤ 16777216) (k : Q .non (upd H a (.lst ((ps ++ qs).map V.ref)))) : rExtend (.ref a) [.ref q] H Q :=
  ⟨a, q, _, _, rfl, rfl, h1, h2, szle' (by rw [List.length_map, List.length_map]; exact hz), by rw [← List.map_append]; exact k⟩
/-! ### lists of pairs of numbers -/
def dP (l : Int × Int) : PyData := .tuple [.int l.1, .int l.2]
theorem canLay_pairs : ∀ ls : List (Int × Int), PyData.canLayAll0 (ls.map dP) = true
  | [] => rfl
  | l :: ls => by
    have ih := canLay_pairs ls
    simp only [List.map_cons, dP, PyData.canLayAll0, PyData.canLay0, Bool.and_self, Bool.true_and]
    exact ih
theorem depth_pairs : ∀ ls : List (Int × Int), PyData.depthAll (ls.map dP) ≤ 3
  | [] => by simp [PyData.depthAll]
  | l :: ls => by
    have ih := depth_pairs ls
    have e : PyData.depth (dP l) ≤ 2 := by simp [dP, PyData.depthAll, PyData.depth]
    simp only [List.map_cons, PyData.depthAll]
    omega
theorem shaped_pairs (ls : List (Int × Int)) : SeqAt.shaped (.list (ls.map dP)) = true := by
  unfold SeqAt.shaped
  have h1 : PyData.canLay0 (.list (ls.map dP)) = true := by simp only [PyData.canLay0]; exact canLay_pairs ls
  have h2 : PyData.depth (.list (ls.map dP)) ≤ 64 := by
    have := depth_pairs ls
    simp only [PyData.depth]
    omega
  rw [h1, decide_eq_true h2]
  rfl
theorem eqvAll_pairs : ∀ ls ms : List (Int × Int), PyData.eqvAll (ls.map dP) (ms.map dP) = decide (ls = ms)
  | [], [] => by simp [PyData.eqvAll]
  | [], m :: ms => by simp [PyData.eqvAll]
  | n :: ns, [] => by simp [PyData.eqvAll]
  | n :: ns, m :: ms => by
    have ih := eqvAll_pairs ns ms
    simp only [List.map_cons, PyData.eqvAll, ih]
    have e : PyData.eqv (dP n) (dP m) = decide (n = m) := by
      obtain ⟨n1, n2⟩ := n
      obtain ⟨m1, m2⟩ := m
      simp only [dP, PyData.eqv, PyData.eqvAll, Prod.mk.injEq]
      by_cases h : n1 = m1 <;> by_cases h2 : n2 = m2 <;> simp [h, h2]
    rw [e]
    by_cases h : n = m
    · subst h
      by_cases h2 : ns = ms <;> simp [h2]
    · simp [h]
/-! ### repr of None or of data -/
def rReprA (K : PySem.W.Frag) : List V → Hp → VK → Prop := fun xs H Q => (xs = [.non] ∧ Q (.str "None") H) ∨ rReprD K xs H Q
theorem call_reprA {X : Cx} (hg : X.A.guards = some []) (hu : X.A.units + 100 < cLine) : CallR X (.builtin "repr") (rReprA X.K) := by
  intro pins s σ H xs us Q I r h
  rcases h with ⟨rfl, q⟩ | h
  · obtain ⟨u, rfl, ru⟩ := vals1 r
    cases ru
    exact PySem.P.repr_of_none ⟨.str "None", H, I.tok _, ⟨_, rfl⟩, q⟩
  · exact call_reprD hg hu pins s σ H xs us Q I r h
theorem w_reprA0 {K : PySem.W.Frag} {H : Hp} {Q : VK} (q : Q (.str "None") H) : rReprA K [.non] H Q := .inl ⟨rfl, q⟩
theorem w_reprA {K : PySem.W.Frag} {H : Hp} {Q : VK} {a : Addr} {d : PyData} (h : Dp K H (.ref a) d) (f : Fine d) (q : Q (.str d.shown) H) : rReprA K [.ref a] H Q := .inr (w_reprD h f q)
theorem w_all {K : PySem.W.Frag} {H : Hp} {Q : VK} {a : Addr} {bs : List Bool} (h : H a = some (.lst (bs.map V.bl))) (q : Q (.bl (bs.all id)) H) : rAll K [.ref a] H Q := ⟨a, bs, rfl, SqL.of h, q⟩
/-! ### slices of lists of objects, loops over tuples -/
theorem cutV_take (xs : List V) (n : Nat) : cutV xs none (some (n : Int)) = xs.take n := by
  show (xs.drop (HT.sIx xs.length 0 none)).take (HT.sIx xs.length xs.length (some (n : Int)) - HT.sIx xs.length 0 none) = xs.take n
  have e1 : HT.sIx xs.length 0 none = 0 := rfl
  have e2 : HT.sIx xs.length xs.length (some (n : Int)) = min n xs.length := by
    simp only [HT.sIx]
    rw [if_neg (by omega)]
    omega
  rw [e1, e2, List.drop_zero, Nat.sub_zero]
  by_cases h : n ≤ xs.length
  · rw [Nat.min_eq_left h]
  · rw [Nat.min_eq_right (by omega), List.take_length, List.take_of_length_le (by omega)]
theorem w_slTake {K : PySem.W.Frag} {H : Hp} {Q : VK} {a : Addr} {ps : List Addr} {n : Nat} (h : H a = some (.lst (ps.map V.ref))) (q : ∀ p, H p = none → Q (.ref p) (upd H p (.lst ((ps.take n).map V.ref)))) : rSlL K (.ref a) none (some (n : Int)) H Q :=
  ⟨a, _, rfl, SqL.of h, fun p hp => by rw [cutV_take, ← List.map_take]; exact q p hp⟩
def TupE (K : PySem.W.Frag) (R : It → Hp → Prop) : V → Hp → Prop := fun x H1 => ∃ a, x = .ref a ∧ (∃ xs, SqT K H1 a xs) ∧ R (Itt K a) H1
theorem w_iTup {K : PySem.W.Frag} {tl : TE} {σ : L2.St} {H : Hp} {R : It → Hp → Prop} (h : tl σ H (TupE K R)) : iTup K tl σ H R := h
theorem w_iTupE {K : PySem.W.Frag} {a : Addr} {xs : List V} {H : Hp} {R : It → Hp → Prop} (h : SqT K H a xs) (q : R (Itt K a) H) : TupE K R (.ref a) H := ⟨a, rfl, ⟨xs, h⟩, q⟩
theorem kc_pg {X : Cx} {K : PySem.W.Frag} {tg : Expr} {k : Nat} {t : TGs} (h : PG X tg (gTup X.K k t)) (q : X.K = K) : PG X tg (gTup K k t) := q ▸ h
/-! ### x *= y -/
def ipM : TIp := fun x y H Q => ∃ i j, x = .int i ∧ y = .int j ∧ CMulW i j ∧ Q (.int (i * j)) H
theorem ip_mul {X : Cx} : PIp X .Mult ipM := by
  intro pins s σ H x y v u Q I r1 r2 h
  obtain ⟨i, j, e1, e2, c, q⟩ := h
  subst e1; subst e2
  obtain ⟨t, rfl⟩ := r1
  obtain ⟨t', rfl⟩ := r2
  exact imul_int ⟨.int _, H, I.tok _, ⟨_, rfl⟩, q⟩ c.ok
theorem w_ipM {m n : Int} {H : Hp} {Q : VK} (c : CMulW m n) (q : Q (.int (m * n)) H) : ipM (.int m) (.int n) H Q := ⟨m, n, rfl, rfl, c, q⟩
theorem FineAll.tup {ds : List PyData} (r : FineAll ds) (b : PyData.bulkAll ds ≤ 100000) : Fine (.tuple ds) :=
  ⟨by simp only [PyData.showable]; exact r.s, by
    unfold SeqAt.shaped
    have h1 : PyData.canLay0 (.tuple ds) = true := by simp only [PyData.canLay0]; exact r.c
    have h2 : PyData.depth (.tuple ds) ≤ 64 := by
      have := r.d
      simp only [PyData.depth]
      omega
    rw [h1, decide_eq_true h2]
    rfl, by simp only [PyData.leavesShort]; exact r.l, by simp only [PyData.bulk]; exact b⟩
theorem FineAll.cons_int {i : Int} {ds : List PyData} (h : i.natAbs < 10 ^ 40) (r : FineAll ds) : FineAll (.int i :: ds) :=
  .cons (showable_int h) (by simp only [PyData.canLay0]) (by simp [PyData.depth]) (short_int h) r
theorem fine_pair {i j : Int} (hi : i.natAbs < 10 ^ 40) (hj : j.natAbs < 10 ^ 40) : Fine (dP (i, j)) := (FineAll.cons_int hi (.cons_int hj .nil)).tup (by simp [PyData.bulkAll, PyData.bulk])
theorem w_ixLR {K : PySem.W.Frag} {H : Hp} {Q : VK} {p : Addr} {ps : List Addr} {m : Int} (h : H p = some (.lst (ps.map V.ref))) (h0 : 0 ≤ m) (h1 : m < ps.length) (q : ∀ t, ps[m.toNat]? = some t → Q (.ref t) H) : rIxL K (.ref p) (.int m) H Q := by
  obtain ⟨v, hv, e, e2⟩ := atI_lt (xs := ps.map V.ref) h0 (by rw [List.length_map]; exact h1)
  rw [List.getElem?_map] at e2
  cases z : ps[m.toNat]? with
  | none =>
    rw [z] at e2
    cases e2
  | some t =>
    rw [z] at e2
    have e3 : v = .ref t := (Option.some.inj e2).symm
    subst e3
    exact w_ixL (SqL.of h) e (q t z)
theorem w_setLR {H : Hp} {p t : Addr} {ps : List Addr} {m : Int} {Q : Hp → Prop} (h : H p = some (.lst (ps.map V.ref))) (h0 : 0 ≤ m) (h1 : m < ps.length) (q : Q (upd H p (.lst ((ps.set m.toNat t).map V.ref)))) : rSetL (.ref p) (.int m) (.ref t) H Q := by
  refine ⟨p, _, m, m.toNat, rfl, rfl, h, ?_, by rw [← List.map_set]; exact q⟩
  rw [List.length_map]
  have z : ((m.toNat : Nat) : Int) = m := Int.toNat_of_nonneg h0
  unfold ixN
  rw [if_pos h0, if_pos h1]
theorem w_catR {H : Hp} {Q : VK} {p q : Addr} {ps qs : List Addr} (h1 : H p = some (.lst (ps.map V.ref))) (h2 : H q = some (.lst (qs.map V.ref))) (hz : ps.length + qs.length ≤ 16777216) (k : ∀ r, H r = none → Q (.ref r) (upd H r (.lst ((ps ++ qs).map V.ref)))) : rCat (.ref p) (.ref q) H Q :=
  ⟨p, q, _, _, rfl, rfl, h1, h2, szle' (by rw [List.length_map, List.length_map]; exact hz), fun r hr => by rw [← List.map_append]; exact k r hr⟩
def Par3E (i j l : Nat) (R : L2.St → Hp → Prop) (σ : L2.St) : List V → Hp → Prop := fun vs H1 => ∃ u v w, vs = [u, v, w] ∧ R (((σ.set i (some u)).set j (some v)).set l (some w)) H1
theorem w_par3 {i j l : Nat} {tA : TA} {D : Ends} {σ : L2.St} {H : Hp} (h : tA σ H (Par3E i j l (D.nx) σ)) : tPar3 i j l tA D σ H := h
theorem w_par3E {i j l : Nat} {R : L2.St → Hp → Prop} {σ : L2.St} {H : Hp} {x y z : V} (q : R (((σ.set i (some x)).set j (some y)).set l (some z)) H) : Par3E i j l R σ [x, y, z] H := ⟨x, y, z, rfl, q⟩
/-! ### defs that call themselves -/
def spNo : Sp := fun _ _ _ _ => False
theorem FunAt.never {P : Program} {w : World} {K : PySem.W.Frag} {mg : Str → Option Value} {base : Heap} {x : Str} {st : Stmt} {k : Nat} {ps : List Str} (F : FunAt K mg x st)
    (hb : ∀ (kV doc pm : Value) (an : Option Addr) (cdv ct : Value) (us : List Value), us.length = ps.length → bindArgs (PySem.W.fnOf x x (defArgs st) (defBody st) (defScope st) .none kV doc pm an cdv ct) ⟨us, []⟩ = pure (ps.zip us)) : DefAt P w K mg base x st k ps spNo := by
  obtain ⟨f, fd, hm, F⟩ := F.ex
  exact ⟨f, fd, hm, F, ⟨fun _ _ _ _ h => h.elim, fun _ _ _ _ _ _ _ _ _ _ _ _ _ h => h.elim⟩, F.binds hb⟩
/-! ### lists of lists of numbers -/
structure ListsAt (H : Hp) (ps : List Addr) (xss : List (List Int)) : Prop where
  len : ps.length = xss.length
  at_ : ∀ (i : Nat) (p : Addr) (xs : List Int), ps[i]? = some p → xss[i]? = some xs → H p = some (.lst (xs.map V.int))
theorem ListsAt.nil {H : Hp} : ListsAt H [] [] := ⟨rfl, by simp⟩
theorem ListsAt.fr {H H' : Hp} {ps : List Addr} {xss : List (List Int)} (h : ListsAt H ps xss) (f : Fr [] H H') : ListsAt H' ps xss := ⟨h.len, fun i p l h1 h2 => f.at0 (h.at_ i p l h1 h2)⟩
theorem ListsAt.app {H : Hp} {ps qs : List Addr} {xss yss : List (List Int)} (h : ListsAt H ps xss) (k : ListsAt H qs yss) : ListsAt H (ps ++ qs) (xss ++ yss) := by
  refine ⟨by simp [h.len, k.len], fun i q m h1 h2 => ?_⟩
  have hl := h.len
  by_cases hi : i < ps.length
  · rw [List.getElem?_append_left hi] at h1
    rw [List.getElem?_append_left (by omega)] at h2
    exact h.at_ i q m h1 h2
  · rw [List.getElem?_append_right (by omega)] at h1
    rw [List.getElem?_append_right (by omega), ← hl] at h2
    exact k.at_ _ q m h1 h2
theorem ListsAt.one {H : Hp} {p : Addr} {xs : List Int} (h : H p = some (.lst (xs.map V.int))) : ListsAt H [p] [xs] := ⟨rfl, fun i q m h1 h2 => by
  match i, h1, h2 with
  | 0, h1, h2 =>
    have e1 : p = q := by simpa using h1
    have e2 : xs = m := by simpa using h2
    subst e1 e2
    exact h
  | i + 1, h1, h2 => simp at h1⟩
theorem ListsAt.put {H : Hp} {a : Addr} {o : HO} {ps : List Addr} {xss : List (List Int)} (h : ListsAt H ps xss) (ha : a ∉ ps) : ListsAt (upd H a o) ps xss :=
  ⟨h.len, fun i q m h1 h2 => by
    have hne : q ≠ a := fun e => ha (e ▸ List.mem_of_getElem? h1)
    rw [upd_ne hne]
    exact h.at_ i q m h1 h2⟩
theorem dpAll_lists {K : PySem.W.Frag} {H : Hp} : ∀ {ps : List Addr} {xss : List (List Int)}, ListsAt H ps xss → DpAll K H (ps.map V.ref) (xss.map dI)
  | [], [], _ => .nil
  | [], _ :: _, h => by cases h.len
  | _ :: _, [], h => by cases h.len
  | p :: ps, l :: ls, h => .cons (dp_ints (SqL.of (h.at_ 0 p l rfl rfl))) (dpAll_lists ⟨by simpa using h.len, fun i q m h1 h2 => h.at_ (i + 1) q m (by simpa using h1) (by simpa using h2)⟩)
theorem canLay_lists : ∀ ls : List (List Int), PyData.canLayAll0 (ls.map dI) = true
  | [] => rfl
  | l :: ls => by
    have ih := canLay_lists ls
    have h1 : PyData.canLay0 (dI l) = true := by simp only [dI, PyData.canLay0]; exact canLay_ints l
    simp only [List.map_cons, PyData.canLayAll0, h1, ih, Bool.and_self]
theorem depth_lists : ∀ ls : List (List Int), PyData.depthAll (ls.map dI) ≤ 3
  | [] => by simp [PyData.depthAll]
  | l :: ls => by
    have ih := depth_lists ls
    have h1 : PyData.depth (dI l) ≤ 2 := by
      have := depth_ints l
      simp only [dI, PyData.depth]
      omega
    simp only [List.map_cons, PyData.depthAll]
    omega
theorem shaped_lists (ls : List (List Int)) : SeqAt.shaped (.list (ls.map dI)) = true := by
  unfold SeqAt.shaped
  have h1 : PyData.canLay0 (.list (ls.map dI)) = true := by simp only [PyData.canLay0]; exact canLay_lists ls
  have h2 : PyData.depth (.list (ls.map dI)) ≤ 64 := by
    have := depth_lists ls
    simp only [PyData.depth]
    omega
  rw [h1, decide_eq_true h2]
  rfl
theorem w_neNilL {K : PySem.W.Frag} {H : Hp} {Q : VK} {a b : Addr} {ps : List Addr} {xss : List (List Int)} (ha : H a = some (.lst (ps.map V.ref))) (hb : H b = some (.lst [])) (h1 : ListsAt H ps xss) (k : Q (.bl (!decide (xss = []))) H) : rNeD K (.ref a) (.ref b) H Q :=
  ⟨_, _, .lst (SqL.of ha) (dpAll_lists h1), .lst (SqL.of hb) (dpAll_lists (ps := []) (xss := []) .nil), shaped_lists _, shaped_lists _, by
    have e : PyData.eqv (.list (xss.map dI)) (.list (([] : List (List Int)).map dI)) = decide (xss = []) := by
      simp only [PyData.eqv]
      cases xss with
      | nil => simp [PyData.eqvAll]
      | cons x xs => simp [PyData.eqvAll]
    rw [e]
    exact k⟩
theorem FineAll.cons_pair {l : Int × Int} {ds : List PyData} (hi : l.1.natAbs < 10 ^ 40) (hj : l.2.natAbs < 10 ^ 40) (r : FineAll ds) : FineAll (dP l :: ds) := by
  have f : FineAll [PyData.int l.1, PyData.int l.2] := FineAll.cons_int hi (.cons_int hj .nil)
  exact .cons (by simp only [dP, PyData.showable]; exact f.s) (by simp only [dP, PyData.canLay0]; exact f.c) (by simp [dP, PyData.depth, PyData.depthAll]) (by simp only [dP, PyData.leavesShort]; exact f.l) r
theorem fineAll_pairs : ∀ {ls : List (Int × Int)}, (∀ l ∈ ls, l.1.natAbs < 10 ^ 40 ∧ l.2.natAbs < 10 ^ 40) → FineAll (ls.map dP)
  | [], _ => .nil
  | l :: ls, h => .cons_pair (h l List.mem_cons_self).1 (h l List.mem_cons_self).2 (fineAll_pairs fun m hm => h m (List.mem_cons_of_mem _ hm))
theorem bulk_pairs : ∀ ls : List (Int × Int), PyData.bulkAll (ls.map dP) ≤ 10 * ls.length
  | [] => by simp [PyData.bulkAll]
  | l :: ls => by
    have ih := bulk_pairs ls
    have h1 : PyData.bulk (dP l) ≤ 5 := by simp [dP, PyData.bulk, PyData.bulkAll]
    simp only [List.map_cons, PyData.bulkAll, List.length_cons]
    omega
theorem fine_pairs {ls : List (Int × Int)} (h : ∀ l ∈ ls, l.1.natAbs < 10 ^ 40 ∧ l.2.natAbs < 10 ^ 40) (hl : ls.length ≤ 1000) : Fine (.list (ls.map dP)) :=
  (fineAll_pairs h).fine (by have := bulk_pairs ls; omega)
/-! ### repr of a great number, where no limit of digits was set -/
def rReprBig : List V → Hp → VK → Prop := fun xs H Q => ∃ i : Int, xs = [.int i] ∧ i.natAbs < 10 ^ 4300 ∧ Q (.str (toString i)) H
theorem nodigits_of {K : PySem.W.Frag} {h : Heap} (X : K.In h) (hl : h.NoLimit) (nd : PySem.W.nsIn K cStatics "sys.int_max_str_digits" = some none) : h.NoDigits := by
  obtain ⟨mc, hn, _⟩ := hl
  exact ⟨mc, hn, PySem.W.ns_none_of X hn nd⟩
theorem call_reprBig {X : Cx} (nd : PySem.W.nsIn X.K cStatics "sys.int_max_str_digits" = some none) (hu : X.A.units + 100 < cLine) (hc : X.calm = true := by rfl) : CallR X (.builtin "repr") rReprBig := by
  intro pins s σ H xs us Q I r h
  obtain ⟨i, rfl, hz, q⟩ := h
  obtain ⟨u, rfl, t, rfl⟩ := vals1 r
  exact call_repr_slot (by omega) (typeIs_int s i t) PySem.F.slot_int_repr.toG (PyProof.Rows.call_int_repr_or (A := X.A.in1) (I.ok.hd hc) (nodigits_of I.kIn I.nolimit nd) (fun _ => ⟨_, _, rfl, .str _, H, I.tok _, ⟨_, rfl⟩, q⟩) fun hge => absurd hz (Nat.not_lt.mpr hge))
theorem w_reprBig {i : Int} {H : Hp} {Q : VK} (h : i.natAbs < 10 ^ 4300) (q : Q (.str (toString i)) H) : rReprBig [.int i] H Q := ⟨i, rfl, h, q⟩
/-! ### dicts with int keys -/
section
variable {K : PySem.W.Frag} {σ : L2.St} {H : Hp} {td ty : TE} {Q : VK} {a : Addr} {kvs kvs' : List (Key × V)} {k : Int} {v x : V} {R : Hp → Prop}
theorem w_dnewK (q : ∀ p, H p = none → Q (.ref p) (upd H p (.dK []))) : tDNewK σ H Q := q
theorem w_dgetI (h : H a = some (.dK kvs)) (e : valV kvs (.inl k) = some v) (q : Q v H) : DGE (.ref a) Q (.int k) H := ⟨a, v, rfl, by rw [← e]; exact DGet.k (k := .inl k) h, q⟩
theorem w_dputI (h : H a = some (.dK kvs)) (hl : kvs.length < 16777216) (q : R (upd H a (.dK (putK kvs (.inl k) v)))) : DPE (.ref a) v R (.int k) H := ⟨a, _, rfl, DPut.k (k := .inl k) h (szlt hl), q⟩
def DNE (Q : VK) (y : V) : V → Hp → Prop := fun x H2 => ∃ a o, x = .ref a ∧ DGet H2 a y o ∧ Q (.bl (!o.isSome)) H2
theorem w_dnotIn (h : ty σ H fun y H1 => td σ H1 (DNE Q y)) : tDNotIn ty td σ H Q := h
theorem w_dnotInE (h : H a = some (.dK kvs)) (q : Q (.bl (!(valV kvs (.inl k)).isSome)) H) : DNE Q (.int k) (.ref a) H := ⟨a, _, rfl, DGet.k (k := .inl k) h, q⟩
end
end Pg

open PySem PySem.Spec PyProof.Rows L2 Pg
/-! ### steps -/
local macro_rules | `(tactic| walk_at "h") => `(tactic| with_reducible first
  | assumption
  | exact upd_same
  | (refine' at_make ?e3 ?n1 ?n2; (case n1 => assumption); (case n2 => assumption); (case e3 => walk_at "h"))
  | (refine' at_upd ?e3 ?n1; (case n1 => assumption); (case e3 => walk_at "h"))
  | (refine' Fr.at0 ?n1 ?e3; (case n1 => assumption); (case e3 => walk_at "h"))
  | (refine' Fr.at ?e1 (nn2 ?e2) ?e3; (case e1 => assumption); (case e2 => walk_at "n"); (case e3 => walk_at "h"))
  | (refine' Fr.at ?e1 (nn3 ?e2 ?e4) ?e3; (case e1 => assumption); (case e2 => walk_at "n"); (case e4 => walk_at "n"); (case e3 => walk_at "h"))
  | (refine' Eq.trans (upd_ne ?e2) ?e3; (case e2 => walk_at "n"); (case e3 => walk_at "h")))
local macro_rules | `(tactic| walk_at "n") => `(tactic| with_reducible first
  | assumption
  | exact Ne.symm (by assumption)
  | (refine' Ne.symm (ne_of_none ?e1 ?e2); (case e2 => assumption); (case e1 => walk_at "h"))
  | (refine' ne_of_none ?e1 ?e2; (case e2 => assumption); (case e1 => walk_at "h"))
  | (refine' ne_of ?e1 ?e2 ?e3; (case e1 => assumption); (case e2 => walk_at "h"); (case e3 => (first | exact ho_lst_tup | exact ho_lst_own | exact ho_lst_xd | exact ho_lst_dK | exact ho_lst_ins | exact ho_tup_lst | exact ho_tup_own | exact ho_tup_xd | exact ho_tup_dK | exact ho_tup_ins | exact ho_own_lst | exact ho_own_tup | exact ho_own_xd | exact ho_own_dK | exact ho_own_ins | exact ho_xd_lst | exact ho_xd_tup | exact ho_xd_own | exact ho_xd_dK | exact ho_xd_ins | exact ho_dK_lst | exact ho_dK_tup | exact ho_dK_own | exact ho_dK_xd | exact ho_dK_ins | exact ho_ins_lst | exact ho_ins_tup | exact ho_ins_own | exact ho_ins_xd | exact ho_ins_dK))))
local macro_rules | `(tactic| walk_at "f") => `(tactic| with_reducible first
  | assumption
  | exact Fr.refl
  | exact Fr.nil (by assumption)
  | (refine' Fr.make ?e1 ?e2 ?e3; (case e2 => assumption); (case e3 => assumption); (case e1 => walk_at "f"))
  | (refine' Fr.new ?e1 ?e2; (case e2 => assumption); (case e1 => walk_at "f"))
  | (refine' Fr.put ?e1 (Or.inr ?e2); (case e2 => exact List.mem_singleton_self _); (case e1 => walk_at "f"))
  | (refine' Fr.put ?e1 (Or.inr ?e2); (case e2 => exact mem2a); (case e1 => walk_at "f"))
  | (refine' Fr.put ?e1 (Or.inr ?e2); (case e2 => exact mem2b); (case e1 => walk_at "f"))
  | (refine' Fr.put ?e1 (Or.inl ?e2); (case e2 => walk_at "z"); (case e1 => walk_at "f"))
  | (refine' Fr.trans ?e1 ?e2; (case e2 => assumption); (case e1 => walk_at "f"))
  | (refine' Fr.then ?e1 ?e2; (case e2 => assumption); (case e1 => walk_at "f"))
  | (refine' Fr.loc ?e1 ?e2 ?e3; (case e3 => assumption); (case e2 => walk_at "z"); (case e1 => walk_at "f"))
  | (refine' Fr.loc2 ?e1 ?e2 ?e4 ?e3; (case e3 => assumption); (case e2 => walk_at "z"); (case e4 => walk_at "z"); (case e1 => walk_at "f")))
local macro_rules | `(tactic| walk_at "z") => `(tactic| with_reducible first
  | assumption
  | (refine' Fr.free ?e1 (nn2 ?e2) ?e3; (case e3 => assumption); (case e1 => walk_at "f"); (case e2 => walk_at "n"))
  | (refine' Fr.free ?e1 (nn3 ?e2 ?e4) ?e3; (case e3 => assumption); (case e1 => walk_at "f"); (case e2 => walk_at "n"); (case e4 => walk_at "n"))
  | (refine' Fr.free (S := []) ?e1 List.not_mem_nil ?e3; (case e3 => assumption); (case e1 => walk_at "f")))
local macro_rules | `(tactic| walk_at "k") => `(tactic| first
  | with_reducible assumption
  | ((with_reducible refine' hx_of ?a1 ?a0); (case a1 => walk_at "h"); (case a0 => with_reducible exact rfl)))
local macro_rules | `(tactic| walk_at "1") => `(tactic| first
  | with_reducible refine w_seq ?_
  | with_reducible refine w_asg ?_
  | with_reducible refine w_gname ?_
  | with_reducible refine w_ret ?_
  | with_reducible refine w_drop ?_
  | with_reducible refine w_ifS ?_
  | with_reducible refine w_c ?_
  | ((with_reducible refine' w_var ?e1 ?_); (case e1 => exact rfl))
  | with_reducible refine w_op ?_
  | with_reducible refine w_I0 ?_
  | with_reducible refine w_eqI ?_
  | with_reducible refine w_neI ?_
  | with_reducible refine w_nil ?_
  | with_reducible refine w_cons ?_
  | with_reducible refine w_call ?_
  | with_reducible refine w_CB ?_
  | with_reducible refine w_test ?_
  | with_reducible refine w_tB ?_
  | with_reducible refine w_exbl ?_
  | with_reducible refine w_not ?_
  | with_reducible refine w_and ?_
  | with_reducible refine w_or ?_
  | with_reducible refine w_if ?_
  | with_reducible refine w_next ?_
  | with_reducible refine w_retN ?_
  | with_reducible refine w_iteF ?_
  | with_reducible refine w_iteT ?_
  | with_reducible refine w_iteNT ?_
  | with_reducible refine w_iteNF ?_
  | ((with_reducible refine w_iteP ?e1 ?_); (case e1 => with_reducible first | exact rfl | assumption))
  | ((with_reducible refine w_iteNP ?e1 ?_); (case e1 => with_reducible first | exact rfl | assumption))
  | ((with_reducible refine w_iteQ ?e1 ?_); (case e1 => with_reducible assumption))
  | ((with_reducible refine w_iteNQ ?e1 ?_); (case e1 => with_reducible assumption))
  | with_reducible refine w_lst ?_
  | with_reducible refine w_tup ?_
  | with_reducible refine w_bm ?_
  | with_reducible refine w_bm0 ?_
  | with_reducible refine w_chain ?_
  | with_reducible refine w_sub ?_
  | with_reducible refine w_un ?_
  | with_reducible refine w_U ?_
  | with_reducible refine w_par ?_
  | with_reducible refine w_parE ?_
  | with_reducible refine w_par3 ?_
  | with_reducible refine w_par3E ?_
  | ((with_reducible refine' w_aug ?e1 ?_); (case e1 => exact rfl))
  | with_reducible refine w_ipI ?_
  | ((with_reducible refine' w_ipM ?e1 ?_); (case e1 => walk_at "c"))
  | with_reducible refine w_fld ?_
  | with_reducible refine w_tfld ?_
  | ((with_reducible refine' w_powW ?e1 ?_); (case e1 => walk_at "c"); (try dsimp only [Int.reduceToNat, Int.reducePow]))
  | ((with_reducible refine' w_I ?e1 ?_); (case e1 => walk_at "c"))
  | ((with_reducible refine' w_ixL (SqL.of ?e1) ?e2 ?_); (case e1 => walk_at "k"); (case e2 => exact rfl))
  | ((with_reducible refine' w_ixT (SqT.of ?e1) ?e2 ?_); (case e1 => walk_at "k"); (case e2 => exact rfl))
  | ((with_reducible refine' w_setL ?e1 ?e2 ?_); (case e1 => walk_at "k"); (case e2 => exact rfl))
  | ((with_reducible refine' w_ixLi (SqL.of ?e1) ?e2 ?e3 ?e4 ?_); (case e1 => walk_at "k"); (case e2 => exact rfl); (case e3 => omega); (case e4 => (simp only [unV, List.length_cons, List.length_nil]; omega)); intro n hn; simp only [unV, List.mem_cons, List.not_mem_nil, or_false] at hn)
  | ((with_reducible refine' w_ixTi (SqT.of ?e1) ?e2 ?e3 ?e4 ?_); (case e1 => walk_at "k"); (case e2 => exact rfl); (case e3 => omega); (case e4 => (simp only [unV, List.length_cons, List.length_nil]; omega)); intro n hn; simp only [unV, List.mem_cons, List.not_mem_nil, or_false] at hn)
  | ((with_reducible refine' w_ixLast (SqL.of ?e1) ?e3 ?_); (case e1 => walk_at "k"); (case e3 => assumption); intro ini n hn)
  | ((with_reducible refine' w_ixLm (SqL.of ?e1) ?e3 ?e4 ?_); (case e1 => walk_at "k"); (case e3 => omega); (case e4 => (first | omega | (simp only [List.length_append, List.length_cons, List.length_nil, List.length_set]; omega))); intro n hn)
  | ((with_reducible refine' w_lenI (SqL.of ?e1) ?_); (case e1 => walk_at "k"))
  | ((with_reducible refine' w_len (SqL.of ?e1) ?_); (case e1 => walk_at "k"))
  | ((with_reducible refine' w_tyL ?e1 ?_); (case e1 => walk_at "k"))
  | ((with_reducible refine' w_appendI ?e1 ?e2 ?_); (case e1 => walk_at "k"); (case e2 => omega))
  | with_reducible refine w_max2 ?_
  | with_reducible refine w_min2 ?_
  | with_reducible refine w_abs ?_
  | with_reducible refine w_intI ?_
  | with_reducible refine w_intB ?_
  | ((with_reducible refine' w_sum (SqL.of ?e1) ?_); (case e1 => walk_at "k"))
  | ((with_reducible refine' w_neNil (SqL.of ?e1) (SqL.of ?e2) ?_); (case e2 => walk_at "k"); (case e1 => walk_at "k"))
  | ((with_reducible refine' w_eqNil (SqL.of ?e1) (SqL.of ?e2) ?_); (case e2 => walk_at "k"); (case e1 => walk_at "k"))
  | ((with_reducible refine' w_eqLI (SqL.of ?e1) (SqL.of ?e2) ?_); (case e1 => walk_at "k"); (case e2 => walk_at "k"))
  | ((with_reducible refine' w_neLI (SqL.of ?e1) (SqL.of ?e2) ?_); (case e1 => walk_at "k"); (case e2 => walk_at "k"))
  | with_reducible refine w_for ?_
  | with_reducible refine w_lc ?_
  | with_reducible refine w_iList ?_
  | with_reducible refine w_iTup ?_
  | ((with_reducible refine' w_iTupE (SqT.of ?e1) ?_); (case e1 => walk_at "k"))
  | with_reducible refine w_rng1 ?_
  | with_reducible refine w_rng2 ?_
  | ((with_reducible refine' w_iListE (SqL.of ?e1) ?_); (case e1 => walk_at "k"))
  | ((with_reducible refine w_rng1E ?_ ?_ ?_); omega; omega)
  | ((with_reducible refine w_rng2E ?_ ?_); omega)
  | with_reducible refine w_fldaug ?_
  | ((with_reducible refine' w_fldP ?e1 ?e2 ?e3 ?e4 ?e5 ?_); (case e1 => walk_at "k"); (case e2 => assumption); (case e3 => assumption); (case e4 => exact Nat.le_of_ble_eq_true rfl); (case e5 => walk_at "fl"))
  | ((with_reducible refine' w_fldA ?e1 ?e2 ?e3 ?e5 ?_); (case e1 => walk_at "k"); (case e2 => assumption); (case e3 => assumption); (case e5 => walk_at "fl"))
  | ((with_reducible refine' w_fldQ ?e1 ?e4 ?e5 ?_); (case e1 => walk_at "k"); (case e4 => exact Nat.le_of_ble_eq_true rfl); (case e5 => walk_at "fl"))
  | ((with_reducible refine' w_fldG ?e1 ?e2 ?e3 ?e5 ?_); (case e1 => walk_at "k"); (case e2 => assumption); (case e3 => assumption); (case e5 => walk_at "fl"))
  | with_reducible refine w_meth ?_
  | ((with_reducible refine' w_methE ?e1 ?e5 ?_); (case e1 => walk_at "k"); (case e5 => walk_at "fl"))
  | with_reducible refine w_prop ?_
  | ((with_reducible refine' w_propE ?e1 ?_); (case e1 => walk_at "k"))
  | with_reducible refine w_make ?_
  | with_reducible refine w_rAdd ?_
  | with_reducible refine w_rSub ?_
  | ((with_reducible refine' w_listof (SqL.of ?e1) ?_); (case e1 => walk_at "k"); intro p np)
  | with_reducible refine w_tYes ?_
  | ((with_reducible refine' w_appEI ?e1 ?e2 ?_); (case e1 => walk_at "k"); (case e2 => omega))
  | ((with_reducible refine' w_appEB ?e1 ?e2 ?_); (case e1 => walk_at "k"); (case e2 => omega))
  | with_reducible refine w_whT ?_
  | with_reducible refine w_lenSet ?_
  | ((with_reducible refine' w_lenSE (SqL.of ?e1) ?e2 ?_); (case e1 => walk_at "k"); (case e2 => omega))
  | ((with_reducible refine' w_isi ?e1 ?e2 ?_); (case e1 => (first | exact .base (.int _) | exact .base .non | exact .base (.bl _) | exact .base (.str _) | (refine' tyx_lst ?f1; (case f1 => walk_at "k")) | (refine' tyx_tup ?f1; (case f1 => walk_at "k")))); (case e2 => (first | exact kit_ty (r := true) (by decide +kernel) | exact kit_ty (r := false) (by decide +kernel))))
  | with_reducible refine w_sortKw ?_
  | ((with_reducible refine' w_sortedKw (SqL.of ?e1) ?_); (case e1 => walk_at "k"); intro ns' p hperm hord np)
  | ((with_reducible refine' w_sortedI (SqL.of ?e1) ?_); (case e1 => walk_at "k"); intro ns' p hperm hord np)
  | ((with_reducible refine' w_extendI ?e1 ?e2 ?e3 ?_); (case e1 => walk_at "k"); (case e2 => walk_at "k"); (case e3 => (first | omega | (simp only [List.length_replicate]; omega))))
  | ((with_reducible refine' w_rep1 ?e1 ?e2 ?e3 ?_); (case e1 => walk_at "k"); (case e2 => omega); (case e3 => omega); intro p np)
  | ((with_reducible refine' w_maxL (SqL.of ?e1) ?e2 ?_); (case e1 => walk_at "k"); (case e2 => (first | omega | (simp; done))); intro m hm hle)
  | ((with_reducible refine' w_minL (SqL.of ?e1) ?e2 ?_); (case e1 => walk_at "k"); (case e2 => (first | omega | (simp; done))); intro m hm hle)
  | ((with_reducible refine' w_catI ?e1 ?e2 ?e3 ?_); (case e1 => walk_at "k"); (case e2 => walk_at "k"); (case e3 => (first | omega | (simp only [List.length_replicate]; omega))); intro p np)
  | ((with_reducible refine' w_catIL ?e1 ?e2 ?e3 ?e4 ?_); (case e1 => walk_at "k"); (case e2 => walk_at "k"); (case e3 => exact rfl); (case e4 => (simp only [unV, List.length_cons, List.length_nil]; omega)); intro p np; dsimp only [unV])
  | ((with_reducible refine' w_catLI ?e1 ?e2 ?e3 ?e4 ?_); (case e1 => walk_at "k"); (case e2 => walk_at "k"); (case e3 => exact rfl); (case e4 => (simp only [unV, List.length_cons, List.length_nil]; omega)); intro p np; dsimp only [unV])
  | with_reducible refine w_callK0 ?_
  | ((with_reducible refine w_kwE ?e1 ?_); (case e1 => exact rfl))
  | with_reducible refine w_makeK ?_
  | ((with_reducible refine w_mkE ?e1 ?_); (case e1 => exact rfl))
  | with_reducible refine w_methK ?_
  | ((with_reducible refine' w_methKE ?e1 ?e5 ?_); (case e1 => walk_at "k"); (case e5 => walk_at "fl"))
  | ((with_reducible refine w_mkwE ?e1 ?_); (case e1 => exact rfl))
  | with_reducible refine w_enum ?_
  | with_reducible refine w_zip ?_
  | with_reducible refine w_gNil ?_
  | with_reducible refine w_gCons ?_
  | ((with_reducible refine' w_gTup (SqT.of ?e1) ?e2 ?_); (case e1 => walk_at "k"); (case e2 => exact rfl))
  | ((with_reducible refine' w_gLst (SqL.of ?e1) ?e2 ?_); (case e1 => walk_at "k"); (case e2 => exact rfl))
  | ((with_reducible refine' w_enumE (SqL.of ?e1) ?_); (case e1 => walk_at "k"))
  | ((with_reducible refine' w_zipE (SqL.of ?e1) (SqL.of ?e2) ?_); (case e1 => walk_at "k"); (case e2 => walk_at "k"))
  | with_reducible refine w_dget ?_
  | ((with_reducible refine' w_dgetE ?e1 ?e5 ?_); (case e1 => walk_at "k"); (case e5 => walk_at "dl"))
  | with_reducible refine w_dput ?_
  | ((with_reducible refine' w_dputE ?e1 ?e4 ?e5 ?_); (case e1 => walk_at "k"); (case e4 => exact Nat.le_of_ble_eq_true rfl); (case e5 => walk_at "dl"))
  | with_reducible refine w_daug ?_
  | ((with_reducible refine' w_daugE ?e1 ?e5 ?_); (case e1 => walk_at "k"); (case e5 => walk_at "dl"))
  | (with_reducible refine w_disp ?_; intro p np)
  | with_reducible refine w_pairN ?_
  | (with_reducible refine w_dnewK ?_; intro p np)
  | with_reducible refine w_dnotIn ?_
  | ((with_reducible refine' w_dnotInE ?e1 ?_); (case e1 => walk_at "k"))
  | with_reducible refine w_pairC ?_
  | ((with_reducible refine' w_dspE ?e1 ?e2 ?e3 ?e4 ?_); (case e1 => walk_at "k"); (case e2 => exact rfl); (case e3 => exact Nat.le_of_ble_eq_true rfl); (case e4 => walk_at "dn"))
  | ((with_reducible refine' w_pop0 ?e1 ?_); (case e1 => walk_at "k"))
  | ((with_reducible refine' w_reprI (log_lt ?e1) ?_); (case e1 => omega))
  | with_reducible refine w_eqS ?_
  | with_reducible refine w_eqB ?_
  | with_reducible refine w_neB ?_
  | with_reducible refine w_neS ?_
  | with_reducible refine w_sl ?_
  | with_reducible refine w_noPart ?_
  | with_reducible refine w_part ?_
  | with_reducible refine w_partE ?_
  | ((with_reducible refine' w_slI (SqL.of ?e1) ?_); (case e1 => walk_at "k"); intro p np)
  | ((with_reducible refine' w_lcount (SqL.of ?e1) ?_); (case e1 => walk_at "k"))
  | ((with_reducible refine' w_popAt ?e1 ?e2 ?e3 ?e4 ?_); (case e1 => walk_at "k"); (case e2 => omega); (case e3 => omega); (case e4 => omega); intro n hn)
  | ((with_reducible refine' w_setLI ?e1 ?e2 ?e3 ?_); (case e1 => walk_at "k"); (case e2 => omega); (case e3 => (first | omega | (simp only [List.length_set]; omega))))
  | ((with_reducible refine' w_catLL ?e1 ?e2 ?e3 ?e4 ?e5 ?_); (case e1 => walk_at "k"); (case e2 => walk_at "k"); (case e3 => exact rfl); (case e4 => exact rfl); (case e5 => exact Nat.le_of_ble_eq_true rfl); intro p np; dsimp only [unV])
  | with_reducible refine w_andV ?_
  | with_reducible refine w_orV ?_
  | with_reducible refine w_notV ?_
  | with_reducible refine w_revL ?_
  | ((with_reducible refine' w_revE (SqL.of ?e1) ?_); (case e1 => walk_at "k"); intro p np)
  | with_reducible refine w_gThen ?_
  | with_reducible refine w_gWh ?_
  | with_reducible refine w_listG ?_
  | with_reducible refine w_callG ?_
  | (with_reducible refine w_listGE ?_; intro p np)
  | with_reducible refine w_gPlain ?_
  | ((with_reducible refine w_gYield ?_ ?_); omega)
  | with_reducible refine w_g0 ?_
  | with_reducible refine w_at ?_
  | with_reducible refine w_rng3 ?_
  | ((with_reducible refine' w_appendR ?e1 ?e2 ?_); (case e1 => walk_at "k"); (case e2 => omega))
  | ((with_reducible refine w_rng3N ?_ ?_); omega)
  | with_reducible refine w_sls ?_
  | with_reducible refine w_isNN ?_
  | with_reducible refine w_isNI ?_
  | with_reducible refine w_isNR ?_
  | with_reducible refine w_notNN ?_
  | with_reducible refine w_notNI ?_
  | with_reducible refine w_notNR ?_
  | with_reducible refine w_orT ?_
  | with_reducible refine w_orN ?_
  | ((with_reducible refine' w_orI ?e1 ?_); (case e1 => omega))
  | ((with_reducible refine' w_rep3 ?e1 ?_); (case e1 => walk_at "k"); intro p np)
  | ((with_reducible refine' w_appV ?e1 ?e2 ?_); (case e1 => walk_at "k"); (case e2 => exact Nat.le_of_ble_eq_true rfl))
  | refine ⟨szle rfl, fun p np => ?_⟩)
local macro_rules | `(tactic| walk_at "g") => `(tactic| repeat walk_at "1")
local macro_rules | `(tactic| walk_at "H") => `(tactic| first | walk_at "k" | fail "heap")
local macro_rules | `(tactic| walk_at "F") => `(tactic| first | walk_at "f" | fail "frame")
local macro_rules | `(tactic| walk_at "Z") => `(tactic| first | walk_at "z" | fail "free")
local macro_rules | `(tactic| walk_at "N") => `(tactic| first | walk_at "n" | fail "differ")
local macro_rules | `(tactic| walk_at "P") => `(tactic| first | walk_at "p" | fail "pool")
local macro_rules | `(tactic| walk_at "G") => `(tactic| first | walk_at "1" | fail "step")
local macro_rules | `(tactic| walk_at "c") => `(tactic| first
  | with_reducible assumption
  | ((with_reducible refine wide_div (b := 400) ?_ ?_ (by decide) (by decide)) <;> omega)
  | ((with_reducible refine wide_mul (a := 400) (b := 400) ?_ ?_ (by decide) (by decide) (by decide)) <;> omega)
  | ((with_reducible refine CPowW.of 400 (by decide) ?_ (by decide) (by decide)); omega)
  | ((with_reducible show (0 : Int) < _); first | decide | omega))
namespace K17
open PySem PySem.Spec PyProof.Rows L2 Pg
def top (i : Nat) : Stmt := PySem.Challenge.pw_pagecounts_k17_great_numbers_of_fitting.main.body.getD i (.Pass ⟨0, 0, 0, 0⟩)
abbrev s_law_rng : Stmt := (top 12)
abbrev sc_law_rng_N : List Str := ["script", "digits", "seed", "cell", "size"]
theorem sc_law_rng : FnScope sc_law_rng_N ["script"] (defScope s_law_rng) := ⟨rfl, rfl, rfl, by decide +kernel, rfl, by decide +kernel, by decide +kernel⟩
abbrev s_law_draw : Stmt := (top 13)
abbrev sc_law_draw_N : List Str := ["rng", "limit", "found", "mixed"]
theorem sc_law_draw : FnScope sc_law_draw_N ["rng", "limit"] (defScope s_law_draw) := ⟨rfl, rfl, rfl, by decide +kernel, rfl, by decide +kernel, by decide +kernel⟩
abbrev s_law_counted : Stmt := (top 14)
abbrev sc_law_counted_N : List Str := ["some", "wide", "one"]
theorem sc_law_counted : FnScope sc_law_counted_N ["some", "wide"] (defScope s_law_counted) := ⟨rfl, rfl, rfl, by decide +kernel, rfl, by decide +kernel, by decide +kernel⟩
abbrev s_check_fitting : Stmt := (top 5)
abbrev sc_check_fitting_N : List Str := ["chapters", "lines", "chain", "number", "before", "index", "size", "pages"]
theorem sc_check_fitting : FnScope sc_check_fitting_N ["chapters", "lines", "chain"] (defScope s_check_fitting) := ⟨rfl, rfl, rfl, by decide +kernel, rfl, by decide +kernel, by decide +kernel⟩
abbrev s_binomial : Stmt := (top 6)
abbrev sc_binomial_N : List Str := ["many", "few", "found", "step"]
theorem sc_binomial : FnScope sc_binomial_N ["many", "few"] (defScope s_binomial) := ⟨rfl, rfl, rfl, by decide +kernel, rfl, by decide +kernel, by decide +kernel⟩
abbrev s_sums_of_digits : Stmt := (top 7)
abbrev sc_sums_of_digits_N : List Str := ["places", "base", "total", "found", "sign", "great", "left"]
theorem sc_sums_of_digits : FnScope sc_sums_of_digits_N ["places", "base", "total"] (defScope s_sums_of_digits) := ⟨rfl, rfl, rfl, by decide +kernel, rfl, by decide +kernel, by decide +kernel⟩
abbrev s_count_of : Stmt := (top 8)
abbrev sc_count_of_N : List Str := ["chapters", "lines", "chain", "size", "pages", "left", "unit", "found", "above", "base"]
theorem sc_count_of : FnScope sc_count_of_N ["chapters", "lines", "chain"] (defScope s_count_of) := ⟨rfl, rfl, rfl, by decide +kernel, rfl, by decide +kernel, by decide +kernel⟩
abbrev s_count_fitting : Stmt := (top 9)
abbrev sc_count_fitting_N : List Str := ["chapters", "lines", "chain"]
theorem sc_count_fitting : FnScope sc_count_fitting_N ["chapters", "lines", "chain"] (defScope s_count_fitting) := ⟨rfl, rfl, rfl, by decide +kernel, rfl, by decide +kernel, by decide +kernel⟩
abbrev s_contradiction : Stmt := (top 10)
abbrev sc_contradiction_N : List Str := ["chapters", "lines", "chain", "index"]
theorem sc_contradiction : FnScope sc_contradiction_N ["chapters", "lines", "chain"] (defScope s_contradiction) := ⟨rfl, rfl, rfl, by decide +kernel, rfl, by decide +kernel, by decide +kernel⟩
abbrev s_law_ways : Stmt := (top 16)
abbrev sc_law_ways_N : List Str := ["many", "base", "found", "turn", "longer", "spot", "number", "digit"]
theorem sc_law_ways : FnScope sc_law_ways_N ["many", "base"] (defScope s_law_ways) := ⟨rfl, rfl, rfl, by decide +kernel, rfl, by decide +kernel, by decide +kernel⟩
abbrev s_law_above : Stmt := (top 17)
abbrev sc_law_above_N : List Str := ["many", "total", "found", "turn", "spot"]
theorem sc_law_above : FnScope sc_law_above_N ["many", "total"] (defScope s_law_above) := ⟨rfl, rfl, rfl, by decide +kernel, rfl, by decide +kernel, by decide +kernel⟩
abbrev s_law_due : Stmt := (top 18)
abbrev sc_law_due_N : List Str := ["some", "sizes_here", "left", "unit", "found", "known", "wide", "base", "ways", "one", "number"]
theorem sc_law_due : FnScope sc_law_due_N ["some", "sizes_here"] (defScope s_law_due) := ⟨rfl, rfl, rfl, by decide +kernel, rfl, by decide +kernel, by decide +kernel⟩
abbrev s_law_sizes : Stmt := (top 15)
abbrev sc_law_sizes_N : List Str := ["rng", "many", "most", "found", "wide", "turn"]
theorem sc_law_sizes : FnScope sc_law_sizes_N ["rng", "many", "most"] (defScope s_law_sizes) := ⟨rfl, rfl, rfl, by decide +kernel, rfl, by decide +kernel, by decide +kernel⟩
abbrev s_law : Stmt := (top 19)
abbrev sc_law_N : List Str := ["script", "rng", "lap", "sizes_here", "many", "top", "some", "rows", "due", "same", "turn", "wide"]
theorem sc_law : FnScope sc_law_N ["script"] (defScope s_law) := ⟨rfl, rfl, rfl, by decide +kernel, rfl, by decide +kernel, by decide +kernel⟩
/-- where the classes stand -/
structure Cs where
  nil_ : Unit
/-- what the top has written -/
structure Txt (K : PySem.W.Frag) (mg : Str → Option Value) (c : Cs) : Prop where
  triv_ : True
  n_abs : mg "abs" = none
  n_all : mg "all" = none
  n_enumerate : mg "enumerate" = none
  n_int : mg "int" = none
  n_len : mg "len" = none
  n_min : mg "min" = none
  n_range : mg "range" = none
  n_repr : mg "repr" = none
  n_sum : mg "sum" = none
  nd_ : PySem.W.nsIn K cStatics "sys.int_max_str_digits" = some none
  f_law_rng : FunAt K mg "_law_rng" s_law_rng
  f_law_draw : FunAt K mg "_law_draw" s_law_draw
  f_law_counted : FunAt K mg "_law_counted" s_law_counted
  f_check_fitting : FunAt K mg "check_fitting" s_check_fitting
  f_binomial : FunAt K mg "binomial" s_binomial
  f_sums_of_digits : FunAt K mg "sums_of_digits" s_sums_of_digits
  f_count_of : FunAt K mg "count_of" s_count_of
  f_count_fitting : FunAt K mg "count_fitting" s_count_fitting
  f_contradiction : FunAt K mg "contradiction" s_contradiction
  f_law_ways : FunAt K mg "_law_ways" s_law_ways
  f_law_above : FunAt K mg "_law_above" s_law_above
  f_law_due : FunAt K mg "_law_due" s_law_due
  f_law_sizes : FunAt K mg "_law_sizes" s_law_sizes
  f_law : FunAt K mg "law" s_law
def spLaw (K : PySem.W.Frag) : Sp := fun vs H Q _ => ∃ (a : Addr) (ns : List Int), vs = [.ref a] ∧ SqL K H a (ns.map V.int) ∧ ns.length ≤ 63 ∧ ∀ H', Q (.bl true) H'
section
variable {P : Program} {w : World} {K : PySem.W.Frag} {mg : Str → Option Value} {base : Heap} {c : Cs}
-- #nodigits
/-- a row of drawn numbers at a: n numbers were mixed -/
def Rng (H : Hp) (a : Addr) (n : Int) : Prop := ∃ d m t : Int, H a = some (.lst [.int d, .int m, .int t]) ∧ 0 ≤ d ∧ 0 ≤ m ∧ m < 2 ^ 64 ∧ 0 ≤ t ∧ t ≤ n
section
variable {H H' : Hp} {a p dx : Addr} {n : Int} {o u : HO} {S : List Addr}
theorem Rng.new (h : Rng H a n) (np : H p = none) : Rng (upd H p o) a n := by
  obtain ⟨d, m, t, h1, h2⟩ := h
  exact ⟨d, m, t, at_upd h1 np, h2⟩
theorem Rng.make (h : Rng H a n) (n1 : H dx = none) (n2 : H p = none) : Rng (upd (upd H dx u) p o) a n := by
  obtain ⟨d, m, t, h1, h2⟩ := h
  exact ⟨d, m, t, at_make h1 n1 n2, h2⟩
theorem Rng.ne (h : Rng H a n) (np : H p = none) : p ≠ a := by
  obtain ⟨d, m, t, h1, h2⟩ := h
  exact (ne_of_none h1 np).symm
theorem Rng.fr (h : Rng H a n) (f : Fr S H H') (ns : a ∉ S) : Rng H' a n := by
  obtain ⟨d, m, t, h1, h2⟩ := h
  exact ⟨d, m, t, f.at ns h1, h2⟩
theorem Rng.put (h : Rng H a n) (np : p ≠ a) : Rng (upd H p o) a n := by
  obtain ⟨d, m, t, h1, h2⟩ := h
  exact ⟨d, m, t, by rw [upd_ne np.symm]; exact h1, h2⟩
theorem Rng.le {k : Int} (h : Rng H a n) (hk : n ≤ k) : Rng H a k := by
  obtain ⟨d, m, t, h1, h2, h3, h4, h5, h6⟩ := h
  exact ⟨d, m, t, h1, h2, h3, h4, h5, by omega⟩
end
local macro_rules | `(tactic| walk_at "p") => `(tactic| first
  | assumption
  | (refine' Rng.make ?e2 ?e1 ?e3; (case e1 => assumption); (case e3 => assumption); (case e2 => walk_at "p"))
  | (refine' Rng.new ?e2 ?e1; (case e1 => assumption); (case e2 => walk_at "p"))
  | (refine' Rng.put ?e2 ?e1; (case e1 => walk_at "n"); (case e2 => walk_at "p"))
  | (refine' Rng.fr ?e2 ?e1 ?e3; (case e1 => assumption); (case e3 => exact List.not_mem_nil); (case e2 => walk_at "p")))
local macro_rules | `(tactic| walk_at "n") => `(tactic| first
  | assumption
  | exact Ne.symm (by assumption)
  | (refine' Rng.ne ?e2 ?e1; (case e1 => assumption); (case e2 => walk_at "p"))
  | (refine' Ne.symm (Rng.ne ?e2 ?e1); (case e1 => assumption); (case e2 => walk_at "p")))
def spRng (K : PySem.W.Frag) : Sp := fun vs H Q _ => ∃ (a : Addr) (ns : List Int), vs = [.ref a] ∧ SqL K H a (ns.map V.int) ∧ ns.length ≤ 63 ∧ ∀ p H', Fr [] H H' → H p = none → Rng H' p 0 → Q (.ref p) H'
def spDraw : Sp := fun vs H Q _ => ∃ (a : Addr) (k n : Int), vs = [.ref a, .int n] ∧ Rng H a k ∧ 0 < n ∧ n < 2 ^ 300 ∧ k < 2 ^ 40 ∧
  ∀ (r k' : Int) (H' : Hp), 0 ≤ r → r < n → k' ≤ k + 1 → Rng H' a k' → Fr [a] H H' → Q (.int r) H'
theorem spDraw.go {H : Hp} {a : Addr} {k n : Int} {Q : VK} {E : XK} (p : Rng H a k) (n0 : 0 < n) (n1 : n < 2 ^ 300) (k1 : k < 2 ^ 40)
    (h : ∀ (r k' : Int) (H' : Hp), 0 ≤ r → r < n → k' ≤ k + 1 → Rng H' a k' → Fr [a] H H' → Q (.int r) H') : spDraw ([.ref a, .int n] ++ []) H Q E := ⟨a, k, n, rfl, p, n0, n1, k1, h⟩
theorem dig_lt {d : Int} {i : Nat} (h0 : 0 ≤ d) (h : d < 2 ^ (200 * i)) (hi : i ≤ 63) : CMulW d 1000000000000000000000000000000000000000000000000000000000000 := by
  refine cmulW (a := 200 * i + 1) (b := 200) ?_ (by decide) (by omega) (by omega) (by omega)
  have h1 : (d.natAbs : Int) < ((2 ^ (200 * i) : Nat) : Int) := by
    rw [Int.natAbs_of_nonneg h0]
    simpa using h
  have h2 : d.natAbs < 2 ^ (200 * i) := by exact_mod_cast h1
  exact Nat.lt_of_lt_of_le h2 (Nat.pow_le_pow_right (by decide) (by omega))
theorem dig_next {d s : Int} {i : Nat} (hd : 0 ≤ d) (h : d < 2 ^ (200 * i)) (h0 : 0 ≤ s) (h1 : s < 1000000000000000000000000000000000000000000000000000000000000) : d * 1000000000000000000000000000000000000000000000000000000000000 + s < 2 ^ (200 * (i + 1)) := by
  have e : (2 : Int) ^ (200 * (i + 1)) = 2 ^ (200 * i) * 2 ^ 200 := by rw [Nat.mul_add, Int.pow_add]
  rw [e]
  generalize (2 : Int) ^ (200 * i) = P at h ⊢
  have h2 : (d + 1) * 1000000000000000000000000000000000000000000000000000000000000 ≤ P * 1000000000000000000000000000000000000000000000000000000000000 := Int.mul_le_mul_of_nonneg_right (by omega) (by decide)
  by_cases hP : 0 ≤ P
  · have h3 : P * 1000000000000000000000000000000000000000000000000000000000000 ≤ P * 2 ^ 200 := Int.mul_le_mul_of_nonneg_left (by decide) hP
    omega
  · omega
theorem dig_more {d : Int} {i : Nat} (hd : 0 ≤ d) (h : d < 2 ^ (200 * i)) : d < 2 ^ (200 * (i + 1)) := by
  have z := dig_next (s := 0) hd h (by decide) (by decide)
  generalize (2 : Int) ^ (200 * (i + 1)) = P at z ⊢
  omega
set_option maxHeartbeats 4000000 in
theorem ok_law_rng (T : Txt K mg c) : DefAt P w K mg base "_law_rng" s_law_rng 1 ["script"] (spRng K) := by
  refine T.f_law_rng.ok sc_law_rng (fun vs H Q E h => ?_) (fun _ _ _ _ _ _ us hl => match us, hl with | [_], _ => rfl) (fun f cdv A outer s H vs Q E hr h => ?_)
  · obtain ⟨a, ns, rfl, hS, hl, q⟩ := h
    rfl
  · obtain ⟨a, ns, rfl, hS, hl, q⟩ := h
    refine ⟨_, (pss_cons (ps_asg (pe_tup (pa_cons pe_int (pa_cons pe_int pa_nil))) (pg_tup rfl (pgs_cons (pg_name (i := 1) sc_law_rng.nd rfl (Or.inl rfl)) (pgs_cons (pg_name (i := 2) sc_law_rng.nd rfl (Or.inl rfl)) pgs_nil))))
    (pss_cons (ps_for PassesOwn.never rfl (pi_list (pe_slice sl_list (pv 0) po_none (po_some pe_int))) (pg_name (i := 3) sc_law_rng.nd rfl (Or.inl rfl)) (pss_cons (ps_set (i := 4) sc_law_rng.nd rfl (Or.inl rfl) (pe_callB call_absN (by rfl) T.n_abs (by decide +kernel) (pa_cons (pv 3) pa_nil)))
    (pss_cons (ps_if (pt_cmpR op_ge (pv 4) (pe_op op_powW pe_int pe_int) (nomark _)) (pss_one (ps_set (i := 1) sc_law_rng.nd rfl (Or.inl rfl) (pe_op op_add (pe_op op_mulW (pv 1) (pe_op op_powW pe_int pe_int)) (pe_op op_mod (pv 4) (pe_op op_powW pe_int pe_int))))) pss_nil)
    (pss_one (ps_set (i := 2) sc_law_rng.nd rfl (Or.inl rfl) (pe_op op_mod (pe_op op_add (pe_op op_add (pe_op op_mulW (pv 2) pe_int) (pe_op op_mod (pv 3) pe_int)) pe_int) pe_int))))))
    (pss_one (ps_ret (pe_lst (pa_cons (pv 1) (pa_cons (pv 2) (pa_cons pe_int pa_nil)))))))), ?_⟩
    refine w_start (σ' := [some (.ref a), none, none, none, none]) rfl ?_
    walk_at "g"
    refine w_slI (Fr.seqL (S := []) (H := H) (by walk_at "F") List.not_mem_nil hS) (fun p np => ?_)
    walk_at "g"
    refine f_list ((cutI ns none (some 63)).map V.int) (fun i σ' H' => ∃ (v w : Option V) (d b : Int), σ' = [some (.ref a), some (.int d), some (.int b), v, w] ∧ Fr [] H H' ∧ H' p = some (.lst ((cutI ns none (some 63)).map V.int)) ∧ 0 ≤ d ∧ d < 2 ^ (200 * i) ∧ 0 ≤ b ∧ b < 2 ^ 64) ?_ ?_ ?_ ?_
    · exact ⟨none, none, 0, 88675123, rfl, by walk_at "F", upd_same, by omega, by simp, by omega, by omega⟩
    · rintro i σ' H' hi ⟨v, w, d, b, rfl, f1, h1, _⟩
      exact SqL.of h1
    · rintro i x σ' H' hx ⟨v, w, d, b, rfl, f1, h1, d0, d1, b0, b1⟩
      obtain ⟨n, hn, rfl⟩ := map_at hx
      have hil := (List.getElem?_eq_some_iff.mp hn).1
      have hll := cutI_len ns none (some 63)
      have d2 := dig_lt d0 d1 (by omega)
      walk_at "g"
      have d4 : ∀ s : Int, 0 ≤ s → s < 1000000000000000000000000000000000000000000000000000000000000 → d * 1000000000000000000000000000000000000000000000000000000000000 + s < 2 ^ (200 * (i + 1)) := fun s => dig_next d0 d1
      have e0 : ∀ z : Int, 0 ≤ z % 2305843009213693951 := fun z => Int.emod_nonneg z (by decide)
      have e1 : ∀ z : Int, z % 2305843009213693951 < 2305843009213693951 := fun z => Int.emod_lt_of_pos z (by decide)
      have s0 : ∀ z : Int, 0 ≤ z % 1000000000000000000000000000000000000000000000000000000000000 := fun z => Int.emod_nonneg z (by decide)
      have s1 : ∀ z : Int, z % 1000000000000000000000000000000000000000000000000000000000000 < 1000000000000000000000000000000000000000000000000000000000000 := fun z => Int.emod_lt_of_pos z (by decide)
      have d3 : d < 2 ^ (200 * (i + 1)) := dig_more d0 d1
      refine w_ite (fun h => ?_) (fun h => ?_)
      · walk_at "g"
        exact ⟨_, _, _, _, rfl, by walk_at "F", h1, Int.add_nonneg (Int.mul_nonneg d0 (by decide)) (s0 _), d4 _ (s0 _) (s1 _), e0 _, by have := e1 (b * 1000003 + n % 2305843009213693921 + 7); omega⟩
      · walk_at "g"
        exact ⟨_, _, _, _, rfl, by walk_at "F", h1, d0, d3, e0 _, by have := e1 (b * 1000003 + n % 2305843009213693921 + 7); omega⟩
    · rintro σ' H' ⟨v, w, d, b, rfl, f1, h1, d0, d1, b0, b1⟩
      walk_at "g"
      rename_i p3 np3
      exact q p3 _ (by walk_at "F") (by walk_at "Z") ⟨d, b, 0, upd_same, d0, b0, b1, by omega, by omega⟩
local macro_rules | `(tactic| walk_at "1") => `(tactic| ((with_reducible refine' spDraw.go ?e1 ?e2 ?e3 ?e4 ?_); (case e1 => walk_at "p"); (case e2 => omega); (case e3 => omega); (case e4 => omega); intro r k' H' r0 r1 rk rp rf))
set_option maxHeartbeats 4000000 in
theorem ok_law_draw (T : Txt K mg c) : DefAt P w K mg base "_law_draw" s_law_draw 1 ["rng", "limit"] spDraw := by
  refine T.f_law_draw.ok sc_law_draw (fun vs H Q E h => ?_) (fun _ _ _ _ _ _ us hl => match us, hl with | [_, _], _ => rfl) (fun f cdv A outer s H vs Q E hr h => ?_)
  · obtain ⟨a, k, n, rfl, ⟨d, m, t, ha, d0, m0, m1, t0, t1⟩, n0, n1, k1, q⟩ := h
    rfl
  · obtain ⟨a, k, n, rfl, ⟨d, m, t, ha, d0, m0, m1, t0, t1⟩, n0, n1, k1, q⟩ := h
    refine ⟨_, (pss_cons (ps_if (pt_cmpR op_gt (pe_ix ix_list (pv 0) pe_int (fun _ _ => rfl)) pe_int (nomark _)) (pss_cons (ps_set (i := 2) sc_law_draw.nd rfl (Or.inl rfl) (pe_op op_mod (pe_ix ix_list (pv 0) pe_int (fun _ _ => rfl)) (pv 1)))
    (pss_cons (ps_asg (pe_op op_fdivW (pe_ix ix_list (pv 0) pe_int (fun _ _ => rfl)) (pv 1)) (pg_sub (pv 0) pe_int set_list))
    (pss_one (ps_ret (pv 2))))) pss_nil)
    (pss_cons (ps_asg (pe_op op_add (pe_ix ix_list (pv 0) pe_int (fun _ _ => rfl)) pe_int) (pg_sub (pv 0) pe_int set_list))
    (pss_cons (ps_set (i := 3) sc_law_draw.nd rfl (Or.inl rfl) (pe_op op_mod (pe_op op_powW (pe_op op_add (pe_ix ix_list (pv 0) pe_int (fun _ _ => rfl)) (pe_op op_mulW pe_int (pe_ix ix_list (pv 0) pe_int (fun _ _ => rfl)))) pe_int) pe_int))
    (pss_cons (ps_set (i := 3) sc_law_draw.nd rfl (Or.inl rfl) (pe_op op_mod (pe_op op_powW (pe_op op_add (pv 3) (pe_op op_mulW pe_int (pe_ix ix_list (pv 0) pe_int (fun _ _ => rfl)))) pe_int) pe_int))
    (pss_one (ps_ret (pe_op op_mod (pe_op op_fdivW (pv 3) pe_int) (pv 1)))))))), ?_⟩
    refine w_start (σ' := [some (.ref a), some (.int n), none, none]) rfl ?_
    walk_at "g"
    refine w_ite (fun hd => ?_) (fun hd => ?_)
    · walk_at "g"
      exact q _ k _ (Int.emod_nonneg _ (by omega)) (Int.emod_lt_of_pos _ n0) (by omega) ⟨_, _, _, upd_same, Int.ediv_nonneg d0 (by omega), m0, m1, t0, t1⟩ (Fr.refl.put (.inr (by simp)))
    · walk_at "g"
      exact q _ (k + 1) _ (Int.emod_nonneg _ (by omega)) (Int.emod_lt_of_pos _ n0) (by omega) ⟨_, _, _, upd_same, d0, m0, m1, by omega, by omega⟩ (Fr.refl.put (.inr (by simp)))
/-! ### tables of page counts -/
/-- how many chapters are longer than i -/
def gt (ns : List Int) (i : Int) : Int := (ns.countP fun x => decide (i < x) : Nat)
def ct (ns : List Int) (s : Int) : Int := (ns.map fun x => (x - 1) / s + 1).sum
theorem gt_cons (x : Int) (ns : List Int) (i : Int) : gt (x :: ns) i = gt ns i + if i < x then 1 else 0 := by
  unfold gt
  rw [List.countP_cons]
  by_cases h : i < x <;> simp [h]
theorem ct_cons (x : Int) (ns : List Int) (s : Int) : ct (x :: ns) s = (x - 1) / s + 1 + ct ns s := by simp [ct]
theorem gt_nonneg (ns : List Int) (i : Int) : 0 ≤ gt ns i := by unfold gt; omega
theorem gt_le (ns : List Int) (i : Int) : gt ns i ≤ ns.length := by
  unfold gt
  have := List.countP_le_length (p := fun x => decide (i < x)) (l := ns)
  omega
theorem gt_mono {ns : List Int} {i j : Int} (h : i ≤ j) : gt ns j ≤ gt ns i := by
  induction ns with
  | nil => simp [gt]
  | cons x ns ih =>
    rw [gt_cons, gt_cons]
    split <;> split <;> omega
theorem gt_zero {ns : List Int} {i : Int} (h : ∀ x ∈ ns, x ≤ i) : gt ns i = 0 := by
  induction ns with
  | nil => simp [gt]
  | cons x ns ih =>
    rw [gt_cons, ih fun y hy => h y (List.mem_cons_of_mem _ hy), if_neg (by have := h x List.mem_cons_self; omega)]
    omega
theorem gt_all {ns : List Int} {i : Int} (h : ∀ x ∈ ns, i < x) : gt ns i = ns.length := by
  induction ns with
  | nil => simp [gt]
  | cons x ns ih =>
    rw [gt_cons, ih fun y hy => h y (List.mem_cons_of_mem _ hy), if_pos (h x List.mem_cons_self)]
    simp
theorem gt_step (ns : List Int) (i : Int) : gt ns (i - 1) = gt ns i + ns.count i := by
  induction ns with
  | nil => simp [gt]
  | cons x ns ih =>
    rw [gt_cons, gt_cons, ih, List.count_cons]
    by_cases e : x = i
    · subst e
      simp
      omega
    · have : (x == i) = false := by simpa using e
      rw [this]
      simp
      split <;> split <;> omega
/-- the numbers at the multiples of s: 1*s, 2*s, .. m*s -/
def mults (ns : List Int) (s : Int) : Nat → Int
  | 0 => 0
  | m + 1 => mults ns s m + gt ns ((m + 1 : Nat) * s)
theorem mults_cons (x : Int) (ns : List Int) (s : Int) : ∀ m, mults (x :: ns) s m = mults ns s m + mults [x] s m
  | 0 => rfl
  | m + 1 => by
    show mults (x :: ns) s m + gt (x :: ns) _ = mults ns s m + gt ns _ + (mults [x] s m + gt [x] _)
    rw [mults_cons x ns s m, gt_cons, gt_cons]
    have : gt [] (((m + 1 : Nat) : Int) * s) = 0 := rfl
    rw [this]
    omega
theorem mults_one {x s : Int} (hs : 1 ≤ s) (hx : 1 ≤ x) : ∀ m : Nat, mults [x] s m = if (m : Int) ≤ (x - 1) / s then (m : Int) else (x - 1) / s
  | 0 => by
    have : 0 ≤ (x - 1) / s := Int.ediv_nonneg (by omega) (by omega)
    show (0 : Int) = _
    rw [if_pos (by simpa using this)]
    rfl
  | m + 1 => by
    have ih := mults_one hs hx m
    have key : (((m + 1 : Nat) : Int) * s < x) ↔ ((m + 1 : Nat) : Int) ≤ (x - 1) / s := by
      rw [Int.le_ediv_iff_mul_le (by omega)]
      omega
    show mults [x] s m + gt [x] _ = _
    rw [ih, gt_cons]
    have z : gt [] (((m + 1 : Nat) : Int) * s) = 0 := rfl
    rw [z]
    by_cases h : ((m + 1 : Nat) : Int) ≤ (x - 1) / s
    · rw [if_pos h, if_pos (key.mpr h), if_pos (by omega)]
      omega
    · rw [if_neg h, if_neg fun q => h (key.mp q)]
      split <;> omega
/-- the page count of a size, by the numbers at its multiples -/
theorem ct_mults {s : Int} (hs : 1 ≤ s) {m : Nat} : ∀ {ns : List Int}, (∀ x ∈ ns, 1 ≤ x ∧ (x - 1) / s ≤ m) → ct ns s = ns.length + mults ns s m
  | [], _ => by
    have : ∀ m, mults [] s m = 0 := by
      intro m
      induction m with
      | zero => rfl
      | succ m ih =>
        show mults [] s m + gt [] _ = 0
        rw [ih]
        rfl
    rw [this]
    rfl
  | x :: ns, h => by
    have ih := ct_mults hs (m := m) (ns := ns) fun y hy => h y (List.mem_cons_of_mem _ hy)
    have hx := h x List.mem_cons_self
    rw [ct_cons, ih, mults_cons, mults_one hs hx.1, List.length_cons]
    split <;> omega
theorem sum_pick_go {ns L : List Int} {s : Int} (hs : 1 ≤ s) (hL : ∀ i : Nat, s < i → i < L.length → L[i]? = some (gt ns i)) : ∀ c : Nat, (∀ k : Nat, k < c → ((k : Int) + 2) * s < L.length) →
    ((((List.range c).map fun k : Nat => (2 * s + s * (k : Int)).toNat).filterMap fun i => L[i]?)).sum = mults ns s (c + 1) - gt ns s
  | 0, _ => by
    show (0 : Int) = mults ns s 0 + gt ns (((0 + 1 : Nat) : Int) * s) - gt ns s
    have e : (((0 + 1 : Nat) : Int) * s) = s := by omega
    rw [e]
    show (0 : Int) = 0 + gt ns s - gt ns s
    omega
  | c + 1, h => by
    have ih := sum_pick_go hs hL c fun k hk => h k (by omega)
    have hc := h c (by omega)
    have e1 : 2 * s + s * (c : Int) = ((c : Int) + 2) * s := by rw [Int.add_mul, Int.mul_comm s c]; omega
    have hpos : s < ((c : Int) + 2) * s := by
      rw [Int.add_mul]
      have := Int.mul_nonneg (show (0 : Int) ≤ c by omega) (show 0 ≤ s by omega)
      omega
    have e2 : (((((c : Int) + 2) * s).toNat : Nat) : Int) = ((c : Int) + 2) * s := Int.toNat_of_nonneg (by omega)
    have e3 := hL (((c : Int) + 2) * s).toNat (by omega) (by omega)
    rw [e2] at e3
    rw [List.range_succ, List.map_append, List.filterMap_append, List.sum_append, ih]
    simp only [List.map_cons, List.map_nil, e1, List.filterMap_cons, e3, List.filterMap_nil, List.sum_cons, List.sum_nil]
    show _ = mults ns s (c + 1) + gt ns (((c + 1 + 1 : Nat) : Int) * s) - gt ns s
    have e4 : ((c + 1 + 1 : Nat) : Int) * s = ((c : Int) + 2) * s := by
      congr 1
    rw [e4]
    omega
theorem pick_len (L : List Int) (lo st : Option Int) : (pickSl L lo st).length ≤ (sliceRange (sliceBounds lo none st L.length).1 (sliceBounds lo none st L.length).2.1 (sliceBounds lo none st L.length).2.2).length := List.length_filterMap_le _ _
theorem sum_pick {ns L : List Int} {s : Int} (hs : 1 ≤ s) (hL : ∀ i : Nat, s < i → i < L.length → L[i]? = some (gt ns i)) :
    ∃ m : Nat, (L.length : Int) ≤ ((m : Int) + 1) * s ∧ (pickSl L (some (2 * s)) (some s)).sum = mults ns s m - gt ns s ∧ (pickSl L (some (2 * s)) (some s)).length ≤ L.length := by
  have hsp : s > 0 := by omega
  have hneg : ¬ 2 * s < 0 := by omega
  have hb : sliceBounds (some (2 * s)) none (some s) L.length = (max 0 (min (2 * s) L.length), (L.length : Int), s) := by
    simp only [sliceBounds, Option.getD_some, hsp, if_true, hneg, if_false]
  by_cases h2 : 2 * s < L.length
  · have e : max 0 (min (2 * s) (L.length : Int)) = 2 * s := by omega
    have hcount : 0 ≤ ((L.length : Int) - 2 * s + s - 1) / s := Int.ediv_nonneg (by omega) (by omega)
    have hmul := Int.mul_ediv_self_le (x := (L.length : Int) - 2 * s + s - 1) (k := s) (by omega)
    have hmod := Int.lt_mul_ediv_self_add (x := (L.length : Int) - 2 * s + s - 1) (k := s) (by omega)
    obtain ⟨c, hc⟩ := Int.eq_ofNat_of_zero_le hcount
    have hr : sliceRange (2 * s) L.length s = (List.range c).map fun k : Nat => (2 * s + s * (k : Int)).toNat := by
      simp only [sliceRange, hsp, if_true, h2, hc, Int.toNat_natCast]
    have hcs : ((L.length : Int) - 2 * s + s - 1) / s = c := hc
    rw [hcs] at hmul hmod
    have go := sum_pick_go hs hL c fun k hk => by
      have h1 : ((k : Int) + 1) * s ≤ c * s := Int.mul_le_mul_of_nonneg_right (by omega) (by omega)
      rw [Int.mul_comm s c] at hmul
      rw [Int.add_mul] at h1 ⊢
      omega
    refine ⟨c + 1, ?_, ?_, ?_⟩
    · rw [Int.mul_comm s c] at hmod
      have : (((c + 1 : Nat) : Int) + 1) * s = c * s + 2 * s := by
        rw [Int.add_mul]
        have : ((c + 1 : Nat) : Int) * s = c * s + s := by rw [show ((c + 1 : Nat) : Int) = (c : Int) + 1 by omega, Int.add_mul]; omega
        omega
      rw [this]
      omega
    · unfold pickSl
      rw [hb, e]
      show ((sliceRange (2 * s) L.length s).filterMap fun i => L[i]?).sum = _
      rw [hr]
      exact go
    · refine Nat.le_trans (pick_len _ _ _) ?_
      rw [hb, e]
      show (sliceRange (2 * s) L.length s).length ≤ _
      rw [hr, List.length_map, List.length_range]
      have h1 : (1 : Int) * c ≤ s * c := Int.mul_le_mul_of_nonneg_right (by omega) (by omega)
      omega
  · have e : max 0 (min (2 * s) (L.length : Int)) = L.length := by omega
    have hr : pickSl L (some (2 * s)) (some s) = [] := by
      unfold pickSl
      rw [hb, e]
      show (sliceRange (L.length : Int) L.length s).filterMap _ = []
      simp [sliceRange, hsp]
    refine ⟨1, by omega, ?_, by rw [hr]; simp⟩
    rw [hr]
    show (0 : Int) = mults ns s 0 + gt ns (((0 + 1 : Nat) : Int) * s) - gt ns s
    have e : (((0 + 1 : Nat) : Int) * s) = s := by omega
    rw [e]
    show (0 : Int) = 0 + gt ns s - gt ns s
    omega
/-- the table of a book -/
def tab (ns : List Int) (g : Nat) : List Int := (List.range g).map fun i : Nat => ct ns ((i : Int) + 1)
theorem tab_len (ns : List Int) (g : Nat) : (tab ns g).length = g := by simp [tab]
theorem tab_at {ns : List Int} {g i : Nat} (h : i < g) : (tab ns g)[i]? = some (ct ns ((i : Int) + 1)) := by
  unfold tab
  rw [List.getElem?_map, List.getElem?_range h]
  rfl
theorem ct_far {ns : List Int} {s : Int} (hs : 1 ≤ s) (h : ∀ x ∈ ns, 1 ≤ x ∧ x ≤ s) : ct ns s = ns.length := by
  have := ct_mults (m := 0) hs (ns := ns) fun x hx => ⟨(h x hx).1, by rw [Int.ediv_eq_zero_of_lt (by have := h x hx; omega) (by have := h x hx; omega)]; simp⟩
  rw [this]
  show (ns.length : Int) + 0 = _
  omega
/-- what the loop of longer_counts computes -/
theorem longer_step {ns L : List Int} {g : Nat} {s : Int} (hs : 1 ≤ s) (hn : ∀ x ∈ ns, 1 ≤ x ∧ x ≤ g) (hLl : L.length = g + 1) (hL : ∀ i : Nat, s < i → i < L.length → L[i]? = some (gt ns i)) :
    ct ns s - ns.length - (pickSl L (some (2 * s)) (some s)).sum = gt ns s ∧ (pickSl L (some (2 * s)) (some s)).length ≤ g + 1 := by
  obtain ⟨m, h1, h2, h3⟩ := sum_pick hs hL
  have := ct_mults (m := m) hs (ns := ns) fun x hx => ⟨(hn x hx).1, by
    have h4 : (x - 1) / s < (m : Int) + 1 := by
      rw [Int.ediv_lt_iff_lt_mul (by omega)]
      have := hn x hx
      omega
    omega⟩
  rw [h2, this]
  exact ⟨by omega, by omega⟩
def spLonger (K : PySem.W.Frag) : Sp := fun vs H Q _ => ∃ (p : Addr) (ns : List Int) (g : Nat), vs = [.ref p] ∧ H p = some (.lst ((tab ns g).map V.int)) ∧ g ≤ 100000 ∧ ns.length ≤ 100000 ∧ (∀ x ∈ ns, 1 ≤ x ∧ x ≤ g) ∧
  ∀ (q : Addr) (H' : Hp), Fr [] H H' → H q = none → H' q = some (.lst (((List.range (g + 1)).map fun i : Nat => gt ns i).map V.int)) → Q (.ref q) H'
/-- tuples of a length and its times -/
def PairsAt (H : Hp) (ps : List Addr) (ls : List (Int × Int)) : Prop := ps.length = ls.length ∧ ∀ (i : Nat) (p : Addr) (l : Int × Int), ps[i]? = some p → ls[i]? = some l → H p = some (.tup [.int l.1, .int l.2])
theorem PairsAt.fr {H H' : Hp} {ps : List Addr} {ls : List (Int × Int)} (h : PairsAt H ps ls) (f : Fr [] H H') : PairsAt H' ps ls := ⟨h.1, fun i p l h1 h2 => f.at0 (h.2 i p l h1 h2)⟩
theorem PairsAt.snoc {H : Hp} {ps : List Addr} {ls : List (Int × Int)} {p : Addr} {l : Int × Int} (h : PairsAt H ps ls) (hp : H p = some (.tup [.int l.1, .int l.2])) : PairsAt H (ps ++ [p]) (ls ++ [l]) := by
  refine ⟨by simp [h.1], fun i q m h1 h2 => ?_⟩
  by_cases hi : i < ps.length
  · rw [List.getElem?_append_left hi] at h1
    rw [List.getElem?_append_left (by rw [← h.1]; exact hi)] at h2
    exact h.2 i q m h1 h2
  · rw [List.getElem?_append_right (by omega)] at h1
    rw [List.getElem?_append_right (by rw [← h.1]; omega), ← h.1] at h2
    by_cases e : i - ps.length = 0
    · rw [e] at h1 h2
      simp at h1 h2
      subst h1 h2
      exact hp
    · rw [List.getElem?_eq_none (by simp; omega)] at h1
      cases h1
theorem dpAll_pairs {K : PySem.W.Frag} {H : Hp} : ∀ {ps : List Addr} {ls : List (Int × Int)}, PairsAt H ps ls → DpAll K H (ps.map V.ref) (ls.map dP)
  | [], [], _ => .nil
  | [], _ :: _, h => by cases h.1
  | _ :: _, [], h => by cases h.1
  | p :: ps, l :: ls, h => .cons (.tup (SqT.of (h.2 0 p l rfl rfl)) (.cons (.int _) (.cons (.int _) .nil))) (dpAll_pairs ⟨by simpa using h.1, fun i q m h1 h2 => h.2 (i + 1) q m (by simpa using h1) (by simpa using h2)⟩)
theorem w_eqPairs {K : PySem.W.Frag} {H : Hp} {Q : VK} {a b : Addr} {ps qs : List Addr} {ls ms : List (Int × Int)} (ha : H a = some (.lst (ps.map V.ref))) (hb : H b = some (.lst (qs.map V.ref))) (h1 : PairsAt H ps ls) (h2 : PairsAt H qs ms) (k : Q (.bl (decide (ls = ms))) H) : rEqD K (.ref a) (.ref b) H Q :=
  ⟨_, _, .lst (SqL.of ha) (dpAll_pairs h1), .lst (SqL.of hb) (dpAll_pairs h2), shaped_pairs _, shaped_pairs _, by simp only [PyData.eqv]; rw [eqvAll_pairs]; exact k⟩
theorem PairsAt.app {H : Hp} {ps qs : List Addr} {ls ms : List (Int × Int)} (h : PairsAt H ps ls) (k : PairsAt H qs ms) : PairsAt H (ps ++ qs) (ls ++ ms) := by
  refine ⟨by simp [h.1, k.1], fun i q m h1 h2 => ?_⟩
  by_cases hi : i < ps.length
  · rw [List.getElem?_append_left hi] at h1
    rw [List.getElem?_append_left (by rw [← h.1]; exact hi)] at h2
    exact h.2 i q m h1 h2
  · rw [List.getElem?_append_right (by omega)] at h1
    rw [List.getElem?_append_right (by rw [← h.1]; omega), ← h.1] at h2
    exact k.2 _ q m h1 h2
theorem PairsAt.nil {H : Hp} : PairsAt H [] [] := ⟨rfl, by simp⟩
/-- a pair's address is not the list's -/
theorem PairsAt.put {H : Hp} {a : Addr} {xs ys : List V} {ps : List Addr} {ls : List (Int × Int)} (h : PairsAt H ps ls) (ha : H a = some (.lst xs)) : PairsAt (upd H a (.lst ys)) ps ls := by
  refine ⟨h.1, fun i q m h1 h2 => ?_⟩
  have e := h.2 i q m h1 h2
  have hne : q ≠ a := by
    rintro rfl
    rw [ha] at e
    cases e
  rw [upd_ne hne]
  exact e
theorem PairsAt.frL {H H' : Hp} {a : Addr} {xs : List V} {ps : List Addr} {ls : List (Int × Int)} (h : PairsAt H ps ls) (f : Fr [a] H H') (ha : H a = some (.lst xs)) : PairsAt H' ps ls := by
  refine ⟨h.1, fun i q m h1 h2 => ?_⟩
  have e := h.2 i q m h1 h2
  have hne : q ≠ a := by
    rintro rfl
    rw [ha] at e
    cases e
  exact f.at (nn2 hne) e
theorem w_neNilP {K : PySem.W.Frag} {H : Hp} {Q : VK} {a b : Addr} {ps : List Addr} {ls : List (Int × Int)} (ha : H a = some (.lst (ps.map V.ref))) (hb : H b = some (.lst [])) (h1 : PairsAt H ps ls) (k : Q (.bl (!decide (ls = []))) H) : rNeD K (.ref a) (.ref b) H Q :=
  ⟨_, _, .lst (SqL.of ha) (dpAll_pairs h1), .lst (SqL.of hb) (dpAll_pairs (ps := []) (ls := []) .nil), shaped_pairs _, shaped_pairs _, by simp only [PyData.eqv]; rw [eqvAll_pairs]; exact k⟩
theorem PairsAt.set {H : Hp} {ps : List Addr} {ls : List (Int × Int)} {t : Addr} {l : Int × Int} (h : PairsAt H ps ls) (i : Nat) (ht : H t = some (.tup [.int l.1, .int l.2])) : PairsAt H (ps.set i t) (ls.set i l) := by
  refine ⟨by rw [List.length_set, List.length_set]; exact h.1, fun j q m h1 h2 => ?_⟩
  by_cases e : i = j
  · subst e
    have hj := (List.getElem?_eq_some_iff.mp h1).1
    rw [List.length_set] at hj
    rw [List.getElem?_set_self hj] at h1
    rw [List.getElem?_set_self (by rw [← h.1]; exact hj)] at h2
    have e1 := Option.some.inj h1
    have e2 := Option.some.inj h2
    subst e1 e2
    exact ht
  · rw [List.getElem?_set_ne e] at h1 h2
    exact h.2 j q m h1 h2
/-- the lengths that the tuples tell -/
def expand (ls : List (Int × Int)) : List Int := (ls.map fun l => List.replicate l.2.toNat l.1).flatten
theorem expand_snoc (ls : List (Int × Int)) (l : Int × Int) : expand (ls ++ [l]) = expand ls ++ List.replicate l.2.toNat l.1 := by simp [expand]
theorem expand_mem {ls : List (Int × Int)} {x : Int} (h : x ∈ expand ls) : ∃ l ∈ ls, l.1 = x := by
  unfold expand at h
  obtain ⟨r, hr, hx⟩ := List.mem_flatten.mp h
  obtain ⟨l, hl, rfl⟩ := List.mem_map.mp hr
  exact ⟨l, hl, (List.mem_replicate.mp hx).2.symm⟩
/-- the tuples of all lengths above b -/
structure TimesOf (ns : List Int) (b : Int) (ls : List (Int × Int)) : Prop where
  desc : ls.Pairwise fun x y => y.1 < x.1
  above : ∀ l ∈ ls, b < l.1
  pos : ∀ l ∈ ls, 0 < l.2
  cnt : ∀ l ∈ ls, l.2 = ns.count l.1
  all : ∀ x, b < x → x ∈ ns → ∃ l ∈ ls, l.1 = x
theorem TimesOf.nil {ns : List Int} {g : Int} (h : ∀ x ∈ ns, x ≤ g) : TimesOf ns g [] := ⟨.nil, by simp, by simp, by simp, fun x h1 h2 => by have := h x h2; omega⟩
theorem TimesOf.skip {ns : List Int} {b : Int} {ls : List (Int × Int)} (h : TimesOf ns b ls) (h0 : ns.count b = 0) : TimesOf ns (b - 1) ls :=
  ⟨h.desc, fun l hl => by have := h.above l hl; omega, h.pos, h.cnt, fun x h1 h2 => h.all x (by
    by_cases e : x = b
    · subst e
      exact absurd h2 (List.count_eq_zero.mp h0)
    · omega) h2⟩
theorem TimesOf.snoc {ns : List Int} {b : Int} {ls : List (Int × Int)} (h : TimesOf ns b ls) (h0 : 0 < ns.count b) : TimesOf ns (b - 1) (ls ++ [(b, (ns.count b : Int))]) := by
  refine ⟨List.pairwise_append.mpr ⟨h.desc, by simp, fun l hl m hm => ?_⟩, fun l hl => ?_, fun l hl => ?_, fun l hl => ?_, fun x h1 h2 => ?_⟩
  · rw [List.mem_singleton.mp hm]
    exact h.above l hl
  · rcases List.mem_append.mp hl with z | z
    · have := h.above l z
      omega
    · rw [List.mem_singleton.mp z]
      show b - 1 < b
      omega
  · rcases List.mem_append.mp hl with z | z
    · exact h.pos l z
    · rw [List.mem_singleton.mp z]
      show (0 : Int) < (ns.count b : Int)
      omega
  · rcases List.mem_append.mp hl with z | z
    · exact h.cnt l z
    · rw [List.mem_singleton.mp z]
  · by_cases e : x = b
    · exact ⟨_, List.mem_append_right _ (List.mem_singleton_self _), e.symm⟩
    · obtain ⟨l, hl, e2⟩ := h.all x (by omega) h2
      exact ⟨l, List.mem_append_left _ hl, e2⟩
theorem expand_desc : ∀ {ls : List (Int × Int)}, (ls.Pairwise fun x y => y.1 < x.1) → (expand ls).Pairwise (· ≥ ·)
  | [], _ => .nil
  | l :: ls, h => by
    obtain ⟨h1, h2⟩ := List.pairwise_cons.mp h
    have e : expand (l :: ls) = List.replicate l.2.toNat l.1 ++ expand ls := by simp [expand]
    rw [e]
    refine List.pairwise_append.mpr ⟨List.pairwise_replicate.mpr (.inr (Int.le_refl _)), expand_desc h2, fun x hx y hy => ?_⟩
    rw [(List.mem_replicate.mp hx).2]
    obtain ⟨m, hm, rfl⟩ := expand_mem hy
    have := h1 m hm
    omega
theorem expand_count : ∀ {ls : List (Int × Int)} {x : Int}, (ls.Pairwise fun x y => y.1 < x.1) → (∀ l ∈ ls, 0 ≤ l.2) → (∀ l ∈ ls, l.1 = x → ((expand ls).count x : Int) = l.2) ∧ ((∀ l ∈ ls, l.1 ≠ x) → (expand ls).count x = 0)
  | [], _, _, _ => by simp [expand]
  | l :: ls, x, h, hp => by
    obtain ⟨h1, h2⟩ := List.pairwise_cons.mp h
    obtain ⟨i1, i2⟩ := expand_count (x := x) h2 fun m hm => hp m (List.mem_cons_of_mem _ hm)
    have e : expand (l :: ls) = List.replicate l.2.toNat l.1 ++ expand ls := by simp [expand]
    rw [e, List.count_append, List.count_replicate]
    have hl := hp l List.mem_cons_self
    refine ⟨fun m hm hx => ?_, fun hno => ?_⟩
    · rcases List.mem_cons.mp hm with rfl | hm
      · rw [i2 fun q hq => by have := h1 q hq; omega, if_pos (by simpa using hx)]
        omega
      · have hne : ¬ l.1 = x := by have := h1 m hm; omega
        rw [if_neg (by simpa using hne)]
        have := i1 m hm hx
        omega
    · have hne := hno l List.mem_cons_self
      rw [i2 fun q hq => hno q (List.mem_cons_of_mem _ hq), if_neg (by simpa using hne)]
theorem TimesOf.perm {ns : List Int} {ls : List (Int × Int)} (h : TimesOf ns 0 ls) (h1 : ∀ x ∈ ns, 1 ≤ x) : (expand ls).Perm ns := by
  rw [List.perm_iff_count]
  intro x
  obtain ⟨i1, i2⟩ := expand_count (x := x) h.desc fun l hl => Int.le_of_lt (h.pos l hl)
  by_cases hx : x ∈ ns
  · obtain ⟨l, hl, e⟩ := h.all x (by have := h1 x hx; omega) hx
    have a1 := i1 l hl e
    have a2 := h.cnt l hl
    rw [e] at a2
    omega
  · rw [List.count_eq_zero.mpr hx]
    refine i2 fun l hl e => ?_
    have a1 := h.pos l hl
    have a2 := h.cnt l hl
    rw [e, List.count_eq_zero.mpr hx] at a2
    omega
def spTimes (K : PySem.W.Frag) : Sp := fun vs H Q _ => ∃ (p : Addr) (ns : List Int) (g : Nat), vs = [.ref p] ∧ H p = some (.lst ((tab ns g).map V.int)) ∧ g ≤ 100000 ∧ ns.length ≤ 100000 ∧ (∀ x ∈ ns, 1 ≤ x ∧ x ≤ g) ∧
  ∀ (q : Addr) (ps : List Addr) (ls : List (Int × Int)) (H' : Hp), Fr [] H H' → H q = none → H' q = some (.lst (ps.map V.ref)) → PairsAt H' ps ls → TimesOf ns 0 ls → Q (.ref q) H'
def spLengths (K : PySem.W.Frag) : Sp := fun vs H Q _ => ∃ (p : Addr) (ns : List Int) (g : Nat), vs = [.ref p] ∧ H p = some (.lst ((tab ns g).map V.int)) ∧ g ≤ 100000 ∧ ns.length ≤ 100000 ∧ (∀ x ∈ ns, 1 ≤ x ∧ x ≤ g) ∧
  ∀ (q : Addr) (fs : List Int) (H' : Hp), Fr [] H H' → H q = none → H' q = some (.lst (fs.map V.int)) → fs.Perm ns → fs.Pairwise (· ≥ ·) → Q (.ref q) H'
theorem expand_take_le {ls : List (Int × Int)} (i : Nat) : (expand (ls.take i)).length ≤ (expand ls).length := by
  have e : expand ls = expand (ls.take i) ++ expand (ls.drop i) := by
    unfold expand
    rw [← List.flatten_append, ← List.map_append, List.take_append_drop]
  rw [e, List.length_append]
  omega
theorem ct_bound {ns : List Int} {s M : Int} (hs : 1 ≤ s) (h : ∀ x ∈ ns, 1 ≤ x ∧ x ≤ M) : 0 ≤ ct ns s ∧ ct ns s ≤ ns.length * M := by
  induction ns with
  | nil => simp [ct]
  | cons x ns ih =>
    obtain ⟨h1, h2⟩ := ih fun y hy => h y (List.mem_cons_of_mem _ hy)
    have hx := h x List.mem_cons_self
    have h3 : 0 ≤ (x - 1) / s := Int.ediv_nonneg (by omega) (by omega)
    have h4 : (x - 1) / s ≤ x - 1 := Int.ediv_le_self _ (by omega)
    rw [ct_cons, List.length_cons]
    have h5 : ((ns.length + 1 : Nat) : Int) * M = ns.length * M + M := by rw [show ((ns.length + 1 : Nat) : Int) = (ns.length : Int) + 1 by omega, Int.add_mul, Int.one_mul]
    rw [h5]
    omega
theorem tab_succ (ns : List Int) (i : Nat) : tab ns (i + 1) = tab ns i ++ [ct ns ((i : Int) + 1)] := by
  unfold tab
  rw [List.range_succ, List.map_append]
  rfl
theorem tab_mem {ns : List Int} {g : Nat} {y : Int} (h : y ∈ tab ns g) : ∃ i : Nat, i < g ∧ y = ct ns ((i : Int) + 1) := by
  obtain ⟨i, hi, e⟩ := List.mem_map.mp h
  exact ⟨i, List.mem_range.mp hi, e.symm⟩
theorem tab_perm {ns ms : List Int} (h : ns.Perm ms) (g : Nat) : tab ns g = tab ms g := by
  unfold tab ct
  congr 1
  funext i
  exact perm_sum (h.map _)
theorem ct_snoc1 {ns : List Int} {s : Int} : ct (ns ++ [1]) s = ct ns s + 1 := by
  simp [ct, List.sum_append]
theorem pw_perm_eq {xs ys : List Int} (h : xs.Perm ys) (hx : xs.Pairwise (· ≥ ·)) (hy : ys.Pairwise (· ≥ ·)) : xs = ys :=
  List.Perm.eq_of_pairwise (fun a b _ _ h1 h2 => by omega) hx hy h
theorem rev_desc {xs : List Int} (h : xs.Pairwise (· ≤ ·)) : xs.reverse.Pairwise (· ≥ ·) := List.pairwise_reverse.mpr h
def spCounted (K : PySem.W.Frag) : Sp := fun vs H Q _ => ∃ (p : Addr) (ns : List Int) (s : Int), vs = [.ref p, .int s] ∧ H p = some (.lst (ns.map V.int)) ∧ ns.length ≤ 1000 ∧ 0 < s ∧ s < 2 ^ 390 ∧ ∀ H', Fr [] H H' → Q (.int (ct ns s)) H'
def spSome : Sp := fun vs H Q _ => ∃ (a : Addr) (k m l : Int), vs = [.ref a, .int m, .int l] ∧ Rng H a k ∧ 0 ≤ m ∧ m ≤ 100 ∧ 1 ≤ l ∧ l < 2 ^ 200 ∧ k < 2 ^ 38 ∧
  ∀ (p : Addr) (xs : List Int) (k' : Int) (H' : Hp), xs.length ≤ m.toNat → (∀ x ∈ xs, 1 ≤ x ∧ x ≤ l) → k' ≤ k + 1000 → Rng H' a k' → Fr [a] H H' → H p = none → H' p = some (.lst (xs.map V.int)) → Q (.ref p) H'
set_option maxHeartbeats 4000000 in
theorem ok_law_counted (T : Txt K mg c) : DefAt P w K mg base "_law_counted" s_law_counted 1 ["some", "wide"] (spCounted K) := by
  refine T.f_law_counted.ok sc_law_counted (fun vs H Q E h => ?_) (fun _ _ _ _ _ _ us hl => match us, hl with | [_, _], _ => rfl) (fun f cdv A outer s H vs Q E hr h => ?_)
  · obtain ⟨p, ns, n, rfl, hp, hl, n0, n1, q⟩ := h
    rfl
  · obtain ⟨p, ns, n, rfl, hp, hl, n0, n1, q⟩ := h
    refine ⟨_, (pss_one (ps_ret (pe_callB (cr_sum rfl) (by rfl) T.n_sum (by decide +kernel) (pa_cons (pe_lc (own := [("one", 2)]) (tt := tYes) rfl sc_law_counted.nd (pi_list (pv 0)) (blkOk_by (N := sc_law_counted_N) (sc := defScope s_law_counted) (by decide +kernel)) (fun _ _ _ _ _ => (pg_name (i := 2) sc_law_counted.nd rfl (Or.inl rfl))) (fun _ _ _ _ _ => pts_nil) (fun _ _ _ _ _ => (pe_op op_add (pe_op op_fdivW (pe_op op_sub (pv 2) pe_int) (pv 1)) pe_int))) pa_nil)))), ?_⟩
    refine w_start (σ' := [some (.ref p), some (.int n), none]) rfl ?_
    walk_at "g"
    refine l_map ns (fun x => (x - 1) / n + 1) (SqL.of hp) (fun _ => rfl) (by omega) (fun i l H2 hi f2 Q2 k2 => ?_) (fun L H2 hL f2 h2 => ?_)
    · walk_at "g"
      exact k2 _ Fr.refl
    · walk_at "g"
      exact q _ f2
/-! ### chains: lists of numbers with a sum, lists of digits with a sum -/
/-- how many lists of p + 1 numbers (0 or greater) have the sum t -/
def PN : Nat → Nat → Nat
  | _, 0 => 1
  | 0, _ + 1 => 1
  | p + 1, t + 1 => PN p (t + 1) + PN (p + 1) t
/-- how many lists of p numbers have the sum t -/
def Pf : Nat → Int → Int
  | 0, t => if t = 0 then 1 else 0
  | p + 1, t => if t < 0 then 0 else (PN p t.toNat : Nat)
theorem Pf_neg {p : Nat} {t : Int} (h : t < 0) : Pf p t = 0 := by
  cases p with
  | zero => show (if t = 0 then (1 : Int) else 0) = 0; rw [if_neg (by omega)]
  | succ p => show (if t < 0 then (0 : Int) else _) = 0; rw [if_pos h]
theorem PN_pos : ∀ p t : Nat, 1 ≤ PN p t
  | p, 0 => by cases p <;> simp [PN]
  | 0, t + 1 => by simp [PN]
  | p + 1, t + 1 => by
    have := PN_pos p (t + 1)
    rw [PN]
    omega
theorem Pf_pos {p : Nat} {t : Int} (h : 0 ≤ t) : 1 ≤ Pf (p + 1) t := by
  show 1 ≤ (if t < 0 then (0 : Int) else _)
  rw [if_neg (by omega)]
  have := PN_pos p t.toNat
  omega
theorem Pf_nonneg (p : Nat) (t : Int) : 0 ≤ Pf p t := by
  cases p with
  | zero => show 0 ≤ (if t = 0 then (1 : Int) else 0); split <;> omega
  | succ p => show 0 ≤ (if t < 0 then (0 : Int) else _); split <;> omega
theorem Pf_step (p : Nat) (t : Int) : Pf (p + 1) t = Pf (p + 1) (t - 1) + Pf p t := by
  by_cases h : t < 0
  · rw [Pf_neg h, Pf_neg h, Pf_neg (by omega)]
    rfl
  · by_cases h0 : t = 0
    · subst h0
      rw [Pf_neg (p := p + 1) (t := 0 - 1) (by omega)]
      have e0 : ∀ m, PN m 0 = 1 := fun m => by cases m <;> simp [PN]
      cases p with
      | zero =>
        show (if (0 : Int) < 0 then (0 : Int) else ((PN 0 (Int.toNat 0) : Nat) : Int)) = 0 + (if (0 : Int) = 0 then 1 else 0)
        rw [if_neg (by omega), if_pos rfl, show Int.toNat 0 = 0 from rfl, e0]
        rfl
      | succ p =>
        show (if (0 : Int) < 0 then (0 : Int) else ((PN (p + 1) (Int.toNat 0) : Nat) : Int)) = 0 + (if (0 : Int) < 0 then (0 : Int) else ((PN p (Int.toNat 0) : Nat) : Int))
        rw [if_neg (by omega), if_neg (by omega), show Int.toNat 0 = 0 from rfl, e0, e0]
        rfl
    · obtain ⟨n, rfl⟩ : ∃ n : Nat, t = (n : Int) + 1 := ⟨(t - 1).toNat, by omega⟩
      have e1 : ((n : Int) + 1).toNat = n + 1 := by omega
      have e2 : ((n : Int) + 1 - 1).toNat = n := by omega
      cases p with
      | zero =>
        show (if (n : Int) + 1 < 0 then (0 : Int) else _) = (if (n : Int) + 1 - 1 < 0 then (0 : Int) else _) + (if (n : Int) + 1 = 0 then (1 : Int) else 0)
        rw [if_neg h, if_neg (by omega), if_neg h0, e1, e2]
        have e3 : ∀ m, PN 0 m = 1 := fun m => by cases m <;> simp [PN]
        rw [e3, e3, if_neg (by omega)]
        rfl
      | succ p =>
        show (if (n : Int) + 1 < 0 then (0 : Int) else _) = (if (n : Int) + 1 - 1 < 0 then (0 : Int) else _) + (if (n : Int) + 1 < 0 then (0 : Int) else _)
        rw [if_neg h, if_neg (by omega), if_neg h, e1, e2, PN]
        omega
/-- a number of lists of p digits below b with the sum t -/
def Wf (b : Nat) : Nat → Int → Int
  | 0, t => if t = 0 then 1 else 0
  | p + 1, t => ((List.range b).map fun d : Nat => Wf b p (t - d)).sum
theorem Wf_neg (b : Nat) : ∀ {p : Nat} {t : Int}, t < 0 → Wf b p t = 0
  | 0, t, h => by show (if t = 0 then (1 : Int) else 0) = 0; rw [if_neg (by omega)]
  | p + 1, t, h => by
    show ((List.range b).map fun d : Nat => Wf b p (t - d)).sum = 0
    have : ((List.range b).map fun d : Nat => Wf b p (t - d)) = (List.range b).map fun _ => (0 : Int) := List.map_congr_left fun d _ => Wf_neg b (by omega)
    rw [this]
    generalize List.range b = l
    induction l with
    | nil => rfl
    | cons x l ih => simp only [List.map_cons, List.sum_cons, ih]; rfl
theorem sum_range_succ (f : Nat → Int) (n : Nat) : ((List.range (n + 1)).map f).sum = ((List.range n).map f).sum + f n := by
  rw [List.range_succ, List.map_append, List.sum_append]
  simp
theorem Wf_step (b p : Nat) (t : Int) : Wf b (p + 1) t - Wf b (p + 1) (t - 1) = Wf b p t - Wf b p (t - b) := by
  show ((List.range b).map fun d : Nat => Wf b p (t - d)).sum - ((List.range b).map fun d : Nat => Wf b p (t - 1 - d)).sum = _
  have key : ∀ n : Nat, ((List.range n).map fun d : Nat => Wf b p (t - d)).sum - ((List.range n).map fun d : Nat => Wf b p (t - 1 - d)).sum = Wf b p t - Wf b p (t - n) := by
    intro n
    induction n with
    | zero => simp
    | succ n ih =>
      rw [sum_range_succ, sum_range_succ]
      have e : t - 1 - (n : Int) = t - ((n + 1 : Nat) : Int) := by omega
      rw [e]
      omega
  exact key b
theorem Wf_nonneg (b : Nat) : ∀ (p : Nat) (t : Int), 0 ≤ Wf b p t
  | 0, t => by show 0 ≤ (if t = 0 then (1 : Int) else 0); split <;> omega
  | p + 1, t => by
    show 0 ≤ ((List.range b).map fun d : Nat => Wf b p (t - d)).sum
    generalize List.range b = l
    induction l with
    | nil => simp
    | cons x l ih =>
      have := Wf_nonneg b p (t - x)
      simp only [List.map_cons, List.sum_cons]
      omega
theorem sum_ge_one {f : Nat → Int} (h0 : ∀ n, 0 ≤ f n) : ∀ (n d : Nat), d < n → f d ≤ ((List.range n).map f).sum
  | 0, d, h => by omega
  | n + 1, d, h => by
    rw [sum_range_succ]
    have pos : ∀ m : Nat, 0 ≤ ((List.range m).map f).sum := fun m => by
      induction m with
      | zero => simp
      | succ m ih =>
        rw [sum_range_succ]
        have := h0 m
        omega
    by_cases e : d = n
    · subst e
      have := pos d
      omega
    · have := sum_ge_one h0 n d (by omega)
      have := h0 n
      omega
theorem Wf_pos {b : Nat} (hb : 1 ≤ b) : ∀ {p : Nat} {t : Int}, 0 ≤ t → t ≤ p * ((b : Int) - 1) → 1 ≤ Wf b p t
  | 0, t, h0, h1 => by
    have e : t = 0 := by
      have : ((0 : Nat) : Int) * ((b : Int) - 1) = 0 := by simp
      omega
    show 1 ≤ (if t = 0 then (1 : Int) else 0)
    rw [if_pos e]
    exact Int.le_refl 1
  | p + 1, t, h0, h1 => by
    have e : ((p + 1 : Nat) : Int) * ((b : Int) - 1) = p * ((b : Int) - 1) + (b - 1) := by
      rw [show ((p + 1 : Nat) : Int) = (p : Int) + 1 by omega, Int.add_mul]
      omega
    have s0 : 0 ≤ (p : Int) * ((b : Int) - 1) := Int.mul_nonneg (by omega) (by omega)
    rw [e] at h1
    by_cases ht : t ≤ (b : Int) - 1
    · obtain ⟨d, hd⟩ : ∃ d : Nat, t = d := ⟨t.toNat, by omega⟩
      have hz : 1 ≤ Wf b p (t - d) := Wf_pos hb (by omega) (by rw [hd, Int.sub_self]; exact Int.mul_nonneg (by omega) (by omega))
      have := sum_ge_one (f := fun d : Nat => Wf b p (t - d)) (fun n => Wf_nonneg b p _) b d (by omega)
      exact Int.le_trans hz this
    · have hz : 1 ≤ Wf b p (t - ((b - 1 : Nat) : Int)) := Wf_pos hb (by omega) (by
        omega)
      have := sum_ge_one (f := fun d : Nat => Wf b p (t - d)) (fun n => Wf_nonneg b p _) b (b - 1) (by omega)
      exact Int.le_trans hz this
theorem Wf_over {b : Nat} (hb : 1 ≤ b) : ∀ {p : Nat} {t : Int}, (p : Int) * ((b : Int) - 1) < t → Wf b p t = 0
  | 0, t, h => by
    have : ((0 : Nat) : Int) * ((b : Int) - 1) = 0 := by simp
    show (if t = 0 then (1 : Int) else 0) = 0
    rw [if_neg (by omega)]
  | p + 1, t, h => by
    have e : ((p + 1 : Nat) : Int) * ((b : Int) - 1) = p * ((b : Int) - 1) + (b - 1) := by
      rw [show ((p + 1 : Nat) : Int) = (p : Int) + 1 by omega, Int.add_mul]
      omega
    rw [e] at h
    show ((List.range b).map fun d : Nat => Wf b p (t - d)).sum = 0
    have : ((List.range b).map fun d : Nat => Wf b p (t - d)) = (List.range b).map fun _ => (0 : Int) := List.map_congr_left fun d hd => Wf_over hb (by
      have := List.mem_range.mp hd
      omega)
    rw [this]
    generalize List.range b = l
    induction l with
    | nil => rfl
    | cons x l ih => simp only [List.map_cons, List.sum_cons, ih]; rfl
theorem Wf_iff {b : Nat} (hb : 1 ≤ b) {p : Nat} {t : Int} : 1 ≤ Wf b p t ↔ 0 ≤ t ∧ t ≤ p * ((b : Int) - 1) := by
  constructor
  · intro h
    by_cases h0 : t < 0
    · rw [Wf_neg b h0] at h
      omega
    · by_cases h1 : (p : Int) * ((b : Int) - 1) < t
      · rw [Wf_over hb h1] at h
        omega
      · omega
  · rintro ⟨h0, h1⟩
    exact Wf_pos hb h0 h1
/-- differences by steps of b -/
def Df (b : Int) : Nat → (Int → Int) → Int → Int
  | 0, f, t => f t
  | p + 1, f, t => Df b p f t - Df b p f (t - b)
theorem Df_sub (b : Int) (f g : Int → Int) : ∀ (p : Nat) (t : Int), Df b p (fun s => f s - g s) t = Df b p f t - Df b p g t
  | 0, t => rfl
  | p + 1, t => by
    show Df b p _ t - Df b p _ (t - b) = Df b p f t - Df b p f (t - b) - (Df b p g t - Df b p g (t - b))
    rw [Df_sub b f g p, Df_sub b f g p]
    omega
theorem Df_shift (b c : Int) (f : Int → Int) : ∀ (p : Nat) (t : Int), Df b p (fun s => f (s - c)) t = Df b p f (t - c)
  | 0, t => rfl
  | p + 1, t => by
    show Df b p _ t - Df b p _ (t - b) = Df b p f (t - c) - Df b p f (t - c - b)
    rw [Df_shift b c f p, Df_shift b c f p, show t - b - c = t - c - b by omega]
theorem Df_neg {b : Int} (hb : 0 ≤ b) {f : Int → Int} (hf : ∀ s, s < 0 → f s = 0) : ∀ (p : Nat) {t : Int}, t < 0 → Df b p f t = 0
  | 0, t, h => hf t h
  | p + 1, t, h => by
    show Df b p f t - Df b p f (t - b) = 0
    rw [Df_neg hb hf p h, Df_neg hb hf p (by omega)]
    rfl
/-- inclusion and exclusion -/
theorem Wf_Df (b : Nat) : ∀ (p : Nat) (t : Int), Wf b p t = Df b p (Pf p) t
  | 0, t => rfl
  | p + 1, t => by
    have go : ∀ n : Nat, Wf b (p + 1) ((n : Int) - 1) = Df b (p + 1) (Pf (p + 1)) ((n : Int) - 1) := by
      intro n
      induction n with
      | zero => rw [Wf_neg b (by omega), Df_neg (by omega) (fun s h => Pf_neg h) _ (by omega)]
      | succ n ih =>
        have e : ((n + 1 : Nat) : Int) - 1 = n := by omega
        rw [e]
        have h1 := Wf_step b p n
        have h2 : Df b (p + 1) (Pf (p + 1)) n - Df b (p + 1) (Pf (p + 1)) ((n : Int) - 1) = Df b (p + 1) (Pf p) n := by
          rw [← Df_shift b 1 (Pf (p + 1)), ← Df_sub]
          congr 1
          funext s
          have := Pf_step p s
          omega
        have h3 : Df b (p + 1) (Pf p) n = Df b p (Pf p) n - Df b p (Pf p) ((n : Int) - b) := rfl
        rw [← Wf_Df b p, ← Wf_Df b p] at h3
        omega
    by_cases h : t < 0
    · rw [Wf_neg b h, Df_neg (by omega) (fun s h => Pf_neg h) _ h]
    · have := go (t + 1).toNat
      have e : (((t + 1).toNat : Nat) : Int) - 1 = t := by omega
      rw [e] at this
      exact this
/-- binomials -/
def ch : Nat → Nat → Nat
  | _, 0 => 1
  | 0, _ + 1 => 0
  | n + 1, k + 1 => ch n k + ch n (k + 1)
theorem ch_gt : ∀ {n k : Nat}, n < k → ch n k = 0
  | n, 0, h => by omega
  | 0, k + 1, _ => rfl
  | n + 1, k + 1, h => by
    rw [ch, ch_gt (by omega), ch_gt (by omega)]
theorem ch_succ : ∀ n k : Nat, ch n (k + 1) * (k + 1) = ch n k * (n - k)
  | 0, k => by simp [ch]
  | n + 1, 0 => by
    have h := ch_succ n 0
    have e : ∀ m, ch m 0 = 1 := fun m => by cases m <;> rfl
    have e2 : ch (n + 1) (0 + 1) = ch n 0 + ch n (0 + 1) := rfl
    rw [e2, Nat.add_mul, h, e, e]
    omega
  | n + 1, k + 1 => by
    have h1 := ch_succ n (k + 1)
    have h2 := ch_succ n k
    rw [ch, ch]
    have e1 : n + 1 - (k + 1) = n - k := by omega
    rw [e1, Nat.add_mul, h1, Nat.add_mul, ← h2]
    by_cases hk : k + 1 ≤ n
    · have e3 : ch n (k + 1) * (n - k) = ch n (k + 1) * (n - (k + 1)) + ch n (k + 1) := by
        rw [show n - k = (n - (k + 1)) + 1 by omega, Nat.mul_add, Nat.mul_one]
      have e4 : ch n (k + 1) * (k + 1 + 1) = ch n (k + 1) * (k + 1) + ch n (k + 1) := by rw [Nat.mul_add, Nat.mul_one]
      omega
    · rw [ch_gt (n := n) (k := k + 1) (by omega)]
      simp
theorem ch_one : ∀ n, ch n n = 1
  | 0 => rfl
  | n + 1 => by rw [ch, ch_one n, ch_gt (by omega)]
theorem PN_ch : ∀ p t : Nat, PN p t = ch (t + p) p
  | p, 0 => by
    rw [Nat.zero_add, ch_one]
    cases p <;> simp [PN]
  | 0, t + 1 => by simp [PN, ch]
  | p + 1, t + 1 => by
    rw [PN, PN_ch p (t + 1), PN_ch (p + 1) t, show t + 1 + (p + 1) = t + 1 + p + 1 by omega, ch, show t + (p + 1) = t + 1 + p by omega]
/-- the sum of sums_of_digits up to a term -/
def Af (b : Int) (p : Nat) (f : Int → Int) (t : Int) : Nat → Int
  | 0 => 0
  | n + 1 => Af b p f t n + (if n % 2 = 0 then 1 else -1) * (ch p n : Nat) * f (t - n * b)
theorem Af_next (b : Int) (p : Nat) (f : Int → Int) (t : Int) : ∀ n, Af b (p + 1) f t (n + 1) = Af b p f t (n + 1) - Af b p f (t - b) n
  | 0 => by
    show 0 + _ * ((ch (p + 1) 0 : Nat) : Int) * _ = 0 + _ * ((ch p 0 : Nat) : Int) * _ - 0
    have e : ∀ m, ch m 0 = 1 := fun m => by cases m <;> rfl
    rw [e, e]
    omega
  | n + 1 => by
    have ih := Af_next b p f t n
    show Af b (p + 1) f t (n + 1) + (if (n + 1) % 2 = 0 then (1 : Int) else -1) * ((ch (p + 1) (n + 1) : Nat) : Int) * f (t - ((n + 1 : Nat) : Int) * b) =
      Af b p f t (n + 1) + (if (n + 1) % 2 = 0 then (1 : Int) else -1) * ((ch p (n + 1) : Nat) : Int) * f (t - ((n + 1 : Nat) : Int) * b) - (Af b p f (t - b) n + (if n % 2 = 0 then (1 : Int) else -1) * ((ch p n : Nat) : Int) * f (t - b - (n : Int) * b))
    have e1 : t - b - (n : Int) * b = t - ((n + 1 : Nat) : Int) * b := by
      rw [show ((n + 1 : Nat) : Int) = (n : Int) + 1 by omega, Int.add_mul]
      omega
    have e2 : (if (n + 1) % 2 = 0 then (1 : Int) else -1) = -(if n % 2 = 0 then (1 : Int) else -1) := by
      by_cases h : n % 2 = 0
      · rw [if_pos h, if_neg (by omega)]
      · rw [if_neg h, if_pos (by omega)]
        rfl
    rw [e1, e2, ih, ch, show ((ch p n + ch p (n + 1) : Nat) : Int) = (ch p n : Int) + (ch p (n + 1) : Int) by omega]
    generalize (if n % 2 = 0 then (1 : Int) else -1) = s
    rw [Int.mul_add, Int.add_mul]
    have : -s * (ch p n : Int) * f (t - ((n + 1 : Nat) : Int) * b) = -(s * (ch p n : Int) * f (t - ((n + 1 : Nat) : Int) * b)) := by
      rw [Int.neg_mul, Int.neg_mul]
    rw [this]
    omega
theorem Af_Df (b : Int) : ∀ (p : Nat) (f : Int → Int) (t : Int), Df b p f t = Af b p f t (p + 1)
  | 0, f, t => by
    show f t = 0 + (1 : Int) * ((1 : Nat) : Int) * f (t - ((0 : Nat) : Int) * b)
    simp
  | p + 1, f, t => by
    show Df b p f t - Df b p f (t - b) = _
    rw [Af_next, Af_Df b p f t, Af_Df b p f (t - b)]
    have : Af b p f t (p + 1 + 1) = Af b p f t (p + 1) := by
      show Af b p f t (p + 1) + _ * ((ch p (p + 1) : Nat) : Int) * _ = _
      rw [ch_gt (by omega)]
      simp
    rw [this]
/-- the terms beyond are none -/
theorem Af_stop {b : Int} (hb : 0 ≤ b) {p : Nat} {f : Int → Int} (hf : ∀ s, s < 0 → f s = 0) {t : Int} {n : Nat} (h : t - n * b < 0) : ∀ k, Af b p f t (n + k) = Af b p f t n
  | 0 => rfl
  | k + 1 => by
    show Af b p f t (n + k) + _ * _ * f (t - ((n + k : Nat) : Int) * b) = _
    have : ((n + k : Nat) : Int) * b = n * b + k * b := by rw [show ((n + k : Nat) : Int) = (n : Int) + k by omega, Int.add_mul]
    have k0 : 0 ≤ (k : Int) * b := Int.mul_nonneg (by omega) hb
    rw [Af_stop hb hf h k, hf _ (by omega)]
    simp
/-! ### books of a chain -/
def gp (c : Nat) : Int → Int → List (Int × Int) → Int
  | left, _, [] => Pf c left
  | left, unit, l :: rest => if l.2 - c < 0 then 0 else Wf (l.1 / unit).toNat c (left - (l.1 / unit) * (l.2 - c)) * gp c (l.2 - c) l.1 rest
def cnt (c : Nat) (n : Int) (ls : List (Int × Int)) : Int :=
  if c = 0 then (if n = 0 ∧ ∀ l ∈ ls, l.2 = 0 then 1 else 0) else if n < c then 0 else gp c (n - c) 1 ls
/-- sizes that divide one another, going up -/
def Chain : Int → List (Int × Int) → Prop
  | _, [] => True
  | u, l :: rest => u ≤ l.1 ∧ u ∣ l.1 ∧ Chain l.1 rest
theorem chain_base {u : Int} {l : Int × Int} (hu : 1 ≤ u) (h : u ≤ l.1) : 1 ≤ l.1 / u := by
  have := (Int.le_ediv_iff_mul_le (c := u) (a := 1) (b := l.1) (by omega)).mpr (by omega)
  exact this
def okP (c : Nat) : Int → Int → List (Int × Int) → Prop
  | _, _, [] => True
  | left, unit, l :: rest => 0 ≤ l.2 - c ∧ (0 ≤ left - (l.1 / unit) * (l.2 - c) ∧ left - (l.1 / unit) * (l.2 - c) ≤ c * ((l.1 / unit) - 1)) ∧ okP c (l.2 - c) l.1 rest
theorem gp_nonneg (c : Nat) : ∀ (ls : List (Int × Int)) (left unit : Int), 0 ≤ gp c left unit ls
  | [], left, unit => Pf_nonneg c left
  | l :: rest, left, unit => by
    show 0 ≤ (if l.2 - c < 0 then (0 : Int) else _)
    split
    · exact Int.le_refl 0
    · exact Int.mul_nonneg (Wf_nonneg _ _ _) (gp_nonneg c rest _ _)
theorem mul_one_le {a b : Int} (ha : 0 ≤ a) (hb : 0 ≤ b) : 1 ≤ a * b ↔ 1 ≤ a ∧ 1 ≤ b := by
  constructor
  · intro h
    constructor
    · apply Int.not_lt.mp
      intro z
      have e : a = 0 := by omega
      rw [e, Int.zero_mul] at h
      omega
    · apply Int.not_lt.mp
      intro z
      have e : b = 0 := by omega
      rw [e, Int.mul_zero] at h
      omega
  · rintro ⟨h1, h2⟩
    have := Int.mul_le_mul h1 h2 (by omega) (by omega)
    omega
theorem gp_ok {c : Nat} (hc : 0 < c) : ∀ (ls : List (Int × Int)) (left unit : Int), 0 ≤ left → 1 ≤ unit → Chain unit ls → (1 ≤ gp c left unit ls ↔ okP c left unit ls)
  | [], left, unit, h0, _, _ => by
    obtain ⟨d, rfl⟩ : ∃ d, c = d + 1 := ⟨c - 1, by omega⟩
    exact ⟨fun _ => trivial, fun _ => Pf_pos h0⟩
  | l :: rest, left, unit, h0, hu, hch => by
    obtain ⟨h1, _, h3⟩ := hch
    have hb := chain_base hu h1
    show 1 ≤ (if l.2 - c < 0 then (0 : Int) else _) ↔ (0 ≤ l.2 - c ∧ _)
    by_cases hm : l.2 - c < 0
    · rw [if_pos hm]
      constructor
      · intro z; omega
      · intro z; omega
    · rw [if_neg hm, mul_one_le (Wf_nonneg _ _ _) (gp_nonneg c rest _ _), Wf_iff (by omega), gp_ok hc rest (l.2 - c) l.1 (by omega) (by omega) h3]
      have eb : (((l.1 / unit).toNat : Nat) : Int) = l.1 / unit := by omega
      rw [eb]
      constructor
      · rintro ⟨z1, z2⟩
        exact ⟨by omega, z1, z2⟩
      · rintro ⟨_, z1, z2⟩
        exact ⟨z1, z2⟩
theorem ok_zero : ∀ (ls : List (Int × Int)) (unit : Int), 1 ≤ unit → Chain unit ls → (okP 0 0 unit ls ↔ ∀ l ∈ ls, l.2 = 0)
  | [], _, _, _ => by simp [okP]
  | l :: rest, unit, hu, hch => by
    obtain ⟨h1, _, h3⟩ := hch
    have hb := chain_base hu h1
    have ih := ok_zero rest l.1 (by omega) h3
    show (0 ≤ l.2 - ((0 : Nat) : Int) ∧ (0 ≤ (0 : Int) - (l.1 / unit) * (l.2 - ((0 : Nat) : Int)) ∧ (0 : Int) - (l.1 / unit) * (l.2 - ((0 : Nat) : Int)) ≤ ((0 : Nat) : Int) * ((l.1 / unit) - 1)) ∧ okP 0 (l.2 - ((0 : Nat) : Int)) l.1 rest) ↔ _
    have e0 : l.2 - ((0 : Nat) : Int) = l.2 := by omega
    rw [e0]
    constructor
    · rintro ⟨z0, ⟨z1, _⟩, z3⟩ m hm
      have hz : l.2 = 0 := by
        have h5 : 1 * l.2 ≤ (l.1 / unit) * l.2 := Int.mul_le_mul_of_nonneg_right hb z0
        omega
      rw [hz] at z3
      rcases List.mem_cons.mp hm with rfl | hm
      · exact hz
      · exact ih.mp z3 m hm
    · intro h
      have hz := h l List.mem_cons_self
      rw [hz]
      refine ⟨by omega, ?_, ih.mpr fun m hm => h m (List.mem_cons_of_mem _ hm)⟩
      rw [Int.mul_zero]
      simp
theorem Chain.take : ∀ {ls : List (Int × Int)} {u : Int}, Chain u ls → ∀ i, Chain u (ls.take i)
  | [], _, _, i => by simp [Chain]
  | l :: rest, u, h, 0 => trivial
  | l :: rest, u, ⟨h1, h2, h3⟩, i + 1 => ⟨h1, h2, Chain.take h3 i⟩
/-- what stands for a prefix that is right -/
def right (c : Nat) (n : Int) (ls : List (Int × Int)) : Prop := (c : Int) ≤ n ∧ (c = 0 → n = 0) ∧ okP c (n - c) 1 ls
theorem cnt_right {c : Nat} {n : Int} {ls : List (Int × Int)} (h : Chain 1 ls) (hn : 0 ≤ n) : cnt c n ls ≠ 0 ↔ right c n ls := by
  unfold cnt right
  by_cases hc : c = 0
  · subst hc
    rw [if_pos rfl]
    by_cases h0 : n = 0
    · subst h0
      have e : (0 : Int) - ((0 : Nat) : Int) = 0 := by omega
      rw [e, ok_zero ls 1 (by omega) h]
      constructor
      · intro z
        refine ⟨by omega, fun _ => rfl, ?_⟩
        by_cases hz : ∀ l ∈ ls, l.2 = 0
        · exact hz
        · rw [if_neg fun q => hz q.2] at z
          exact absurd rfl z
      · rintro ⟨_, _, z⟩
        rw [if_pos ⟨rfl, z⟩]
        decide
    · rw [if_neg fun q => h0 q.1]
      constructor
      · intro z; exact absurd rfl z
      · rintro ⟨_, z, _⟩
        exact absurd (z rfl) h0
  · rw [if_neg hc]
    by_cases hl : n < c
    · rw [if_pos hl]
      constructor
      · intro z; exact absurd rfl z
      · rintro ⟨z, _⟩; omega
    · rw [if_neg hl, ← gp_ok (by omega) ls (n - c) 1 (by omega) (by omega) h]
      have := gp_nonneg c ls (n - c) 1
      constructor
      · intro z
        exact ⟨by omega, fun q => absurd q hc, by omega⟩
      · rintro ⟨_, _, z⟩
        omega
theorem cnt_nonneg (c : Nat) (n : Int) (ls : List (Int × Int)) : 0 ≤ cnt c n ls := by
  unfold cnt
  split
  · split <;> omega
  · split
    · exact Int.le_refl 0
    · exact gp_nonneg _ _ _ _
/-- the first prefix that is not right -/
def badAt (i : Nat) : Int × Int := if i = 0 then (-1, -1) else ((i : Int) - 2, (i : Int) - 1)
def FirstBad (P : Nat → Prop) (n : Nat) (d : Option (Int × Int)) : Prop := (d = none ∧ ∀ i, i ≤ n → P i) ∨ ∃ i, i ≤ n ∧ d = some (badAt i) ∧ ¬ P i ∧ ∀ j, j < i → P j
theorem FirstBad.uniq {P R : Nat → Prop} {n : Nat} {d e : Option (Int × Int)} (h : FirstBad P n d) (k : FirstBad R n e) (hr : ∀ i, i ≤ n → (P i ↔ R i)) : d = e := by
  rcases h with ⟨rfl, h⟩ | ⟨i, hi, rfl, h1, h2⟩ <;> rcases k with ⟨rfl, k⟩ | ⟨j, hj, rfl, k1, k2⟩
  · rfl
  · exact absurd ((hr j hj).mp (h j hj)) k1
  · exact absurd ((hr i hi).mpr (k i hi)) h1
  · have : i = j := by
      rcases Nat.lt_trichotomy i j with z | z | z
      · exact absurd ((hr i hi).mpr (k2 i z)) h1
      · exact z
      · exact absurd ((hr j hj).mp (h2 j z)) k1
    rw [this]
theorem FirstBad.none_iff {P : Nat → Prop} {n : Nat} {d : Option (Int × Int)} (h : FirstBad P n d) (mono : ∀ i, i ≤ n → P n → P i) : d = none ↔ P n := by
  rcases h with ⟨rfl, h⟩ | ⟨i, hi, rfl, h1, h2⟩
  · exact ⟨fun _ => h n (Nat.le_refl n), fun _ => rfl⟩
  · exact ⟨fun z => (nomatch z), fun z => absurd (mono i hi z) h1⟩
/-- conditions item by item -/
def cnd (c : Nat) (left unit : Int) (l : Int × Int) : Prop := 0 ≤ l.2 - c ∧ (0 ≤ left - (l.1 / unit) * (l.2 - c) ∧ left - (l.1 / unit) * (l.2 - c) ≤ c * ((l.1 / unit) - 1))
/-- what is left and the unit, behind some items -/
def lu (c : Nat) (left unit : Int) (ls : List (Int × Int)) : Int × Int := ls.foldl (fun _ l => (l.2 - c, l.1)) (left, unit)
theorem okP_snoc (c : Nat) : ∀ (ls : List (Int × Int)) (left unit : Int) (l : Int × Int), okP c left unit (ls ++ [l]) ↔ okP c left unit ls ∧ cnd c (lu c left unit ls).1 (lu c left unit ls).2 l
  | [], left, unit, l => by
    show (0 ≤ l.2 - c ∧ _ ∧ True) ↔ True ∧ cnd c left unit l
    unfold cnd
    constructor
    · rintro ⟨a, b, _⟩; exact ⟨trivial, a, b⟩
    · rintro ⟨_, a, b⟩; exact ⟨a, b, trivial⟩
  | m :: rest, left, unit, l => by
    have ih := okP_snoc c rest (m.2 - c) m.1 l
    show (0 ≤ m.2 - c ∧ _ ∧ okP c (m.2 - c) m.1 (rest ++ [l])) ↔ (0 ≤ m.2 - c ∧ _ ∧ okP c (m.2 - c) m.1 rest) ∧ cnd c (lu c (m.2 - c) m.1 rest).1 (lu c (m.2 - c) m.1 rest).2 l
    rw [ih]
    constructor
    · rintro ⟨a, b, d, e⟩; exact ⟨⟨a, b, d⟩, e⟩
    · rintro ⟨⟨a, b, d⟩, e⟩; exact ⟨a, b, d, e⟩
theorem lu_snoc (c : Nat) (left unit : Int) (ls : List (Int × Int)) (l : Int × Int) : lu c left unit (ls ++ [l]) = (l.2 - c, l.1) := by simp [lu]
theorem okP_mono (c : Nat) (left unit : Int) (ls : List (Int × Int)) {i j : Nat} (hij : i ≤ j) (h : okP c left unit (ls.take j)) : okP c left unit (ls.take i) := by
  have key : ∀ (as bs : List (Int × Int)) (left unit : Int), okP c left unit (as ++ bs) → okP c left unit as := by
    intro as
    induction as with
    | nil => intro _ _ _ _; trivial
    | cons a as ih =>
      intro bs left unit h
      exact ⟨h.1, h.2.1, ih bs _ _ h.2.2⟩
  have e : ls.take j = ls.take i ++ (ls.drop i).take (j - i) := by
    rw [show j = i + (j - i) by omega, List.take_add]
    congr 2
    omega
  rw [e] at h
  exact key _ _ _ _ h
/-- as check_fitting wants it: each size greater than the one before, and a multiple of it -/
def VChain : Int → List (Int × Int) → Prop
  | _, [] => True
  | u, l :: rest => u < l.1 ∧ (0 < u → l.1 % u = 0) ∧ VChain l.1 rest
theorem VChain.up : ∀ {ls : List (Int × Int)} {u : Int}, 0 < u → VChain u ls → Chain u ls
  | [], _, _, _ => trivial
  | l :: rest, u, hu, ⟨h1, h2, h3⟩ => ⟨by omega, Int.dvd_of_emod_eq_zero (h2 hu), VChain.up (by omega) h3⟩
theorem VChain.chain {ls : List (Int × Int)} (h : VChain 0 ls) : Chain 1 ls := by
  cases ls with
  | nil => trivial
  | cons l rest => exact ⟨by have := h.1; omega, Int.one_dvd _, VChain.up (by have := h.1; omega) h.2.2⟩
def spCheckF (K : PySem.W.Frag) : Sp := fun vs H Q _ => ∃ (p : Addr) (ps : List Addr) (ls : List (Int × Int)) (c n : Int), vs = [.int c, .int n, .ref p] ∧ H p = some (.lst (ps.map V.ref)) ∧ PairsAt H ps ls ∧ 0 ≤ c ∧ 0 ≤ n ∧ VChain 0 ls ∧ ps.length ≤ 1000 ∧ ∀ H', Fr [] H H' → Q .non H'
def spBin : Sp := fun vs H Q _ => ∃ (m f : Nat), vs = [.int m, .int f] ∧ m < 2 ^ 200 ∧ f ≤ 100 ∧ Q (.int (ch m f : Nat)) H
def spSums : Sp := fun vs H Q _ => ∃ (p b : Nat) (t : Int), vs = [.int p, .int b, .int t] ∧ 1 ≤ p ∧ p ≤ 60 ∧ 1 ≤ b ∧ b < 2 ^ 180 ∧ -(2 ^ 390) < t ∧ t < 2 ^ 190 ∧ Q (.int (Wf b p t)) H
structure Sized (c : Nat) (n : Int) (ls : List (Int × Int)) : Prop where
  c : c ≤ 60
  n0 : 0 ≤ n
  n1 : n < 2 ^ 150
  l : ls.length ≤ 40
  s : ∀ l ∈ ls, l.1 < 2 ^ 150 ∧ -(2 ^ 150) < l.2 ∧ l.2 < 2 ^ 150
def spCountOf (K : PySem.W.Frag) : Sp := fun vs H Q _ => ∃ (p : Addr) (ps : List Addr) (ls : List (Int × Int)) (c : Nat) (n : Int), vs = [.int c, .int n, .ref p] ∧ H p = some (.lst (ps.map V.ref)) ∧ PairsAt H ps ls ∧ Chain 1 ls ∧ Sized c n ls ∧ ∀ H', Fr [] H H' → Q (.int (cnt c n ls)) H'
def spCountF (K : PySem.W.Frag) : Sp := fun vs H Q _ => ∃ (p : Addr) (ps : List Addr) (ls : List (Int × Int)) (c : Nat) (n : Int), vs = [.int c, .int n, .ref p] ∧ H p = some (.lst (ps.map V.ref)) ∧ PairsAt H ps ls ∧ VChain 0 ls ∧ Sized c n ls ∧ ∀ H', Fr [] H H' → Q (.int (cnt c n ls)) H'
/-- None, or a tuple of two numbers -/
def DV (d : Option (Int × Int)) (v : V) (H : Hp) : Prop := (d = none ∧ v = .non) ∨ ∃ (T : Addr) (x : Int × Int), d = some x ∧ v = .ref T ∧ H T = some (.tup [.int x.1, .int x.2])
theorem DV.fr {d : Option (Int × Int)} {v : V} {H H' : Hp} (h : DV d v H) (f : Fr [] H H') : DV d v H' := by
  rcases h with h | ⟨T, x, h1, h2, h3⟩
  · exact .inl h
  · exact .inr ⟨T, x, h1, h2, f.at0 h3⟩
def spContra (K : PySem.W.Frag) : Sp := fun vs H Q _ => ∃ (p : Addr) (ps : List Addr) (ls : List (Int × Int)) (c : Nat) (n : Int), vs = [.int c, .int n, .ref p] ∧ H p = some (.lst (ps.map V.ref)) ∧ PairsAt H ps ls ∧ VChain 0 ls ∧ Sized c n ls ∧ ∀ d v H', FirstBad (fun i => cnt c n (ls.take i) ≠ 0) ls.length d → DV d v H' → Fr [] H H' → Q v H'
theorem PairsAt.take {H : Hp} {ps : List Addr} {ls : List (Int × Int)} (h : PairsAt H ps ls) (i : Nat) : PairsAt H (ps.take i) (ls.take i) := by
  refine ⟨by rw [List.length_take, List.length_take, h.1], fun j q m h1 h2 => ?_⟩
  have hj := (List.getElem?_eq_some_iff.mp h1).1
  rw [List.length_take] at hj
  rw [List.getElem?_take_of_lt (by omega)] at h1 h2
  exact h.2 j q m h1 h2
theorem ch_zero : ∀ m, ch m 0 = 1 := fun m => by cases m <;> rfl
theorem bin_step (m i : Nat) : ((ch m i : Nat) : Int) * ((m : Int) - (0 + (i : Int))) / (0 + (i : Int) + 1) = ((ch m (i + 1) : Nat) : Int) := by
  have h := ch_succ m i
  have e1 : (0 : Int) + i = i := by omega
  rw [e1]
  by_cases hi : i ≤ m
  · have e2 : (m : Int) - i = ((m - i : Nat) : Int) := by omega
    have e3 : ((ch m i : Nat) : Int) * ((m - i : Nat) : Int) = ((ch m (i + 1) : Nat) : Int) * ((i : Int) + 1) := by exact_mod_cast h.symm
    rw [e2, e3, Int.mul_ediv_cancel _ (by omega)]
  · rw [ch_gt (n := m) (k := i) (by omega), ch_gt (n := m) (k := i + 1) (by omega)]
    simp
theorem ch_le {m : Nat} (hm : m < 2 ^ 200) : ∀ k, ch m k ≤ 2 ^ (200 * k)
  | 0 => by rw [ch_zero]; exact Nat.one_le_two_pow
  | k + 1 => by
    have ih := ch_le hm k
    have h := ch_succ m k
    have h1 : ch m (k + 1) ≤ ch m (k + 1) * (k + 1) := Nat.le_mul_of_pos_right _ (by omega)
    have h2 : ch m k * (m - k) ≤ 2 ^ (200 * k) * 2 ^ 200 := Nat.mul_le_mul ih (by omega)
    rw [Nat.mul_add, Nat.pow_add, Nat.mul_one]
    omega
theorem ch_two : ∀ n k, ch n k ≤ 2 ^ n
  | n, 0 => by rw [ch_zero]; exact Nat.one_le_two_pow
  | 0, k + 1 => Nat.zero_le _
  | n + 1, k + 1 => by
    have h1 := ch_two n k
    have h2 := ch_two n (k + 1)
    rw [ch, Nat.pow_succ]
    omega
theorem bin_mul {m i : Nat} (hm : m < 2 ^ 200) (hi : i ≤ 100) : CMulW ((ch m i : Nat) : Int) ((m : Int) - (0 + (i : Int))) := by
  refine cmulW (a := 20001) (b := 201) ?_ ?_ (by decide) (by decide) (by decide)
  · have h1 := ch_le hm i
    have h2 : 2 ^ (200 * i) ≤ 2 ^ 20000 := Nat.pow_le_pow_right (by decide) (by omega)
    rw [Int.natAbs_natCast]
    exact Nat.lt_of_le_of_lt (Nat.le_trans h1 h2) (Nat.pow_lt_pow_right (by decide) (by decide))
  · omega
theorem Pf_ch {u : Nat} {t : Int} (hu : 1 ≤ u) (ht : 0 ≤ t) : Pf u t = ((ch (t.toNat + u - 1) (u - 1) : Nat) : Int) := by
  obtain ⟨p, rfl⟩ : ∃ p, u = p + 1 := ⟨u - 1, by omega⟩
  show (if t < 0 then (0 : Int) else _) = _
  rw [if_neg (by omega), PN_ch]
  rfl
theorem Pf_le {u : Nat} {t : Int} (hu : 1 ≤ u) (hu2 : u ≤ 60) (ht : t < 2 ^ 199) : Pf u t ≤ ((2 ^ 12000 : Nat) : Int) := by
  by_cases h : t < 0
  · rw [Pf_neg h]
    exact Int.natCast_nonneg _
  · rw [Pf_ch hu (by omega)]
    have h1 := ch_le (m := t.toNat + u - 1) (by omega) (u - 1)
    have h2 : 2 ^ (200 * (u - 1)) ≤ 2 ^ 12000 := Nat.pow_le_pow_right (by decide) (by omega)
    exact_mod_cast Nat.le_trans h1 h2
theorem Wf_le (b : Nat) : ∀ (p : Nat) (t : Int), Wf b p t ≤ Pf p t
  | 0, t => Int.le_refl _
  | p + 1, t => by
    have go : ∀ n : Nat, Wf b (p + 1) ((n : Int) - 1) ≤ Pf (p + 1) ((n : Int) - 1) := by
      intro n
      induction n with
      | zero => rw [Wf_neg b (by omega), Pf_neg (by omega)]; exact Int.le_refl 0
      | succ n ih =>
        have e : ((n + 1 : Nat) : Int) - 1 = n := by omega
        rw [e]
        have h1 := Wf_step b p n
        have h2 := Pf_step p n
        have h3 := Wf_le b p n
        have h4 := Wf_nonneg b p ((n : Int) - b)
        omega
    by_cases h : t < 0
    · rw [Wf_neg b h, Pf_neg h]; exact Int.le_refl 0
    · have := go (t + 1).toNat
      have e : (((t + 1).toNat : Nat) : Int) - 1 = t := by omega
      rw [e] at this
      exact this
theorem Wf_Af {b u : Nat} {t : Int} {j : Nat} (hj : j ≤ u + 1) (h : j = u + 1 ∨ t - j * b < 0) : Af b u (Pf u) t j = Wf b u t := by
  rw [Wf_Df, Af_Df]
  rcases h with rfl | h
  · rfl
  · have := Af_stop (b := (b : Int)) (by omega) (p := u) (fun s hs => Pf_neg (p := u) hs) h (u + 1 - j)
    rw [show j + (u + 1 - j) = u + 1 by omega] at this
    exact this.symm
theorem nat_mul {a b : Int} {i : Nat} (a0 : 0 ≤ a) (a1 : a ≤ ((2 ^ (12000 * i) : Nat) : Int)) (b0 : 0 ≤ b) (b1 : b ≤ ((2 ^ 12000 : Nat) : Int)) (hi : i ≤ 40) : CMulW a b := by
  refine cmulW (a := 480001) (b := 12001) ?_ ?_ (by decide) (by decide) (by decide)
  · have h1 : (a.natAbs : Int) ≤ ((2 ^ (12000 * i) : Nat) : Int) := by rw [Int.natAbs_of_nonneg a0]; exact a1
    have h2 : a.natAbs ≤ 2 ^ (12000 * i) := by exact_mod_cast h1
    exact Nat.lt_of_le_of_lt h2 (Nat.pow_lt_pow_right (by decide) (by omega))
  · have h1 : (b.natAbs : Int) ≤ ((2 ^ 12000 : Nat) : Int) := by rw [Int.natAbs_of_nonneg b0]; exact b1
    have h2 : b.natAbs ≤ 2 ^ 12000 := by exact_mod_cast h1
    exact Nat.lt_of_le_of_lt h2 (Nat.pow_lt_pow_right (by decide) (by decide))
theorem pow_step {a b : Int} {i : Nat} (a0 : 0 ≤ a) (a1 : a ≤ ((2 ^ (12000 * i) : Nat) : Int)) (b0 : 0 ≤ b) (b1 : b ≤ ((2 ^ 12000 : Nat) : Int)) : a * b ≤ ((2 ^ (12000 * (i + 1)) : Nat) : Int) := by
  rw [Nat.mul_add, Nat.pow_add, Nat.mul_one, Int.natCast_mul]
  exact Int.mul_le_mul a1 b1 b0 (Int.natCast_nonneg _)
set_option maxHeartbeats 4000000 in
theorem ok_check_fitting (T : Txt K mg c) : DefAt P w K mg base "check_fitting" s_check_fitting 1 ["chapters", "lines", "chain"] (spCheckF K) := by
  refine T.f_check_fitting.ok sc_check_fitting (fun vs H Q E h => ?_) (fun _ _ _ _ _ _ us hl => match us, hl with | [_, _, _], _ => rfl) (fun f cdv A outer s H vs Q E hr h => ?_)
  · obtain ⟨p, ps, ls, c, n, rfl, hp, hps, c0, n0, hv, lp, q⟩ := h
    rfl
  · obtain ⟨p, ps, ls, c, n, rfl, hp, hps, c0, n0, hv, lp, q⟩ := h
    refine ⟨_, (pss_cons (ps_for PassesOwn.never rfl (pi_tup (pe_tup (pa_cons (pv 0) (pa_cons (pv 1) pa_nil)))) (pg_name (i := 3) sc_check_fitting.nd rfl (Or.inl rfl)) (pss_one (ps_if (pt_cmpR op_lt (pv 3) pe_int (nomark _)) (pss_one ps_never) pss_nil)))
    (pss_cons (ps_set (i := 4) sc_check_fitting.nd rfl (Or.inl rfl) pe_int)
    (pss_one (ps_for PassesOwn.never rfl (pi_enum (by rfl) T.n_enumerate (pa_cons (pv 2) pa_nil)) (pg_tup rfl (pgs_cons (pg_name (i := 5) sc_check_fitting.nd rfl (Or.inl rfl)) (pgs_cons (pg_tup rfl (pgs_cons (pg_name (i := 6) sc_check_fitting.nd rfl (Or.inl rfl)) (pgs_cons (pg_name (i := 7) sc_check_fitting.nd rfl (Or.inl rfl)) pgs_nil))) pgs_nil))) (pss_cons (ps_if (PW.pt (pw_or (pt_cmpR op_le (pv 6) (pv 4) (nomark _)) (pw_or1 (PW.pt (pw_and (pt_cmpR op_gt (pv 4) pe_int (nomark _)) (pw_and1 (pt_cmpR op_ne (pe_op op_mod (pv 6) (pv 4)) pe_int (nomark _)))))))) (pss_one ps_never) pss_nil)
    (pss_one (ps_set (i := 4) sc_check_fitting.nd rfl (Or.inl rfl) (pv 6)))))))), ?_⟩
    refine w_start (σ' := [some (.int c), some (.int n), some (.ref p), none, none, none, none, none]) rfl ?_
    walk_at "g"
    rename_i t0 nt0
    have hp1 : upd H t0 (.tup [.int c, .int n]) p = some (.lst (ps.map V.ref)) := at_upd hp nt0
    have hps1 : PairsAt (upd H t0 (.tup [.int c, .int n])) ps ls := hps.fr (Fr.refl.new nt0)
    have f01 : Fr [] H (upd H t0 (.tup [.int c, .int n])) := Fr.refl.new nt0
    have ht : upd H t0 (.tup [.int c, .int n]) t0 = some (.tup [.int c, .int n]) := upd_same
    generalize upd H t0 (.tup [.int c, .int n]) = H1 at hp1 hps1 f01 ht ⊢
    refine f_tup [.int c, .int n] (fun i σ' H' => ∃ o : Option V, σ' = [some (.int c), some (.int n), some (.ref p), o, none, none, none, none] ∧ H' = H1) ⟨none, rfl, rfl⟩ ?_ ?_ ?_
    · rintro i σ' H' hi ⟨o, rfl, rfl⟩
      exact SqT.of ht
    · rintro i x σ' H' hx ⟨o, rfl, rfl⟩
      obtain ⟨m, rfl, hm⟩ : ∃ m, x = .int m ∧ 0 ≤ m := by
        match i, hx with
        | 0, hx => exact ⟨c, by simpa using hx.symm, c0⟩
        | 1, hx => exact ⟨n, by simpa using hx.symm, n0⟩
        | i + 2, hx => simp at hx
      walk_at "g"
      refine w_iteQ (by omega) ?_
      walk_at "g"
      exact ⟨_, rfl, rfl⟩
    · rintro σ' H' ⟨o, rfl, rfl⟩
      walk_at "g"
      refine f_enum (ps.map V.ref) (fun i σ' H'' => ∃ (o5 o6 o7 : Option V) (u : Int), σ' = [some (.int c), some (.int n), some (.ref p), o, some (.int u), o5, o6, o7] ∧ Fr [] H H'' ∧ 0 ≤ u ∧ VChain u (ls.drop i)) ⟨none, none, none, 0, rfl, f01, by omega, hv⟩ ?_ ?_ ?_
      · rintro i σ' H'' hi ⟨o5, o6, o7, u, rfl, f2, _⟩
        exact SqL.of (f2.at0 hp)
      · rintro i x T σ' H'' hx ⟨o5, o6, o7, u, rfl, f2, hu0, hv2⟩ hT
        obtain ⟨t, ht2, rfl⟩ := map_at' hx
        have hil := (List.getElem?_eq_some_iff.mp ht2).1
        have hl := hps.1
        obtain ⟨l, hl2⟩ : ∃ l, ls[i]? = some l := ⟨_, List.getElem?_eq_getElem (by omega)⟩
        have htup := f2.at0 (hps.2 i t l ht2 hl2)
        have htup2 : upd H'' T (.tup [.int i, .ref t]) t = some (.tup [.int l.1, .int l.2]) := at_upd htup hT
        have dr : ls.drop i = l :: ls.drop (i + 1) := List.drop_eq_getElem?_toList_append.trans (by rw [hl2]; rfl)
        rw [dr] at hv2
        obtain ⟨g1, g2, g3⟩ := hv2
        walk_at "g"
        refine w_iteQ (by omega) ?_
        walk_at "g"
        refine w_ite (fun hu => ?_) (fun hu => ?_)
        · have g2 := g2 hu
          walk_at "g"
          exact ⟨_, _, _, _, rfl, f2.new hT, by omega, g3⟩
        · walk_at "g"
          exact ⟨_, _, _, _, rfl, f2.new hT, by omega, g3⟩
      · rintro σ' H'' ⟨o5, o6, o7, u, rfl, f2, _⟩
        exact q _ f2
set_option maxHeartbeats 4000000 in
theorem ok_binomial (T : Txt K mg c) : DefAt P w K mg base "binomial" s_binomial 1 ["many", "few"] spBin := by
  refine T.f_binomial.ok sc_binomial (fun vs H Q E h => ?_) (fun _ _ _ _ _ _ us hl => match us, hl with | [_, _], _ => rfl) (fun f cdv A outer s H vs Q E hr h => ?_)
  · obtain ⟨m, d, rfl, hm, hd, q⟩ := h
    rfl
  · obtain ⟨m, d, rfl, hm, hd, q⟩ := h
    refine ⟨_, (pss_cons (ps_set (i := 2) sc_binomial.nd rfl (Or.inl rfl) pe_int)
    (pss_cons (ps_for PassesOwn.never rfl (pi_range1 (by rfl) T.n_range (pa_cons (pv 1) pa_nil)) (pg_name (i := 3) sc_binomial.nd rfl (Or.inl rfl)) (pss_one (ps_set (i := 2) sc_binomial.nd rfl (Or.inl rfl) (pe_op op_fdivW (pe_op op_mulW (pv 2) (pe_op op_sub (pv 0) (pv 3))) (pe_op op_add (pv 3) pe_int)))))
    (pss_one (ps_ret (pv 2))))), ?_⟩
    refine w_start (σ' := [some (.int m), some (.int d), none, none]) rfl ?_
    walk_at "g"
    refine f_range (fun i σ' H' => ∃ o : Option V, σ' = [some (.int m), some (.int d), some (.int (ch m i : Nat)), o] ∧ H' = H) ⟨none, by rw [ch_zero]; rfl, rfl⟩ ?_ ?_
    · rintro i σ' H' hi ⟨o, rfl, rfl⟩
      have hmul := bin_mul (m := m) (i := i) hm (by omega)
      have hdiv := bin_step m i
      walk_at "g"
      rw [hdiv]
      exact ⟨_, rfl, rfl⟩
    · rintro σ' H' ⟨o, rfl, rfl⟩
      walk_at "g"
      exact q
set_option maxHeartbeats 4000000 in
theorem ok_sums_of_digits (T : Txt K mg c) : DefAt P w K mg base "sums_of_digits" s_sums_of_digits 2 ["places", "base", "total"] spSums := by
  have D_binomial := ok_binomial (P := P) (w := w) (base := base) T
  refine T.f_sums_of_digits.ok sc_sums_of_digits (fun vs H Q E h => ?_) (fun _ _ _ _ _ _ us hl => match us, hl with | [_, _, _], _ => rfl) (fun f cdv A outer s H vs Q E hr h => ?_)
  · obtain ⟨u, b, t, rfl, u0, u1, b0, b1, t0, t1, q⟩ := h
    rfl
  · obtain ⟨u, b, t, rfl, u0, u1, b0, b1, t0, t1, q⟩ := h
    refine ⟨_, (pss_cons (ps_set (i := 3) sc_sums_of_digits.nd rfl (Or.inl rfl) pe_int)
    (pss_cons (ps_set (i := 4) sc_sums_of_digits.nd rfl (Or.inl rfl) pe_int)
    (pss_cons (ps_for PassesOwn.never rfl (pi_range1 (by rfl) T.n_range (pa_cons (pe_op op_add (pv 0) pe_int) pa_nil)) (pg_name (i := 5) sc_sums_of_digits.nd rfl (Or.inl rfl)) (pss_cons (ps_set (i := 6) sc_sums_of_digits.nd rfl (Or.inl rfl) (pe_op op_sub (pv 2) (pe_op op_mulW (pv 5) (pv 1))))
    (pss_cons (ps_if (pt_cmpR op_lt (pv 6) pe_int (nomark _)) (pss_one (ps_ret (pv 3))) pss_nil)
    (pss_cons (ps_aug (i := 3) sc_sums_of_digits.nd rfl (Or.inl rfl) (pe_op op_mulW (pe_op op_mulW (pv 4) (pe_callD D_binomial (hr.mono (by decide)) (pa_cons (pv 0) (pa_cons (pv 5) pa_nil)))) (pe_callD D_binomial (hr.mono (by decide)) (pa_cons (pe_op op_sub (pe_op op_add (pv 6) (pv 0)) pe_int) (pa_cons (pe_op op_sub (pv 0) pe_int) pa_nil)))) ip_add)
    (pss_one (ps_set (i := 4) sc_sums_of_digits.nd rfl (Or.inl rfl) (pe_un un_neg (pv 4))))))))
    (pss_one (ps_ret (pv 3)))))), ?_⟩
    refine w_start (σ' := [some (.int u), some (.int b), some (.int t), none, none, none, none]) rfl ?_
    walk_at "g"
    refine f_range (fun j σ' H' => ∃ (o1 o2 : Option V) (s : Int), σ' = [some (.int u), some (.int b), some (.int t), some (.int (Af b u (Pf u) t j)), some (.int s), o1, o2] ∧ H' = H ∧ s = (if j % 2 = 0 then 1 else -1)) ⟨none, none, 1, rfl, rfl, rfl⟩ ?_ ?_
    · rintro j σ' H' hj ⟨o1, o2, s, rfl, rfl, hs⟩
      have e0 : (0 : Int) + j = j := by omega
      have hs1 : s = 1 ∨ s = -1 := by rw [hs]; split <;> simp
      have hj1 : j ≤ u := by omega
      rw [e0]
      walk_at "g"
      refine w_ite (fun hn => ?_) (fun hn => ?_)
      · walk_at "g"
        rw [Wf_Af (by omega) (.inr hn)]
        exact q
      · walk_at "g"
        refine ⟨u, j, rfl, by omega, by omega, ?_⟩
        have c2 := ch_two u j
        have c3 : 2 ^ u ≤ 2 ^ 60 := Nat.pow_le_pow_right (by decide) u1
        walk_at "g"
        have jb : 0 ≤ (j : Int) * b := Int.mul_nonneg (by omega) (by omega)
        refine ⟨(t - j * b).toNat + u - 1, u - 1, ?_, by omega, by omega, ?_⟩
        · rw [show (((t - j * b).toNat + u - 1 : Nat) : Int) = t - j * b + u - 1 by omega, show ((u - 1 : Nat) : Int) = u - 1 by omega]
          rfl
        rw [← Pf_ch u0 (by omega)]
        have pl := Pf_le (u := u) (t := t - j * b) u0 u1 (by omega)
        have pn := Pf_nonneg u (t - j * b)
        refine w_I (cmulW (a := 62) (b := 12001) ?_ ?_ (by decide) (by decide) (by decide)) ?_
        · rcases hs1 with e | e <;> rw [e] <;> omega
        · have h1 : ((Pf u (t - j * b)).natAbs : Int) ≤ ((2 ^ 12000 : Nat) : Int) := by rw [Int.natAbs_of_nonneg pn]; exact pl
          have h2 : (Pf u (t - j * b)).natAbs ≤ 2 ^ 12000 := by exact_mod_cast h1
          exact Nat.lt_of_le_of_lt h2 (Nat.pow_lt_pow_right (by decide) (by decide))
        walk_at "g"
        refine ⟨some (.int j), some (.int (t - j * b)), -s, ?_, rfl, ?_⟩
        · show _ = [some (V.int u), some (V.int b), some (V.int t), some (V.int (Af b u (Pf u) t j + (if j % 2 = 0 then 1 else -1) * (ch u j : Nat) * Pf u (t - j * b))), some (V.int (-s)), some (.int j), some (.int (t - j * b))]
          rw [← hs]
          rfl
        · rw [hs]
          by_cases h : j % 2 = 0
          · rw [if_pos h, if_neg (by omega)]
          · rw [if_neg h, if_pos (by omega)]
            rfl
    · rintro σ' H' ⟨o1, o2, s, rfl, rfl, hs⟩
      walk_at "g"
      rw [Wf_Af (by omega) (.inl (by omega))]
      exact q
set_option maxHeartbeats 4000000 in
theorem ok_count_of (T : Txt K mg c) : DefAt P w K mg base "count_of" s_count_of 3 ["chapters", "lines", "chain"] (spCountOf K) := by
  have D_sums_of_digits := ok_sums_of_digits (P := P) (w := w) (base := base) T
  have D_binomial := ok_binomial (P := P) (w := w) (base := base) T
  refine T.f_count_of.ok sc_count_of (fun vs H Q E h => ?_) (fun _ _ _ _ _ _ us hl => match us, hl with | [_, _, _], _ => rfl) (fun f cdv A outer s H vs Q E hr h => ?_)
  · obtain ⟨p, ps, ls, c, n, rfl, hp, hps, hch, hz, q⟩ := h
    rfl
  · obtain ⟨p, ps, ls, c, n, rfl, hp, hps, hch, hz, q⟩ := h
    refine ⟨_, (pss_cons (ps_if (pt_cmpR op_eq (pv 0) pe_int (nomark _)) (pss_one (ps_ret (pe_callTy call_int1N (by rfl) T.n_int (by decide +kernel) (pa_cons (pe_and (pe_cmpR op_eq (pv 1) pe_int (nomark _)) (pe_one (pe_callB (cr_all rfl) (by rfl) T.n_all (by decide +kernel) (pa_cons (pe_lc (own := [("size", 3), ("pages", 4)]) (tt := tYes) rfl sc_count_of.nd (pi_list (pv 2)) (blkOk_by (N := sc_count_of_N) (sc := defScope s_count_of) (by decide +kernel)) (fun _ _ _ _ _ => (kc_pg (K := K) (pg_tup (n := 2) rfl (pgs_cons (pg_name (i := 3) sc_count_of.nd rfl (Or.inl rfl)) (pgs_cons (pg_name (i := 4) sc_count_of.nd rfl (Or.inl rfl)) pgs_nil))) rfl)) (fun _ _ _ _ _ => pts_nil) (fun _ _ _ _ _ => (pe_cmpR op_eq (pv 4) pe_int (nomark _)))) pa_nil)))) pa_nil)))) pss_nil)
    (pss_cons (ps_if (pt_cmpR op_lt (pv 1) (pv 0) (nomark _)) (pss_one (ps_ret pe_int)) pss_nil)
    (pss_cons (ps_set (i := 5) sc_count_of.nd rfl (Or.inl rfl) (pe_op op_sub (pv 1) (pv 0)))
    (pss_cons (ps_set (i := 6) sc_count_of.nd rfl (Or.inl rfl) pe_int)
    (pss_cons (ps_set (i := 7) sc_count_of.nd rfl (Or.inl rfl) pe_int)
    (pss_cons (ps_for PassesOwn.never rfl (pi_list (pv 2)) (pg_tup rfl (pgs_cons (pg_name (i := 3) sc_count_of.nd rfl (Or.inl rfl)) (pgs_cons (pg_name (i := 4) sc_count_of.nd rfl (Or.inl rfl)) pgs_nil))) (pss_cons (ps_set (i := 8) sc_count_of.nd rfl (Or.inl rfl) (pe_op op_sub (pv 4) (pv 0)))
    (pss_cons (ps_if (pt_cmpR op_lt (pv 8) pe_int (nomark _)) (pss_one (ps_ret pe_int)) pss_nil)
    (pss_cons (ps_set (i := 9) sc_count_of.nd rfl (Or.inl rfl) (pe_op op_fdivW (pv 3) (pv 6)))
    (pss_cons (ps_aug (i := 7) sc_count_of.nd rfl (Or.inl rfl) (pe_callD D_sums_of_digits (hr.mono (by decide)) (pa_cons (pv 0) (pa_cons (pv 9) (pa_cons (pe_op op_sub (pv 5) (pe_op op_mulW (pv 9) (pv 8))) pa_nil)))) ip_mul)
    (pss_cons (ps_set (i := 5) sc_count_of.nd rfl (Or.inl rfl) (pv 8))
    (pss_one (ps_set (i := 6) sc_count_of.nd rfl (Or.inl rfl) (pv 3)))))))))
    (pss_one (ps_ret (pe_op op_mulW (pv 7) (pe_callD D_binomial (hr.mono (by decide)) (pa_cons (pe_op op_sub (pe_op op_add (pv 5) (pv 0)) pe_int) (pa_cons (pe_op op_sub (pv 0) pe_int) pa_nil)))))))))))), ?_⟩
    refine w_start (σ' := [some (.int c), some (.int n), some (.ref p), none, none, none, none, none, none, none]) rfl ?_
    walk_at "g"
    have hl := hps.1
    have hcs := hz.c
    have hn0 := hz.n0
    have hn1 := hz.n1
    have hll := hz.l
    refine w_ite (fun hc => ?_) (fun hc => ?_)
    · have hc0 : c = 0 := by omega
      subst hc0
      walk_at "g"
      refine w_ite (fun hn => ?_) (fun hn => ?_)
      · walk_at "g"
        refine l_list (ps.map V.ref) (fun L i H' => Fr [] H H' ∧ H' L = some (.lst (((ls.take i).map fun l => decide (l.2 = 0)).map V.bl))) (fun L hL => ⟨Fr.refl.new hL, upd_same⟩) (fun L i H' _ _ h => .of (h.1.at0 hp)) (fun L i x H' hL hx h => ?_) (fun L H' hL h => ?_)
        · obtain ⟨f1, h1⟩ := h
          obtain ⟨t, ht, rfl⟩ := map_at' hx
          have hil := (List.getElem?_eq_some_iff.mp ht).1
          have hl2 : ls[i]? = some ls[i] := List.getElem?_eq_getElem (by omega)
          have htup := f1.at0 (hps.2 i t _ ht hl2)
          have tk : ls.take (i + 1) = ls.take i ++ [ls[i]] := by rw [List.take_succ, hl2]; rfl
          have lt : ((ls.take i).map fun l => decide (l.2 = 0)).length ≤ 60 := by rw [List.length_map, List.length_take]; omega
          refine w_gTup (SqT.of htup) rfl ?_
          walk_at "g"
          refine ⟨rfl, ?_⟩
          walk_at "g"
          refine ⟨f1.put (.inl hL), ?_⟩
          rw [upd_same, tk]
          simp only [List.map_append, List.map_cons, List.map_nil]
        · obtain ⟨f1, h1⟩ := h
          rw [List.length_map, hl, List.take_length] at h1
          walk_at "g"
          refine w_all h1 ?_
          walk_at "g"
          have e : cnt 0 n ls = if ((ls.map fun l => decide (l.2 = 0)).all id) = true then 1 else 0 := by
            unfold cnt
            rw [if_pos rfl]
            by_cases h : ∀ l ∈ ls, l.2 = 0
            · rw [if_pos ⟨hn, h⟩, if_pos (by simpa using h)]
            · rw [if_neg fun q => h q.2, if_neg (by simpa using h)]
          rw [← e]
          exact q _ f1
      · walk_at "g"
        have e : cnt 0 n ls = 0 := by
          unfold cnt
          rw [if_pos rfl, if_neg fun q => hn q.1]
        rw [e] at q
        exact q _ Fr.refl
    · have hc0 : c ≠ 0 := by omega
      walk_at "g"
      refine w_ite (fun hn => ?_) (fun hn => ?_)
      · walk_at "g"
        have e : cnt c n ls = 0 := by
          unfold cnt
          rw [if_neg hc0, if_pos hn]
        rw [e] at q
        exact q _ Fr.refl
      · have ec : cnt c n ls = gp c (n - c) 1 ls := by
          unfold cnt
          rw [if_neg hc0, if_neg hn]
        rw [ec] at q
        walk_at "g"
        refine f_list (ps.map V.ref) (fun i σ' H' => ∃ (o3 o4 o8 o9 : Option V) (left unit found : Int), σ' = [some (.int c), some (.int n), some (.ref p), o3, o4, some (.int left), some (.int unit), some (.int found), o8, o9] ∧ H' = H ∧ found * gp c left unit (ls.drop i) = gp c (n - c) 1 ls ∧ 0 ≤ found ∧ found ≤ ((2 ^ (12000 * i) : Nat) : Int) ∧ 0 ≤ left ∧ left < 2 ^ 151 ∧ 1 ≤ unit ∧ Chain unit (ls.drop i)) ⟨none, none, none, none, n - c, 1, 1, rfl, rfl, by rw [List.drop_zero, Int.one_mul], by omega, by simp, by omega, by omega, by omega, by rw [List.drop_zero]; exact hch⟩ ?_ ?_ ?_
        · rintro i σ' H' hi ⟨o3, o4, o8, o9, left, unit, found, rfl, rfl, _⟩
          exact .of hp
        · rintro i x σ' H' hx ⟨o3, o4, o8, o9, left, unit, found, rfl, rfl, hg, f0, f1, l0, l1, u1, hch2⟩
          obtain ⟨t, ht, rfl⟩ := map_at' hx
          have hil := (List.getElem?_eq_some_iff.mp ht).1
          obtain ⟨l, hl2⟩ : ∃ l, ls[i]? = some l := ⟨_, List.getElem?_eq_getElem (by omega)⟩
          have htup := hps.2 i t l ht hl2
          have hls := hz.s l (List.mem_of_getElem? hl2)
          have dr : ls.drop i = l :: ls.drop (i + 1) := List.drop_eq_getElem?_toList_append.trans (by rw [hl2]; rfl)
          rw [dr] at hg hch2
          obtain ⟨g1, g2, g3⟩ := hch2
          have b1 := chain_base u1 g1
          have b2 : l.1 / unit ≤ l.1 := Int.ediv_le_self _ (by omega)
          refine w_gTup (SqT.of htup) rfl ?_
          walk_at "g"
          refine w_ite (fun hm => ?_) (fun hm => ?_)
          · walk_at "g"
            have e : gp c left unit (l :: ls.drop (i + 1)) = 0 := by
              show (if l.2 - c < 0 then (0 : Int) else _) = 0
              rw [if_pos hm]
            rw [e, Int.mul_zero] at hg
            rw [← hg] at q
            exact q _ Fr.refl
          · have e : gp c left unit (l :: ls.drop (i + 1)) = Wf (l.1 / unit).toNat c (left - (l.1 / unit) * (l.2 - c)) * gp c (l.2 - c) l.1 (ls.drop (i + 1)) := by
              show (if l.2 - c < 0 then (0 : Int) else _) = _
              rw [if_neg hm]
            rw [e] at hg
            obtain ⟨bs, hbs⟩ : ∃ bs : Nat, l.1 / unit = bs := ⟨(l.1 / unit).toNat, by omega⟩
            rw [hbs] at hg b1 b2
            have eb : ((bs : Int)).toNat = bs := by omega
            rw [eb] at hg
            have m0 : 0 ≤ (bs : Int) * (l.2 - c) := Int.mul_nonneg (by omega) (by omega)
            have m1 : (bs : Int) * (l.2 - c) ≤ 2 ^ 150 * 2 ^ 151 := Int.mul_le_mul (by omega) (by omega) (by omega) (by omega)
            walk_at "g"
            rw [hbs]
            have wl : Wf bs c (left - bs * (l.2 - c)) ≤ ((2 ^ 12000 : Nat) : Int) := Int.le_trans (Wf_le _ _ _) (Pf_le (by omega) hcs (by omega))
            have wn := Wf_nonneg bs c (left - bs * (l.2 - c))
            refine ⟨c, bs, _, rfl, by omega, hcs, by omega, by omega, by omega, by omega, ?_⟩
            refine w_ipM (nat_mul f0 f1 wn wl (by omega)) ?_
            walk_at "g"
            refine ⟨some (.int l.1), some (.int l.2), some (.int (l.2 - c)), some (.int bs), l.2 - c, l.1, found * Wf bs c (left - bs * (l.2 - c)), rfl, rfl, by rw [Int.mul_assoc]; exact hg, Int.mul_nonneg f0 wn, pow_step f0 f1 wn wl, by omega, by omega, by omega, g3⟩
        · rintro σ' H' ⟨o3, o4, o8, o9, left, unit, found, rfl, rfl, hg, f0, f1, l0, l1, u1, hch2⟩
          rw [List.length_map, hl] at hg f1
          rw [List.drop_length] at hg
          have hg : found * Pf c left = gp c (n - c) 1 ls := hg
          walk_at "g"
          refine ⟨left.toNat + c - 1, c - 1, ?_, by omega, by omega, ?_⟩
          · rw [show ((left.toNat + c - 1 : Nat) : Int) = left + c - 1 by omega, show ((c - 1 : Nat) : Int) = c - 1 by omega]
            rfl
          rw [← Pf_ch (by omega) l0]
          refine w_I (nat_mul f0 f1 (Pf_nonneg _ _) (Pf_le (by omega) hcs (by omega)) (by omega)) ?_
          walk_at "g"
          rw [hg]
          exact q _ Fr.refl
set_option maxHeartbeats 4000000 in
theorem ok_count_fitting (T : Txt K mg c) : DefAt P w K mg base "count_fitting" s_count_fitting 4 ["chapters", "lines", "chain"] (spCountF K) := by
  have D_check_fitting := ok_check_fitting (P := P) (w := w) (base := base) T
  have D_count_of := ok_count_of (P := P) (w := w) (base := base) T
  refine T.f_count_fitting.ok sc_count_fitting (fun vs H Q E h => ?_) (fun _ _ _ _ _ _ us hl => match us, hl with | [_, _, _], _ => rfl) (fun f cdv A outer s H vs Q E hr h => ?_)
  · obtain ⟨p, ps, ls, c, n, rfl, hp, hps, hch, hz, q⟩ := h
    rfl
  · obtain ⟨p, ps, ls, c, n, rfl, hp, hps, hch, hz, q⟩ := h
    refine ⟨_, (pss_cons (ps_expr (pe_callD D_check_fitting (hr.mono (by decide)) (pa_cons (pv 0) (pa_cons (pv 1) (pa_cons (pv 2) pa_nil)))))
    (pss_one (ps_ret (pe_callD D_count_of (hr.mono (by decide)) (pa_cons (pv 0) (pa_cons (pv 1) (pa_cons (pv 2) pa_nil))))))), ?_⟩
    refine w_start (σ' := [some (.int c), some (.int n), some (.ref p)]) rfl ?_
    walk_at "g"
    have hl := hps.1
    have hll := hz.l
    refine ⟨p, ps, ls, c, n, rfl, hp, hps, by omega, hz.n0, hch, by omega, fun H2 f2 => ?_⟩
    walk_at "g"
    exact ⟨p, ps, ls, c, n, rfl, f2.at0 hp, hps.fr f2, hch.chain, hz, fun H3 f3 => q H3 (f2.trans f3)⟩
set_option maxHeartbeats 4000000 in
theorem ok_contradiction (T : Txt K mg c) : DefAt P w K mg base "contradiction" s_contradiction 4 ["chapters", "lines", "chain"] (spContra K) := by
  have D_check_fitting := ok_check_fitting (P := P) (w := w) (base := base) T
  have D_count_of := ok_count_of (P := P) (w := w) (base := base) T
  refine T.f_contradiction.ok sc_contradiction (fun vs H Q E h => ?_) (fun _ _ _ _ _ _ us hl => match us, hl with | [_, _, _], _ => rfl) (fun f cdv A outer s H vs Q E hr h => ?_)
  · obtain ⟨p, ps, ls, c, n, rfl, hp, hps, hch, hz, q⟩ := h
    rfl
  · obtain ⟨p, ps, ls, c, n, rfl, hp, hps, hch, hz, q⟩ := h
    refine ⟨_, (pss_cons (ps_expr (pe_callD D_check_fitting (hr.mono (by decide)) (pa_cons (pv 0) (pa_cons (pv 1) (pa_cons (pv 2) pa_nil)))))
    (pss_cons (ps_if (pt_cmpR op_eq (pe_callD D_count_of (hr.mono (by decide)) (pa_cons (pv 0) (pa_cons (pv 1) (pa_cons (pe_lst pa_nil) pa_nil)))) pe_int (nomark _)) (pss_one (ps_ret (pe_tup (pa_cons (pe_un un_neg pe_int) (pa_cons (pe_un un_neg pe_int) pa_nil))))) pss_nil)
    (pss_cons (ps_for PassesOwn.never rfl (pi_range1 (by rfl) T.n_range (pa_cons (pe_callB call_lenN (by rfl) T.n_len (by decide +kernel) (pa_cons (pv 2) pa_nil)) pa_nil)) (pg_name (i := 3) sc_contradiction.nd rfl (Or.inl rfl)) (pss_one (ps_if (pt_cmpR op_eq (pe_callD D_count_of (hr.mono (by decide)) (pa_cons (pv 0) (pa_cons (pv 1) (pa_cons (pe_slice sl_list (pv 2) po_none (po_some (pe_op op_add (pv 3) pe_int))) pa_nil)))) pe_int (nomark _)) (pss_one (ps_ret (pe_tup (pa_cons (pe_op op_sub (pv 3) pe_int) (pa_cons (pv 3) pa_nil))))) pss_nil)))
    (pss_one (ps_ret pe_non))))), ?_⟩
    refine w_start (σ' := [some (.int c), some (.int n), some (.ref p), none]) rfl ?_
    walk_at "g"
    have hl := hps.1
    have hll := hz.l
    have hc1 := hch.chain
    refine ⟨p, ps, ls, c, n, rfl, hp, hps, by omega, hz.n0, hch, by omega, fun H2 f2 => ?_⟩
    have h2 := f2.at0 hp
    have hps2 := hps.fr f2
    walk_at "g"
    rename_i e0 ne0
    refine ⟨e0, [], [], c, n, rfl, upd_same, .nil, trivial, ⟨hz.c, hz.n0, hz.n1, by simp, by simp⟩, fun H3 f3 => ?_⟩
    have h3 : H3 p = some (.lst (ps.map V.ref)) := f3.at0 (at_upd h2 ne0)
    have hps3 : PairsAt H3 ps ls := (hps2.fr (Fr.refl.new ne0)).fr f3
    have f03 : Fr [] H H3 := (f2.new ne0).trans f3
    clear f2 f3 h2 hps2 ne0
    walk_at "g"
    refine w_ite (fun he => ?_) (fun he => ?_)
    · walk_at "g"
      rename_i T nT
      exact q (some (badAt 0)) _ _ (.inr ⟨0, Nat.zero_le _, rfl, fun z => z (by rw [List.take_zero]; exact he), by simp⟩) (.inr ⟨T, _, rfl, rfl, upd_same⟩) (f03.new nT)
    · walk_at "g"
      rw [List.length_map, hl]
      walk_at "g"
      refine f_range (fun i σ' H' => ∃ o : Option V, σ' = [some (.int c), some (.int n), some (.ref p), o] ∧ Fr [] H H' ∧ ∀ j, j ≤ i → cnt c n (ls.take j) ≠ 0) ⟨none, rfl, f03, fun j hj => by rw [show j = 0 by omega, List.take_zero]; exact he⟩ ?_ ?_
      · rintro i σ' H4 hi ⟨o, rfl, f4, hj⟩
        have h4 := f4.at0 hp
        have hps4 := hps.fr f4
        have hi2 : i < ls.length := by omega
        walk_at "g"
        rw [show (0 : Int) + i + 1 = ((i + 1 : Nat) : Int) by omega]
        refine w_slTake h4 (fun s1 ns1 => ?_)
        walk_at "g"
        have hz2 : Sized c n (ls.take (i + 1)) := ⟨hz.c, hz.n0, hz.n1, by rw [List.length_take]; omega, fun l hl3 => hz.s l (List.mem_of_mem_take hl3)⟩
        refine ⟨s1, ps.take (i + 1), ls.take (i + 1), c, n, rfl, upd_same, (hps4.fr (Fr.refl.new ns1)).take (i + 1), hc1.take (i + 1), hz2, fun H5 f5 => ?_⟩
        have f05 : Fr [] H H5 := (f4.new ns1).trans f5
        walk_at "g"
        refine w_ite (fun hb => ?_) (fun hb => ?_)
        · walk_at "g"
          rename_i T nT
          refine q (some (badAt (i + 1))) _ _ (.inr ⟨i + 1, by omega, rfl, fun z => z hb, fun j hj2 => hj j (by omega)⟩) (.inr ⟨T, _, rfl, rfl, ?_⟩) (f05.new nT)
          rw [upd_same]
          have e : badAt (i + 1) = ((0 : Int) + i - 1, (0 : Int) + i) := by
            unfold badAt
            rw [if_neg (by omega)]
            congr 1 <;> omega
          rw [e]
        · walk_at "g"
          refine ⟨_, rfl, f05, fun j hj2 => ?_⟩
          rcases Nat.lt_or_ge j (i + 1) with z | z
          · exact hj j (by omega)
          · rw [show j = i + 1 by omega]
            exact hb
      · rintro σ' H4 ⟨o, rfl, f4, hj⟩
        walk_at "g"
        exact q none _ _ (.inl ⟨rfl, fun j hj2 => hj j (by omega)⟩) (.inl ⟨rfl, rfl⟩) f4
/-- sizes, each greater than the one before and a multiple of it -/
def SChain : Int → List Int → Prop
  | _, [] => True
  | u, x :: rest => u < x ∧ (0 < u → x % u = 0) ∧ SChain x rest
theorem SChain.v : ∀ {ls : List (Int × Int)} {u : Int}, SChain u (ls.map Prod.fst) → VChain u ls
  | [], _, _ => trivial
  | l :: rest, u, ⟨h1, h2, h3⟩ => ⟨h1, h2, SChain.v h3⟩
theorem SChain.snoc : ∀ {xs : List Int} {u w w' : Int}, 0 ≤ u → SChain u (xs ++ [w]) → w < w' → w' % w = 0 → SChain u (xs ++ [w] ++ [w'])
  | [], u, w, w', hu, ⟨h1, h2, _⟩, g1, g2 => ⟨h1, h2, g1, fun _ => g2, trivial⟩
  | x :: xs, u, w, w', hu, ⟨h1, h2, h3⟩, g1, g2 => ⟨h1, h2, SChain.snoc (by omega) h3 g1 g2⟩
theorem SChain.init : ∀ {xs : List Int} {u w : Int}, SChain u (xs ++ [w]) → SChain u xs
  | [], _, _, _ => trivial
  | x :: xs, _, _, ⟨h1, h2, h3⟩ => ⟨h1, h2, SChain.init h3⟩
def spSizes : Sp := fun vs H Q _ => ∃ (a : Addr) (k m t : Int), vs = [.ref a, .int m, .int t] ∧ Rng H a k ∧ 0 ≤ m ∧ m ≤ 20 ∧ 2 ≤ t ∧ t ≤ 30 ∧ k < 2 ^ 38 ∧
  ∀ (p : Addr) (xs : List Int) (k' : Int) (H' : Hp), xs.length ≤ m.toNat → SChain 0 xs → (∀ x ∈ xs, 1 ≤ x ∧ x < 2 ^ 110) → k' ≤ k + 40 → Rng H' a k' → Fr [a] H H' → H p = none → H' p = some (.lst (xs.map V.int)) → Q (.ref p) H'
theorem pow30 {w : Int} {i : Nat} (h : w ≤ ((30 ^ (i + 1) : Nat) : Int)) (hi : i ≤ 20) : w < 2 ^ 110 := by
  have h1 : 30 ^ (i + 1) ≤ 30 ^ 21 := Nat.pow_le_pow_right (by decide) (by omega)
  have h2 : 30 ^ 21 < 2 ^ 110 := by decide
  have h3 : ((30 ^ (i + 1) : Nat) : Int) < ((2 ^ 110 : Nat) : Int) := by exact_mod_cast Nat.lt_of_le_of_lt h1 h2
  have h4 : ((2 ^ 110 : Nat) : Int) = 2 ^ 110 := by norm_cast
  omega
theorem pow30_step {w r : Int} {i : Nat} (h0 : 1 ≤ w) (h : w ≤ ((30 ^ (i + 1) : Nat) : Int)) (h1 : 0 ≤ r) (h2 : r ≤ 30) : w * r ≤ ((30 ^ (i + 1 + 1) : Nat) : Int) := by
  rw [Nat.pow_succ, Int.natCast_mul]
  exact Int.mul_le_mul h h2 h1 (Int.natCast_nonneg _)
def shownD : Option (Int × Int) → Str
  | none => "None"
  | some x => (dP x).shown
theorem DV.dp {K : PySem.W.Frag} {H : Hp} {T : Addr} {x : Int × Int} (h : H T = some (.tup [.int x.1, .int x.2])) : Dp K H (.ref T) (dP x) := .tup (SqT.of h) (.cons (.int _) (.cons (.int _) .nil))
theorem w_reprDV {K : PySem.W.Frag} {H : Hp} {Q : VK} {d : Option (Int × Int)} {v : V} (h : DV d v H) (hb : ∀ x, d = some x → x.1.natAbs < 10 ^ 40 ∧ x.2.natAbs < 10 ^ 40) (q : Q (.str (shownD d)) H) : rReprA K [v] H Q := by
  rcases h with ⟨rfl, rfl⟩ | ⟨T, x, rfl, rfl, h⟩
  · exact w_reprA0 q
  · have b := hb x rfl
    exact w_reprA (DV.dp h) (fine_pair (i := x.1) (j := x.2) b.1 b.2) q
theorem FirstBad.small {P : Nat → Prop} {n : Nat} {d : Option (Int × Int)} (h : FirstBad P n d) (hn : n ≤ 1000) : ∀ x, d = some x → x.1.natAbs < 10 ^ 40 ∧ x.2.natAbs < 10 ^ 40 := by
  intro x hx
  rcases h with ⟨rfl, _⟩ | ⟨i, hi, rfl, _⟩
  · cases hx
  · have e := Option.some.inj hx
    rw [← e]
    unfold badAt
    split
    · decide
    · constructor
      · show ((i : Int) - 2).natAbs < _
        omega
      · show ((i : Int) - 1).natAbs < _
        omega
theorem w_eqDV {K : PySem.W.Frag} {H : Hp} {Q : VK} {x : Int × Int} {v : V} {b : Addr} {i j : Int} (h : DV (some x) v H) (hb : H b = some (.tup [.int i, .int j])) (e : x = (i, j)) (q : Q (.bl true) H) : rEqD K v (.ref b) H Q := by
  rcases h with ⟨h, _⟩ | ⟨T, y, h, rfl, h2⟩
  · cases h
  · have ey := Option.some.inj h
    subst ey e
    refine ⟨_, _, DV.dp h2, DV.dp (x := (i, j)) hb, by rfl, by rfl, ?_⟩
    have e2 : PyData.eqv (dP (i, j)) (dP (i, j)) = true := by simp [dP, PyData.eqv, PyData.eqvAll]
    rw [e2]
    exact q
theorem sum_max {xs : List Int} {B : Int} (h : ∀ x ∈ xs, 1 ≤ x ∧ x ≤ B) : (xs.length : Int) ≤ xs.sum ∧ xs.sum ≤ xs.length * B := by
  induction xs with
  | nil => simp
  | cons x xs ih =>
    have h1 := ih fun y hy => h y (List.mem_cons_of_mem _ hy)
    have h2 := h x List.mem_cons_self
    rw [List.sum_cons, List.length_cons, show ((xs.length + 1 : Nat) : Int) * B = xs.length * B + B by rw [show ((xs.length + 1 : Nat) : Int) = (xs.length : Int) + 1 by omega, Int.add_mul]; omega]
    omega
theorem ct_range {xs : List Int} {w B : Int} (hw : 1 ≤ w) (h : ∀ x ∈ xs, 1 ≤ x ∧ x ≤ B) : (xs.length : Int) ≤ ct xs w ∧ ct xs w ≤ xs.length * B := by
  induction xs with
  | nil => simp [ct]
  | cons x xs ih =>
    have h1 := ih fun y hy => h y (List.mem_cons_of_mem _ hy)
    have h2 := h x List.mem_cons_self
    have h3 : 0 ≤ (x - 1) / w := Int.ediv_nonneg (by omega) (by omega)
    have h4 : (x - 1) / w ≤ x - 1 := Int.ediv_le_self _ (by omega)
    rw [ct_cons, List.length_cons, show ((xs.length + 1 : Nat) : Int) * B = xs.length * B + B by rw [show ((xs.length + 1 : Nat) : Int) = (xs.length : Int) + 1 by omega, Int.add_mul]; omega]
    omega
theorem PairsAt.frR {H H' : Hp} {a : Addr} {k : Int} {ps : List Addr} {ls : List (Int × Int)} (h : PairsAt H ps ls) (p : Rng H a k) (f : Fr [a] H H') : PairsAt H' ps ls := by
  obtain ⟨d, m, t, h1, _⟩ := p
  exact h.frL f h1
theorem map_set_fst {ls : List (Int × Int)} {i : Nat} {l : Int × Int} {x : Int} (h : ls[i]? = some l) : (ls.set i (l.1, x)).map Prod.fst = ls.map Prod.fst := by
  rw [List.map_set]
  refine List.ext_getElem? fun j => ?_
  by_cases e : i = j
  · subst e
    have hi := (List.getElem?_eq_some_iff.mp h).1
    rw [List.getElem?_set_self (by rw [List.length_map]; exact hi), List.getElem?_map, h]
    rfl
  · rw [List.getElem?_set_ne e]
theorem DV.non_iff {d : Option (Int × Int)} {v : V} {H : Hp} (h : DV d v H) : v = .non ↔ d = none := by
  rcases h with ⟨rfl, rfl⟩ | ⟨T, x, rfl, rfl, _⟩
  · exact ⟨fun _ => rfl, fun _ => rfl⟩
  · exact ⟨fun z => (nomatch z), fun z => (nomatch z)⟩
theorem right_mono {c : Nat} {n : Int} {ls : List (Int × Int)} {i : Nat} (hi : i ≤ ls.length) (h : right c n (ls.take ls.length)) : right c n (ls.take i) := ⟨h.1, h.2.1, okP_mono c _ _ ls hi h.2.2⟩
def spDueC (K : PySem.W.Frag) : Sp := fun vs H Q _ => ∃ (p : Addr) (ps : List Addr) (ls : List (Int × Int)) (c : Nat) (n : Int), vs = [.int c, .int n, .ref p] ∧ H p = some (.lst (ps.map V.ref)) ∧ PairsAt H ps ls ∧ VChain 0 ls ∧ Sized c n ls ∧ ∀ d v H', FirstBad (fun i => right c n (ls.take i)) ls.length d → DV d v H' → Fr [] H H' → Q v H'
/-! ### one more edition -/
def Qs (b c : Nat) (t : Int) (n : Nat) : Int := ((List.range n).map fun m : Nat => Wf b c (t - b * m) * Pf c m).sum
theorem Qs_succ (b c : Nat) (t : Int) (n : Nat) : Qs b c t (n + 1) = Qs b c t n + Wf b c (t - b * n) * Pf c n := sum_range_succ _ n
theorem Qs_step (b c : Nat) (t : Int) : ∀ n : Nat, Qs b (c + 1) t n - Qs b (c + 1) (t - 1) n = Qs b c t n - Wf b c (t - b * n) * Pf (c + 1) ((n : Int) - 1)
  | 0 => by
    show (0 : Int) - 0 = 0 - _ * Pf (c + 1) (((0 : Nat) : Int) - 1)
    rw [Pf_neg (by omega)]
    simp
  | n + 1 => by
    have ih := Qs_step b c t n
    have h1 := Wf_step b c (t - b * n)
    have h2 := Pf_step c n
    rw [Qs_succ, Qs_succ, Qs_succ]
    have e1 : t - 1 - (b : Int) * n = t - b * n - 1 := by omega
    have e2 : t - (b : Int) * ((n + 1 : Nat) : Int) = t - b * n - b := by
      rw [show ((n + 1 : Nat) : Int) = (n : Int) + 1 by omega, Int.mul_add]
      omega
    have e3 : ((n + 1 : Nat) : Int) - 1 = n := by omega
    rw [e1, e2, e3]
    have k1 : (Wf b (c + 1) (t - b * n) - Wf b (c + 1) (t - b * n - 1)) * Pf (c + 1) n = (Wf b c (t - b * n) - Wf b c (t - b * n - b)) * Pf (c + 1) n := by rw [h1]
    have k2 : Wf b c (t - b * n) * Pf (c + 1) n = Wf b c (t - b * n) * (Pf (c + 1) ((n : Int) - 1) + Pf c n) := by rw [← h2]
    rw [Int.sub_mul, Int.sub_mul] at k1
    rw [Int.mul_add] at k2
    omega
theorem Qs_neg {b c : Nat} {t : Int} (h : t < 0) : ∀ n, Qs b c t n = 0
  | 0 => rfl
  | n + 1 => by
    have : 0 ≤ (b : Int) * n := Int.mul_nonneg (by omega) (by omega)
    rw [Qs_succ, Qs_neg h n, Wf_neg b (by omega)]
    simp
theorem Qs_all {b : Nat} : ∀ (c : Nat) (t : Int) (n : Nat), t - b * n < 0 → Qs b c t n = Pf c t
  | 0, t, n, h => by
    by_cases ht : t < 0
    · rw [Qs_neg ht, Pf_neg ht]
    · have go : ∀ k : Nat, Qs b 0 t (k + 1) = if t = 0 then 1 else 0 := by
        intro k
        induction k with
        | zero =>
          rw [Qs_succ]
          show 0 + Wf b 0 (t - b * ((0 : Nat) : Int)) * Pf 0 ((0 : Nat) : Int) = _
          have e : t - (b : Int) * ((0 : Nat) : Int) = t := by simp
          rw [e]
          show 0 + (if t = 0 then (1 : Int) else 0) * (if ((0 : Nat) : Int) = 0 then (1 : Int) else 0) = _
          simp
        | succ k ih =>
          rw [Qs_succ, ih]
          have : Pf 0 ((k + 1 : Nat) : Int) = 0 := by
            show (if ((k + 1 : Nat) : Int) = 0 then (1 : Int) else 0) = 0
            rw [if_neg (by omega)]
          rw [this]
          simp
      obtain ⟨k, rfl⟩ : ∃ k, n = k + 1 := ⟨n - 1, by
        have : n ≠ 0 := by
          rintro rfl
          simp at h
          omega
        omega⟩
      rw [go]
      rfl
  | c + 1, t, n, h => by
    have go : ∀ k : Nat, (k : Int) - 1 ≤ t → Qs b (c + 1) ((k : Int) - 1) n = Pf (c + 1) ((k : Int) - 1) := by
      intro k
      induction k with
      | zero => intro _; rw [Qs_neg (by omega), Pf_neg (by omega)]
      | succ k ih =>
        intro hk
        have ih := ih (by omega)
        have e : ((k + 1 : Nat) : Int) - 1 = k := by omega
        rw [e]
        have h1 := Qs_step b c k n
        have h2 := Pf_step c k
        have h3 := Qs_all (b := b) c k n (by omega)
        rw [Wf_neg b (t := (k : Int) - b * n) (by omega), Int.zero_mul] at h1
        omega
    by_cases ht : t < 0
    · rw [Qs_neg ht, Pf_neg ht]
    · have := go (t + 1).toNat (by omega)
      have e : (((t + 1).toNat : Nat) : Int) - 1 = t := by omega
      rw [e] at this
      exact this
def gpre (c : Nat) : Int → Int → List (Int × Int) → Int
  | _, _, [] => 1
  | left, unit, l :: rest => if l.2 - c < 0 then 0 else Wf (l.1 / unit).toNat c (left - (l.1 / unit) * (l.2 - c)) * gpre c (l.2 - c) l.1 rest
theorem gp_pre (c : Nat) : ∀ (ls : List (Int × Int)) (left unit : Int), gp c left unit ls = gpre c left unit ls * Pf c (lu c left unit ls).1
  | [], left, unit => by
    show Pf c left = 1 * Pf c left
    omega
  | l :: rest, left, unit => by
    show (if l.2 - c < 0 then (0 : Int) else _) = (if l.2 - c < 0 then (0 : Int) else _) * Pf c (lu c (l.2 - c) l.1 rest).1
    split
    · simp
    · rw [gp_pre c rest, Int.mul_assoc]
theorem gp_snoc (c : Nat) (l : Int × Int) : ∀ (ls : List (Int × Int)) (left unit : Int), gp c left unit (ls ++ [l]) =
    gpre c left unit ls * (if l.2 - c < 0 then 0 else Wf (l.1 / (lu c left unit ls).2).toNat c ((lu c left unit ls).1 - (l.1 / (lu c left unit ls).2) * (l.2 - c)) * Pf c (l.2 - c))
  | [], left, unit => by
    show (if l.2 - c < 0 then (0 : Int) else Wf (l.1 / unit).toNat c (left - (l.1 / unit) * (l.2 - c)) * Pf c (l.2 - c)) = 1 * _
    rw [Int.one_mul]
    rfl
  | m :: rest, left, unit => by
    show (if m.2 - c < 0 then (0 : Int) else Wf (m.1 / unit).toNat c (left - (m.1 / unit) * (m.2 - c)) * gp c (m.2 - c) m.1 (rest ++ [l])) = (if m.2 - c < 0 then (0 : Int) else _) * _
    split
    · simp
    · rw [gp_snoc c l rest, Int.mul_assoc]
      rfl
/-- the number of books with a page count more, by the page count -/
theorem cnt_more {c : Nat} {n B u : Int} {f : Nat} {ls : List (Int × Int)} (hc : 0 < c) (hn : (c : Int) ≤ n) (hu : 1 ≤ u) (hl : lu c (n - c) 1 ls = (B, u)) (x : Int) :
    cnt c n (ls ++ [(u * f, c + x)]) = gpre c (n - c) 1 ls * (if x < 0 then 0 else Wf f c (B - f * x) * Pf c x) := by
  unfold cnt
  rw [if_neg (by omega), if_neg (by omega), gp_snoc, hl]
  show gpre c (n - c) 1 ls * (if (c : Int) + x - c < 0 then 0 else Wf (u * f / u).toNat c (B - (u * f / u) * ((c : Int) + x - c)) * Pf c ((c : Int) + x - c)) = _
  rw [show (c : Int) + x - c = x by omega, Int.mul_ediv_cancel_left _ (by omega), show ((f : Int)).toNat = f by omega]
theorem cnt_base {c : Nat} {n B u : Int} {ls : List (Int × Int)} (hc : 0 < c) (hn : (c : Int) ≤ n) (hl : lu c (n - c) 1 ls = (B, u)) : cnt c n ls = gpre c (n - c) 1 ls * Pf c B := by
  unfold cnt
  rw [if_neg (by omega), if_neg (by omega), gp_pre, hl]
theorem sum_mul (g : Int) (f : Nat → Int) : ∀ n : Nat, ((List.range n).map fun m => g * f m).sum = g * ((List.range n).map f).sum
  | 0 => by simp
  | n + 1 => by rw [sum_range_succ, sum_range_succ, sum_mul g f n, Int.mul_add]
theorem cnt_sum {c : Nat} {n B u : Int} {f k : Nat} {ls : List (Int × Int)} (hc : 0 < c) (hn : (c : Int) ≤ n) (hu : 1 ≤ u) (hl : lu c (n - c) 1 ls = (B, u)) (hk : B - f * k < 0) :
    ((List.range k).map fun m : Nat => cnt c n (ls ++ [(u * f, (c : Int) + m)])).sum = cnt c n ls := by
  have e : ((List.range k).map fun m : Nat => cnt c n (ls ++ [(u * f, (c : Int) + m)])) = (List.range k).map fun m : Nat => gpre c (n - c) 1 ls * (Wf f c (B - f * m) * Pf c m) := by
    refine List.map_congr_left fun m _ => ?_
    rw [cnt_more hc hn hu hl, if_neg (by omega)]
  rw [e, sum_mul, cnt_base hc hn hl]
  congr 1
  exact Qs_all c B k hk
theorem cnt_out {c : Nat} {n B u x : Int} {f : Nat} {ls : List (Int × Int)} (hc : 0 < c) (hn : (c : Int) ≤ n) (hu : 1 ≤ u) (hl : lu c (n - c) 1 ls = (B, u)) (hx : x < 0 ∨ B - f * x < 0) : cnt c n (ls ++ [(u * f, c + x)]) = 0 := by
  rw [cnt_more hc hn hu hl]
  by_cases h : x < 0
  · rw [if_pos h, Int.mul_zero]
  · rw [if_neg h, Wf_neg f (by omega), Int.zero_mul, Int.mul_zero]
theorem bin2 (n k : Nat) : ch (n + 1) (k + 1) * (k + 1) = ch n k * (n + 1) := by
  have h1 := ch_succ n k
  have e : ch (n + 1) (k + 1) = ch n k + ch n (k + 1) := rfl
  rw [e, Nat.add_mul, h1]
  by_cases hk : k ≤ n
  · rw [← Nat.mul_add]
    congr 1
    omega
  · rw [ch_gt (by omega)]
    simp
theorem VChain.snoc : ∀ {ls : List (Int × Int)} {u c1 : Int} {c : Nat} {w : Int × Int}, 0 ≤ u → VChain u ls → (lu c c1 u ls).2 < w.1 → (0 < (lu c c1 u ls).2 → w.1 % (lu c c1 u ls).2 = 0) → VChain u (ls ++ [w])
  | [], u, _, _, w, _, _, h1, h2 => ⟨h1, h2, trivial⟩
  | l :: rest, u, c1, c, w, hu, ⟨g1, g2, g3⟩, h1, h2 => ⟨g1, g2, VChain.snoc (c1 := l.2 - c) (c := c) (by omega) g3 h1 h2⟩
theorem sum_mul' (g : Int) (f : Nat → Int) (n : Nat) : ((List.range n).map fun m => g * f m).sum = g * ((List.range n).map f).sum := sum_mul g f n
/-! ### books one by one -/
def sumR (n : Nat) (f : Nat → Int) : Int := ((List.range n).map f).sum
theorem sumR_zero (f : Nat → Int) : sumR 0 f = 0 := rfl
theorem sumR_succ (n : Nat) (f : Nat → Int) : sumR (n + 1) f = sumR n f + f n := sum_range_succ f n
theorem sumR_congr {n : Nat} {f g : Nat → Int} (h : ∀ i, i < n → f i = g i) : sumR n f = sumR n g := by
  unfold sumR
  rw [List.map_congr_left fun i hi => h i (List.mem_range.mp hi)]
theorem sumR_const0 {n : Nat} {f : Nat → Int} (h : ∀ i, i < n → f i = 0) : sumR n f = 0 := by
  induction n with
  | zero => rfl
  | succ n ih => rw [sumR_succ, ih fun i hi => h i (by omega), h n (by omega)]; rfl
theorem sumR_mul (g : Int) (n : Nat) (f : Nat → Int) : sumR n (fun i => g * f i) = g * sumR n f := sum_mul' g f n
theorem sumR_more {n : Nat} {f : Nat → Int} (h : ∀ i, n ≤ i → f i = 0) : ∀ k, sumR (n + k) f = sumR n f
  | 0 => rfl
  | k + 1 => by rw [← Nat.add_assoc, sumR_succ, sumR_more h k, h (n + k) (by omega)]; omega
theorem sumR_add (n : Nat) (f : Nat → Int) : ∀ m, sumR (n + m) f = sumR n f + sumR m fun i => f (n + i)
  | 0 => by rw [sumR_zero]; simp
  | m + 1 => by rw [← Nat.add_assoc, sumR_succ, sumR_add n f m, sumR_succ]; omega
theorem sumR_block (b : Nat) (f : Nat → Int) : ∀ M, sumR (b * M) f = sumR M fun q => sumR b fun d => f (b * q + d)
  | 0 => by simp [sumR_zero]
  | M + 1 => by rw [Nat.mul_succ, sumR_add, sumR_block b f M, sumR_succ]
/-- bases and targets -/
def gq (c : Nat) : Int → List (Nat × Int) → Int
  | left, [] => Pf c left
  | left, (b, t) :: r => if t < 0 then 0 else Wf b c (left - b * t) * gq c t r
/-- the targets behind a first number -/
def shiftq : Nat → List (Nat × Int) → List (Nat × Int)
  | _, [] => []
  | z, (b, t) :: r => (b, t - (z / b : Nat)) :: shiftq (z / b) r
theorem gq_neg {c : Nat} {left : Int} (h : left < 0) : ∀ (r : List (Nat × Int)), gq c left r = 0
  | [] => Pf_neg h
  | (b, t) :: r => by
    show (if t < 0 then (0 : Int) else _) = 0
    split
    · rfl
    · have : 0 ≤ (b : Int) * t := Int.mul_nonneg (by omega) (by omega)
      rw [Wf_neg b (by omega), Int.zero_mul]
theorem Pf_sum (c : Nat) : ∀ (n : Nat) (left : Int), left < n → sumR n (fun z => Pf c (left - z)) = Pf (c + 1) left
  | n, left, h => by
    have go : ∀ k : Nat, ∀ n : Nat, (k : Int) - 1 < n → sumR n (fun z => Pf c ((k : Int) - 1 - z)) = Pf (c + 1) ((k : Int) - 1) := by
      intro k
      induction k with
      | zero =>
        intro n _
        rw [Pf_neg (by omega)]
        exact sumR_const0 fun i _ => Pf_neg (by omega)
      | succ k ih =>
        intro n hn
        obtain ⟨m, rfl⟩ : ∃ m, n = 1 + m := ⟨n - 1, by omega⟩
        have e : ((k + 1 : Nat) : Int) - 1 = k := by omega
        have h2 := Pf_step c k
        rw [e, sumR_add, h2]
        have h3 := ih m (by omega)
        have h4 : sumR m (fun i => Pf c ((k : Int) - ((1 + i : Nat) : Int))) = sumR m fun z => Pf c ((k : Int) - 1 - z) := sumR_congr fun i _ => by
          rw [show (k : Int) - ((1 + i : Nat) : Int) = k - 1 - i by omega]
        have h5 : sumR 1 (fun z => Pf c ((k : Int) - z)) = Pf c k := by
          rw [show (1 : Nat) = 0 + 1 from rfl, sumR_succ, sumR_zero]
          simp
        rw [h4, h3, h5]
        omega
    by_cases hn : left < 0
    · rw [Pf_neg hn]
      exact sumR_const0 fun i _ => Pf_neg (by omega)
    · have := go (left + 1).toNat n (by omega)
      rw [show (((left + 1).toNat : Nat) : Int) - 1 = left by omega] at this
      exact this
theorem gq_sum (c : Nat) : ∀ (r : List (Nat × Int)) (left : Int) (n : Nat), (∀ x ∈ r, 1 ≤ x.1) → left < n → sumR n (fun z => gq c (left - z) (shiftq z r)) = gq (c + 1) left r
  | [], left, n, _, h => Pf_sum c n left h
  | (b, t) :: r, left, n, hb, h => by
    have hb1 : 1 ≤ b := hb (b, t) List.mem_cons_self
    have hr : ∀ x ∈ r, 1 ≤ x.1 := fun x hx => hb x (List.mem_cons_of_mem _ hx)
    show _ = (if t < 0 then (0 : Int) else Wf b (c + 1) (left - b * t) * gq (c + 1) t r)
    by_cases ht : t < 0
    · rw [if_pos ht]
      refine sumR_const0 fun z _ => ?_
      show (if t - ((z / b : Nat) : Int) < 0 then (0 : Int) else _) = 0
      have hz : (0 : Int) ≤ ((z / b : Nat) : Int) := Int.natCast_nonneg _
      rw [if_pos (by generalize ((z / b : Nat) : Int) = y at hz; omega)]
    · rw [if_neg ht]
      -- extend to a whole number of blocks
      have hM : n ≤ b * (n + t.toNat + 1) := by
        have : 1 * (n + t.toNat + 1) ≤ b * (n + t.toNat + 1) := Nat.mul_le_mul_right _ hb1
        omega
      have ext : sumR n (fun z => gq c (left - z) (shiftq z ((b, t) :: r))) = sumR (b * (n + t.toNat + 1)) (fun z => gq c (left - z) (shiftq z ((b, t) :: r))) := by
        have := sumR_more (n := n) (f := fun z => gq c (left - z) (shiftq z ((b, t) :: r))) (fun i hi => gq_neg (by omega) _) (b * (n + t.toNat + 1) - n)
        rw [show n + (b * (n + t.toNat + 1) - n) = b * (n + t.toNat + 1) by omega] at this
        exact this.symm
      rw [ext, sumR_block]
      have inner : ∀ q : Nat, (sumR b fun d => gq c (left - ((b * q + d : Nat) : Int)) (shiftq (b * q + d) ((b, t) :: r))) = Wf b (c + 1) (left - b * t) * gq c (t - q) (shiftq q r) := by
        intro q
        have e1 : ∀ d, d < b → gq c (left - ((b * q + d : Nat) : Int)) (shiftq (b * q + d) ((b, t) :: r)) = gq c (t - q) (shiftq q r) * Wf b c (left - b * t - d) := by
          intro d hd
          have eq : (b * q + d) / b = q := by
            rw [Nat.mul_add_div (by omega), Nat.div_eq_of_lt hd]
            rfl
          show (if t - (((b * q + d) / b : Nat) : Int) < 0 then (0 : Int) else Wf b c (left - ((b * q + d : Nat) : Int) - b * (t - (((b * q + d) / b : Nat) : Int))) * gq c (t - (((b * q + d) / b : Nat) : Int)) (shiftq ((b * q + d) / b) r)) = _
          rw [eq]
          by_cases hq : t - (q : Int) < 0
          · rw [if_pos hq, gq_neg hq, Int.zero_mul]
          · rw [if_neg hq, Int.mul_comm]
            congr 2
            rw [Int.mul_sub, show ((b * q + d : Nat) : Int) = (b : Int) * q + d by rw [Int.natCast_add, Int.natCast_mul]]
            omega
        rw [sumR_congr e1, sumR_mul, Int.mul_comm]
        rfl
      rw [sumR_congr fun q _ => inner q, sumR_mul]
      congr 1
      exact gq_sum c r t _ hr (by omega)
def books : Nat → Int → List (List Int)
  | 0, n => if n = 0 then [[]] else []
  | c + 1, n => (List.range (n - c).toNat).flatMap fun i : Nat => (books c (n - (1 + (i : Int)))).map fun xs => (1 + (i : Int)) :: xs
def fitsB (ls : List (Int × Int)) (xs : List Int) : Bool := ls.all fun l => decide (ct xs l.1 = l.2)
def sh (i : Nat) (ls : List (Int × Int)) : List (Int × Int) := ls.map fun l => (l.1, l.2 - ((i : Int) / l.1 + 1))
theorem fits_cons (i : Nat) (ls : List (Int × Int)) (xs : List Int) : fitsB ls ((1 + (i : Int)) :: xs) = fitsB (sh i ls) xs := by
  unfold fitsB sh
  induction ls with
  | nil => rfl
  | cons l ls ih =>
    rw [List.map_cons, List.all_cons, List.all_cons, ih]
    congr 1
    rw [decide_eq_decide, ct_cons]
    show (1 + (i : Int) - 1) / l.1 + 1 + ct xs l.1 = l.2 ↔ ct xs l.1 = l.2 - ((i : Int) / l.1 + 1)
    rw [show 1 + (i : Int) - 1 = i by omega]
    omega
def quots (c : Nat) : Int → List (Int × Int) → List (Nat × Int)
  | _, [] => []
  | u, l :: rest => ((l.1 / u).toNat, l.2 - c) :: quots c l.1 rest
theorem gp_gq (c : Nat) : ∀ (ls : List (Int × Int)) (left u : Int), 1 ≤ u → Chain u ls → gp c left u ls = gq c left (quots c u ls)
  | [], _, _, _, _ => rfl
  | l :: rest, left, u, hu, ⟨h1, h2, h3⟩ => by
    have hb := chain_base hu h1
    show (if l.2 - c < 0 then (0 : Int) else Wf (l.1 / u).toNat c (left - (l.1 / u) * (l.2 - c)) * gp c (l.2 - c) l.1 rest) = (if l.2 - c < 0 then (0 : Int) else Wf (l.1 / u).toNat c (left - ((l.1 / u).toNat : Nat) * (l.2 - c)) * gq c (l.2 - c) (quots c l.1 rest))
    rw [gp_gq c rest _ _ (by omega) h3, show (((l.1 / u).toNat : Nat) : Int) = l.1 / u by omega]
theorem quots_pos (c : Nat) : ∀ (ls : List (Int × Int)) (u : Int), 1 ≤ u → Chain u ls → ∀ x ∈ quots c u ls, 1 ≤ x.1
  | [], _, _, _, x, hx => by cases hx
  | l :: rest, u, hu, ⟨h1, h2, h3⟩, x, hx => by
    have hb := chain_base hu h1
    rcases List.mem_cons.mp hx with rfl | hx
    · show 1 ≤ (l.1 / u).toNat
      omega
    · exact quots_pos c rest l.1 (by omega) h3 x hx
theorem quots_sh (c i : Nat) : ∀ (ls : List (Int × Int)) (u : Int), 1 ≤ u → Chain u ls → quots c u (sh i ls) = shiftq ((i : Int) / u).toNat (quots (c + 1) u ls)
  | [], _, _, _ => rfl
  | l :: rest, u, hu, ⟨h1, h2, h3⟩ => by
    have hb := chain_base hu h1
    have i0 : 0 ≤ (i : Int) / u := Int.ediv_nonneg (by omega) (by omega)
    have j0 : 0 ≤ (i : Int) / l.1 := Int.ediv_nonneg (by omega) (by omega)
    have e : (i : Int) / u / (l.1 / u) = i / l.1 := by
      rw [Int.ediv_ediv_of_nonneg (by omega), Int.mul_ediv_cancel' h2]
    have e2 : ((((i : Int) / u).toNat / (l.1 / u).toNat : Nat) : Int) = (i : Int) / l.1 := by
      rw [Int.natCast_ediv, Int.toNat_of_nonneg i0, Int.toNat_of_nonneg (by omega), e]
    have e3 : ((i : Int) / u).toNat / (l.1 / u).toNat = ((i : Int) / l.1).toNat := by omega
    show ((l.1 / u).toNat, l.2 - ((i : Int) / l.1 + 1) - c) :: quots c l.1 (sh i rest) = ((l.1 / u).toNat, l.2 - ((c + 1 : Nat) : Int) - ((((i : Int) / u).toNat / (l.1 / u).toNat : Nat) : Int)) :: shiftq (((i : Int) / u).toNat / (l.1 / u).toNat) (quots (c + 1) l.1 rest)
    rw [e2, e3, quots_sh c i rest l.1 (by omega) h3]
    congr 2
    omega
theorem gq_zero : ∀ (r : List (Nat × Int)) (left : Int), gq 0 left r = if left = 0 ∧ ∀ x ∈ r, x.2 = 0 then 1 else 0
  | [], left => by
    show (if left = 0 then (1 : Int) else 0) = _
    simp
  | (b, t) :: r, left => by
    show (if t < 0 then (0 : Int) else (if left - b * t = 0 then (1 : Int) else 0) * gq 0 t r) = _
    rw [gq_zero r t]
    by_cases ht : t = 0
    · subst ht
      rw [if_neg (by omega), Int.mul_zero, Int.sub_zero]
      by_cases h1 : left = 0
      · rw [if_pos h1, Int.one_mul]
        by_cases h2 : ∀ x ∈ r, x.2 = 0
        · rw [if_pos ⟨rfl, h2⟩, if_pos ⟨h1, List.forall_mem_cons.mpr ⟨rfl, h2⟩⟩]
        · rw [if_neg fun q => h2 q.2, if_neg fun q => h2 fun x hx => q.2 x (List.mem_cons_of_mem _ hx)]
      · rw [if_neg h1, Int.zero_mul, if_neg fun q => h1 q.1]
    · have n1 : ¬ (t = 0 ∧ ∀ x ∈ r, x.2 = 0) := fun q => ht q.1
      have n2 : ¬ (left = 0 ∧ ∀ x ∈ (b, t) :: r, x.2 = 0) := fun q => ht (q.2 (b, t) List.mem_cons_self)
      rw [if_neg n1, Int.mul_zero, if_neg n2]
      split <;> rfl
theorem quots_zero : ∀ (ls : List (Int × Int)) (u : Int), (∀ x ∈ quots 0 u ls, x.2 = 0) ↔ ∀ l ∈ ls, l.2 = 0
  | [], _ => by simp [quots]
  | l :: rest, u => by
    have ih := quots_zero rest l.1
    show (∀ x ∈ ((l.1 / u).toNat, l.2 - ((0 : Nat) : Int)) :: quots 0 l.1 rest, x.2 = 0) ↔ _
    rw [List.forall_mem_cons, List.forall_mem_cons, ih]
    have : l.2 - ((0 : Nat) : Int) = l.2 := by omega
    show l.2 - ((0 : Nat) : Int) = 0 ∧ _ ↔ _
    rw [this]
theorem countP_flat {α β : Type} (p : β → Bool) (g : α → List β) : ∀ l : List α, ((l.flatMap g).countP p : Nat) = (l.map fun a => (g a).countP p).sum
  | [] => rfl
  | a :: l => by rw [List.flatMap_cons, List.countP_append, countP_flat p g l, List.map_cons, List.sum_cons]
theorem sum_cast (l : List Nat) : ((l.sum : Nat) : Int) = (l.map fun x : Nat => (x : Int)).sum := by
  induction l with
  | nil => rfl
  | cons x l ih => rw [List.sum_cons, List.map_cons, List.sum_cons, Int.natCast_add, ih]
theorem books_gq : ∀ (c : Nat) (n : Int) (ls : List (Int × Int)), Chain 1 ls → (((books c n).countP (fitsB ls) : Nat) : Int) = gq c (n - c) (quots c 1 ls)
  | 0, n, ls, h => by
    rw [gq_zero, show n - ((0 : Nat) : Int) = n by omega]
    have e : (∀ x ∈ quots 0 1 ls, x.2 = 0) ↔ ∀ l ∈ ls, l.2 = 0 := quots_zero ls 1
    show (((if n = 0 then [[]] else ([] : List (List Int))).countP (fitsB ls) : Nat) : Int) = _
    by_cases hn : n = 0
    · rw [if_pos hn]
      have hf : fitsB ls [] = decide (∀ l ∈ ls, l.2 = 0) := by
        unfold fitsB
        rw [Bool.eq_iff_iff, List.all_eq_true, decide_eq_true_iff]
        constructor
        · intro z l hl
          have := of_decide_eq_true (z l hl)
          have e0 : ct [] l.1 = 0 := rfl
          omega
        · intro z l hl
          have e0 : ct [] l.1 = 0 := rfl
          rw [decide_eq_true_iff, e0, z l hl]
      rw [List.countP_cons, hf]
      by_cases hz : ∀ l ∈ ls, l.2 = 0
      · rw [if_pos (decide_eq_true hz), if_pos ⟨hn, e.mpr hz⟩]
        rfl
      · rw [if_neg (by simpa using hz), if_neg fun q => hz (e.mp q.2)]
        rfl
    · rw [if_neg hn, if_neg fun q => hn q.1]
      rfl
  | c + 1, n, ls, h => by
    have hsh : ∀ i, Chain 1 (sh i ls) := fun i => by
      have go : ∀ (ms : List (Int × Int)) (u : Int), Chain u ms → Chain u (sh i ms) := by
        intro ms
        induction ms with
        | nil => intro u _; trivial
        | cons m ms ih => intro u hm; exact ⟨hm.1, hm.2.1, ih m.1 hm.2.2⟩
      exact go ls 1 h
    show ((((List.range (n - c).toNat).flatMap fun i : Nat => (books c (n - (1 + (i : Int)))).map fun xs => (1 + (i : Int)) :: xs).countP (fitsB ls) : Nat) : Int) = _
    rw [countP_flat, sum_cast, List.map_map]
    have e : ((List.range (n - c).toNat).map ((fun x : Nat => (x : Int)) ∘ fun i : Nat => ((books c (n - (1 + (i : Int)))).map fun xs => (1 + (i : Int)) :: xs).countP (fitsB ls))).sum = sumR (n - c).toNat fun z => gq c (n - ((c + 1 : Nat) : Int) - z) (shiftq z (quots (c + 1) 1 ls)) := by
      unfold sumR
      congr 1
      refine List.map_congr_left fun i _ => ?_
      show ((((books c (n - (1 + (i : Int)))).map fun xs => (1 + (i : Int)) :: xs).countP (fitsB ls) : Nat) : Int) = _
      rw [List.countP_map]
      have e1 : (fitsB ls ∘ fun xs => (1 + (i : Int)) :: xs) = fitsB (sh i ls) := by
        funext xs
        exact fits_cons i ls xs
      rw [e1, books_gq c _ _ (hsh i), quots_sh c i ls 1 (by omega) h, Int.ediv_one, show ((i : Int)).toNat = i by omega, show n - (1 + (i : Int)) - c = n - ((c + 1 : Nat) : Int) - i by omega]
    rw [e]
    exact gq_sum c _ _ _ (quots_pos _ _ _ (by omega) h) (by omega)
/-- counting by trying -/
theorem books_count (c : Nat) {n : Int} {ls : List (Int × Int)} (h : Chain 1 ls) : (((books c n).countP (fitsB ls) : Nat) : Int) = cnt c n ls := by
  rw [books_gq c n ls h]
  unfold cnt
  by_cases hc : c = 0
  · subst hc
    rw [if_pos rfl, gq_zero, show n - ((0 : Nat) : Int) = n by omega]
    by_cases h2 : n = 0 ∧ ∀ l ∈ ls, l.2 = 0
    · rw [if_pos h2, if_pos ⟨h2.1, (quots_zero ls 1).mpr h2.2⟩]
    · rw [if_neg h2, if_neg fun q => h2 ⟨q.1, (quots_zero ls 1).mp q.2⟩]
  · rw [if_neg hc]
    by_cases hn : n < c
    · rw [if_pos hn, gq_neg (by omega)]
    · rw [if_neg hn, gp_gq c ls _ _ (by omega) h]
/-! ### digit by digit, as lists -/
def WL (b j : Nat) : List Int := (List.range (j * (b - 1) + 1)).map fun t : Nat => Wf b j t
theorem WL_len (b j : Nat) : (WL b j).length = j * (b - 1) + 1 := by simp [WL]
theorem WL_0 (b : Nat) : WL b 0 = [1] := by simp [WL, Wf]
theorem WL_at {b j t : Nat} (h : t < j * (b - 1) + 1) : (WL b j)[t]? = some (Wf b j t) := by
  unfold WL
  rw [List.getElem?_map, List.getElem?_range h]
  rfl
/-- what stands at t when s spots are done, and d digits of the next one -/
def LS (b j s d t : Nat) : Int := sumR s (fun s' => if s' ≤ t ∧ t < s' + b then Wf b j s' else 0) + (if s ≤ t ∧ t < s + d then Wf b j s else 0)
theorem LS_zero (b j t : Nat) : LS b j 0 0 t = 0 := by
  unfold LS
  rw [sumR_zero, if_neg (by omega)]
  rfl
theorem LS_same (b j s d : Nat) : LS b j s d (s + d) + Wf b j s = LS b j s (d + 1) (s + d) := by
  unfold LS
  rw [if_neg (c := s ≤ s + d ∧ s + d < s + d) (by omega), if_pos (c := s ≤ s + d ∧ s + d < s + (d + 1)) (by omega)]
  omega
theorem LS_other {b j s d t : Nat} (h : t ≠ s + d) : LS b j s d t = LS b j s (d + 1) t := by
  unfold LS
  congr 1
  by_cases h1 : s ≤ t ∧ t < s + d
  · rw [if_pos h1, if_pos (by omega)]
  · rw [if_neg h1, if_neg (by omega)]
theorem LS_next (b j s t : Nat) : LS b j s b t = LS b j (s + 1) 0 t := by
  unfold LS
  rw [sumR_succ, if_neg (c := s + 1 ≤ t ∧ t < s + 1 + 0) (by omega)]
  omega
theorem sumR_single (N t0 : Nat) (v : Int) : sumR N (fun s => if s = t0 then v else 0) = if t0 < N then v else 0 := by
  induction N with
  | zero => rfl
  | succ N ih =>
    rw [sumR_succ, ih]
    by_cases h1 : t0 < N
    · rw [if_pos h1, if_neg (by omega), if_pos (by omega)]
      omega
    · rw [if_neg h1]
      by_cases h2 : N = t0
      · rw [if_pos h2, if_pos (by omega)]
        omega
      · rw [if_neg h2, if_neg (by omega)]
        rfl
theorem conv_dig (b j : Nat) (t N : Nat) (hN : t < N) : ∀ k : Nat, sumR N (fun s => if s ≤ t ∧ t < s + k then Wf b j s else 0) = sumR k fun d => Wf b j ((t : Int) - d)
  | 0 => by
    rw [sumR_zero]
    exact sumR_const0 fun s _ => if_neg (by omega)
  | k + 1 => by
    have ih := conv_dig b j t N hN k
    rw [sumR_succ, ← ih]
    have key : ∀ f g h : Nat → Int, (∀ s, f s = g s + h s) → sumR N f = sumR N g + sumR N h := by
      intro f g h e
      clear hN ih
      induction N with
      | zero => rfl
      | succ N ihN => rw [sumR_succ, sumR_succ, sumR_succ, ihN, e N]; omega
    by_cases hk : k ≤ t
    · rw [key _ (fun s => if s ≤ t ∧ t < s + k then Wf b j s else 0) (fun s => if s = t - k then Wf b j ((t - k : Nat) : Int) else 0) (fun s => by
        by_cases h1 : s = t - k
        · subst h1
          rw [if_pos (c := t - k ≤ t ∧ t < t - k + (k + 1)) (by omega), if_neg (c := t - k ≤ t ∧ t < t - k + k) (by omega), if_pos rfl]
          omega
        · rw [if_neg h1]
          by_cases h2 : s ≤ t ∧ t < s + k
          · rw [if_pos h2, if_pos (by omega)]
            omega
          · rw [if_neg h2, if_neg (by omega)]
            rfl), sumR_single, if_pos (by omega), show ((t - k : Nat) : Int) = (t : Int) - k by omega]
    · rw [Wf_neg b (t := (t : Int) - k) (by omega)]
      rw [sumR_congr (g := fun s => if s ≤ t ∧ t < s + k then Wf b j s else 0) (fun s _ => by
        by_cases h2 : s ≤ t ∧ t < s + k
        · rw [if_pos h2, if_pos (by omega)]
        · rw [if_neg h2, if_neg (by omega)])]
      omega
theorem LS_all {b : Nat} (hb : 1 ≤ b) (j t : Nat) : LS b j (j * (b - 1) + 1) 0 t = Wf b (j + 1) t := by
  unfold LS
  rw [if_neg (by omega), Int.add_zero]
  have ext : sumR (j * (b - 1) + 1) (fun s => if s ≤ t ∧ t < s + b then Wf b j s else 0) = sumR (j * (b - 1) + 1 + (t + 1)) (fun s => if s ≤ t ∧ t < s + b then Wf b j s else 0) :=
    (sumR_more (fun i hi => by
      have hz : Wf b j i = 0 := Wf_over hb (by
        have : (j : Int) * ((b : Int) - 1) = ((j * (b - 1) : Nat) : Int) := by rw [Int.natCast_mul, Int.natCast_sub hb]; rfl
        omega)
      rw [hz]
      split <;> rfl) _).symm
  rw [ext, conv_dig b j t _ (by omega) b]
  rfl
/-! ### what is left above a unit -/
def qs (xs : List Int) (u : Int) : List Int := xs.map fun x => (x - 1) / u
theorem qs_sum (xs : List Int) (u : Int) : (qs xs u).sum = ct xs u - xs.length := by
  induction xs with
  | nil => rfl
  | cons x xs ih =>
    show ((x - 1) / u :: qs xs u).sum = _
    rw [List.sum_cons, ih, ct_cons, List.length_cons]
    omega
theorem qs_one (xs : List Int) : qs xs 1 = xs.map fun x => x - 1 := by
  unfold qs
  exact List.map_congr_left fun x _ => Int.ediv_one _
theorem qs_len (xs : List Int) (u : Int) : (qs xs u).length = xs.length := List.length_map _
theorem le_sum {xs : List Int} (hx : ∀ x ∈ xs, 1 ≤ x) : ∀ x ∈ xs, x ≤ xs.sum := by
  induction xs with
  | nil => simp
  | cons y ys ih =>
    intro x hx2
    have h0 := hx y List.mem_cons_self
    have h1 : ∀ z ∈ ys, 1 ≤ z := fun z hz => hx z (List.mem_cons_of_mem _ hz)
    have hs : 0 ≤ ys.sum := by
      clear ih hx hx2
      induction ys with
      | nil => simp
      | cons z zs ih =>
        have := h1 z List.mem_cons_self
        have := ih fun y hy => h1 y (List.mem_cons_of_mem _ hy)
        rw [List.sum_cons]
        omega
    rw [List.sum_cons]
    rcases List.mem_cons.mp hx2 with rfl | h
    · omega
    · have := ih h1 x h
      omega
theorem qs_mem {xs : List Int} {u : Int} (hx : ∀ x ∈ xs, 1 ≤ x) (hs : xs.sum < 2 ^ 150) (hu : 1 ≤ u) : ∀ y ∈ qs xs u, 0 ≤ y ∧ y < 2 ^ 150 := by
  intro y hy
  obtain ⟨x, hx2, rfl⟩ := List.mem_map.mp hy
  have h1 := hx x hx2
  have h2 := le_sum hx x hx2
  have h3 : (x - 1) / u ≤ x - 1 := Int.ediv_le_self _ (by omega)
  have h4 : 0 ≤ (x - 1) / u := Int.ediv_nonneg (by omega) (by omega)
  omega
theorem qs_nonneg {xs : List Int} {u : Int} (hx : ∀ x ∈ xs, 1 ≤ x) (hu : 1 ≤ u) : 0 ≤ (qs xs u).sum := by
  unfold qs
  induction xs with
  | nil => simp
  | cons x xs ih =>
    have h1 := hx x List.mem_cons_self
    have h2 := ih fun y hy => hx y (List.mem_cons_of_mem _ hy)
    have h3 : 0 ≤ (x - 1) / u := Int.ediv_nonneg (by omega) (by omega)
    rw [List.map_cons, List.sum_cons]
    omega
theorem ct_one_sum (xs : List Int) : ct xs 1 = xs.sum := by
  induction xs with
  | nil => rfl
  | cons x xs ih =>
    rw [ct_cons, ih, List.sum_cons, Int.ediv_one]
    omega
theorem qs_step (xs : List Int) {u b : Int} (hu : 0 ≤ u) : (qs xs u).map (fun y => y / b) = qs xs (u * b) := by
  unfold qs
  rw [List.map_map]
  exact List.map_congr_left fun x _ => Int.ediv_ediv_of_nonneg hu
theorem qs_mod (xs : List Int) {u b : Int} (hu : 0 ≤ u) : ((qs xs u).map fun y => y % b).sum = (qs xs u).sum - b * (qs xs (u * b)).sum := by
  rw [← qs_step xs hu]
  induction qs xs u with
  | nil => simp
  | cons y ys ih =>
    rw [List.map_cons, List.map_cons, List.sum_cons, List.sum_cons, List.sum_cons, ih, Int.mul_add]
    have := Int.emod_add_mul_ediv y b
    omega
theorem mod_sum {b : Int} (hb : 1 ≤ b) : ∀ ys : List Int, 0 ≤ (ys.map fun y => y % b).sum ∧ (ys.map fun y => y % b).sum ≤ ys.length * (b - 1)
  | [] => by simp
  | y :: ys => by
    have ih := mod_sum hb ys
    have h1 := Int.emod_nonneg y (b := b) (by omega)
    have h2 := Int.emod_lt_of_pos y (b := b) (by omega)
    rw [List.map_cons, List.sum_cons, List.length_cons, show ((ys.length + 1 : Nat) : Int) * (b - 1) = ys.length * (b - 1) + (b - 1) by rw [show ((ys.length + 1 : Nat) : Int) = (ys.length : Int) + 1 by omega, Int.add_mul]; omega]
    omega
/-- each size at most twenty times the one before -/
def FC : Int → List Int → Prop
  | _, [] => True
  | u, x :: rest => x ≤ 20 * u ∧ FC x rest
theorem FC.snoc : ∀ {xs : List Int} {u w w' : Int}, FC u (xs ++ [w]) → w' ≤ 20 * w → FC u (xs ++ [w] ++ [w'])
  | [], u, w, w', ⟨h1, _⟩, g => ⟨h1, g, trivial⟩
  | x :: xs, u, w, w', ⟨h1, h3⟩, g => ⟨h1, FC.snoc h3 g⟩
theorem FC.init : ∀ {xs : List Int} {u w : Int}, FC u (xs ++ [w]) → FC u xs
  | [], _, _, _ => trivial
  | x :: xs, _, _, ⟨h1, h3⟩ => ⟨h1, FC.init h3⟩
/-- the sizes with the page counts of a book -/
def rowsOf (xs zs : List Int) : List (Int × Int) := zs.map fun w => (w, ct xs w)
theorem gp_rows0 : ∀ (zs : List Int) (u : Int), gp 0 0 u (rowsOf [] zs) = 1
  | [], u => rfl
  | w :: zs, u => by
    show (if (0 : Int) - ((0 : Nat) : Int) < 0 then (0 : Int) else Wf (w / u).toNat 0 (0 - (w / u) * (0 - ((0 : Nat) : Int))) * gp 0 (0 - ((0 : Nat) : Int)) w (rowsOf [] zs)) = 1
    have e : (0 : Int) - ((0 : Nat) : Int) = 0 := by omega
    rw [e, if_neg (by omega), gp_rows0 zs w, Int.mul_zero, Int.mul_one]
    rfl
theorem len_le_sum : ∀ {xs : List Int}, (∀ x ∈ xs, 1 ≤ x) → (xs.length : Int) ≤ xs.sum
  | [], _ => by simp
  | x :: xs, h => by
    have h1 := h x List.mem_cons_self
    have h2 := len_le_sum (xs := xs) fun y hy => h y (List.mem_cons_of_mem _ hy)
    rw [List.length_cons, List.sum_cons]
    omega
theorem cnt_rows {xs : List Int} (hx : ∀ x ∈ xs, 1 ≤ x) (zs : List Int) : cnt xs.length xs.sum (rowsOf xs zs) = gp xs.length (xs.sum - xs.length) 1 (rowsOf xs zs) := by
  unfold cnt
  by_cases h : xs.length = 0
  · have e : xs = [] := List.length_eq_zero_iff.mp h
    subst e
    have e2 : ∀ l ∈ rowsOf [] zs, l.2 = 0 := by
      intro l hl
      obtain ⟨w, _, rfl⟩ := List.mem_map.mp hl
      rfl
    rw [if_pos (show ([] : List Int).length = 0 from rfl), if_pos ⟨rfl, e2⟩]
    exact (gp_rows0 zs 1).symm
  · have := len_le_sum hx
    rw [if_neg h, if_neg (by omega)]
theorem gp_row {xs zs : List Int} {u w b : Int} (hx : ∀ x ∈ xs, 1 ≤ x) (hu : 1 ≤ u) (hb : 1 ≤ b) (hw : w = u * b) :
    gp xs.length (qs xs u).sum u (rowsOf xs (w :: zs)) = Wf b.toNat xs.length ((qs xs u).map fun y => y % b).sum * gp xs.length (qs xs w).sum w (rowsOf xs zs) := by
  show (if ct xs w - xs.length < 0 then (0 : Int) else Wf (w / u).toNat xs.length ((qs xs u).sum - (w / u) * (ct xs w - xs.length)) * gp xs.length (ct xs w - xs.length) w (rowsOf xs zs)) = _
  have wp : 0 < w := by
    have := Int.mul_le_mul hu hb (by omega) (by omega)
    omega
  have h0 : (0 : Int) ≤ (qs xs w).sum := by
    unfold qs
    clear hu hb hw
    induction xs with
    | nil => simp
    | cons x xs ih =>
      have h1 := hx x List.mem_cons_self
      have h2 := ih fun y hy => hx y (List.mem_cons_of_mem _ hy)
      have h3 : 0 ≤ (x - 1) / w := Int.ediv_nonneg (by omega) (by omega)
      rw [List.map_cons, List.sum_cons]
      omega
  have e1 : w / u = b := by rw [hw, Int.mul_ediv_cancel_left _ (by omega)]
  rw [← qs_sum, if_neg (by omega), e1, qs_mod xs (by omega), ← hw]
theorem w_iteB3 {b : Bool} {A B : Prop} (h1 : b = true → A) (h2 : b = false → B) : if b = true then A else B := by
  cases b
  · exact h2 rfl
  · exact h1 rfl
/-! ### how great -/
theorem Wf_pow (b : Nat) : ∀ (p : Nat) (t : Int), Wf b p t ≤ ((b ^ p : Nat) : Int)
  | 0, t => by
    show (if t = 0 then (1 : Int) else 0) ≤ ((b ^ 0 : Nat) : Int)
    rw [Nat.pow_zero]
    split <;> decide
  | p + 1, t => by
    have go : ∀ n : Nat, ((List.range n).map fun d : Nat => Wf b p (t - d)).sum ≤ n * ((b ^ p : Nat) : Int) := by
      intro n
      induction n with
      | zero => simp
      | succ n ih =>
        have h := Wf_pow b p (t - n)
        rw [sum_range_succ, show ((n + 1 : Nat) : Int) = (n : Int) + 1 by omega, Int.add_mul]
        omega
    have := go b
    rw [Nat.pow_succ, Nat.mul_comm, Int.natCast_mul]
    exact this
theorem Wf_200 {b p : Nat} (t : Int) (hb : b ≤ 20) (hp : p ≤ 41) : Wf b p t ≤ ((2 ^ 200 : Nat) : Int) := by
  have h1 := Wf_pow b p t
  have h2 : b ^ p ≤ 20 ^ p := Nat.pow_le_pow_left hb p
  have h3 : 20 ^ p ≤ 20 ^ 41 := Nat.pow_le_pow_right (by decide) hp
  have h4 : 20 ^ 41 ≤ 2 ^ 200 := by decide
  have h5 : b ^ p ≤ 2 ^ 200 := Nat.le_trans h2 (Nat.le_trans h3 h4)
  exact Int.le_trans h1 (by exact_mod_cast h5)
theorem Pf_1100 {p : Nat} {t : Int} (hp : p ≤ 41) (ht : t ≤ 1000) : Pf p t ≤ ((2 ^ 1100 : Nat) : Int) := by
  by_cases h : t < 0
  · rw [Pf_neg h]
    exact Int.natCast_nonneg _
  · by_cases hp0 : p = 0
    · subst hp0
      show (if t = 0 then (1 : Int) else 0) ≤ _
      have : (1 : Nat) ≤ 2 ^ 1100 := Nat.one_le_two_pow
      have h5 : (1 : Int) ≤ ((2 ^ 1100 : Nat) : Int) := by exact_mod_cast this
      split
      · exact h5
      · exact Int.natCast_nonneg _
    · rw [Pf_ch (by omega) (by omega)]
      have h1 := ch_two (t.toNat + p - 1) (p - 1)
      have h2 : 2 ^ (t.toNat + p - 1) ≤ 2 ^ 1100 := Nat.pow_le_pow_right (by decide) (by omega)
      exact_mod_cast Nat.le_trans h1 h2
theorem small_mul {a b : Int} {i : Nat} (a0 : 0 ≤ a) (a1 : a ≤ ((2 ^ (200 * i) : Nat) : Int)) (b0 : 0 ≤ b) (b1 : b ≤ ((2 ^ 1100 : Nat) : Int)) (hi : i ≤ 40) : CMulW a b := by
  refine cmulW (a := 8001) (b := 1101) ?_ ?_ (by decide) (by decide) (by decide)
  · have h1 : (a.natAbs : Int) ≤ ((2 ^ (200 * i) : Nat) : Int) := by rw [Int.natAbs_of_nonneg a0]; exact a1
    have h2 : a.natAbs ≤ 2 ^ (200 * i) := by exact_mod_cast h1
    exact Nat.lt_of_le_of_lt h2 (Nat.pow_lt_pow_right (by decide) (by omega))
  · have h1 : (b.natAbs : Int) ≤ ((2 ^ 1100 : Nat) : Int) := by rw [Int.natAbs_of_nonneg b0]; exact b1
    have h2 : b.natAbs ≤ 2 ^ 1100 := by exact_mod_cast h1
    exact Nat.lt_of_le_of_lt h2 (Nat.pow_lt_pow_right (by decide) (by decide))
theorem small_step {a b : Int} {i : Nat} (a0 : 0 ≤ a) (a1 : a ≤ ((2 ^ (200 * i) : Nat) : Int)) (b0 : 0 ≤ b) (b1 : b ≤ ((2 ^ 200 : Nat) : Int)) : a * b ≤ ((2 ^ (200 * (i + 1)) : Nat) : Int) := by
  rw [Nat.mul_add, Nat.pow_add, Nat.mul_one, Int.natCast_mul]
  exact Int.mul_le_mul a1 b1 b0 (Int.natCast_nonneg _)
theorem up_200 : ((2 ^ 200 : Nat) : Int) ≤ ((2 ^ 1100 : Nat) : Int) := by
  exact_mod_cast (Nat.pow_le_pow_right (by decide) (by decide) : 2 ^ 200 ≤ 2 ^ 1100)
theorem FC.drop : ∀ {zs : List Int} {u : Int} {i : Nat} {w : Int}, FC u zs → zs[i]? = some w → w ≤ 20 * ((zs.take i).getLast?.getD u)
  | [], _, _, _, _, h => by simp at h
  | x :: zs, u, 0, w, ⟨h1, _⟩, h => by
    have e : x = w := by simpa using h
    rw [← e]
    exact h1
  | x :: zs, u, i + 1, w, ⟨h1, h2⟩, h => by
    have ih := FC.drop (i := i) (w := w) h2 (by simpa using h)
    rw [List.take_succ_cons, List.getLast?_cons]
    exact ih
/-! ### the law's numbers -/
theorem w_ixTop {K : PySem.W.Frag} {H : Hp} {Q : VK} {p : Addr} {zs : List Int} (h : H p = some (.lst ((zs ++ [3]).map V.int))) (q : ∀ tv, tv = zs.getLast?.getD 3 → Q (.int tv) H) : rIxL K (.ref p) (.int (-1 - if (!decide (zs = [])) = true then 1 else 0)) H Q := by
  by_cases hz : zs = []
  · subst hz
    exact w_ixL (SqL.of h) (by rfl) (q 3 rfl)
  · have e : zs = zs.dropLast ++ [zs.getLast hz] := (List.dropLast_concat_getLast hz).symm
    have e2 : zs.getLast?.getD 3 = zs.getLast hz := by rw [List.getLast?_eq_some_getLast hz]; rfl
    refine w_ixL (SqL.of h) ?_ (q _ e2.symm)
    rw [decide_eq_false hz, if_pos (by decide)]
    unfold atI ixN
    have hl : 0 < zs.length := List.length_pos_iff.mpr hz
    have e3 : ((zs ++ [3]).map V.int).length = zs.length + 1 := by simp
    rw [if_neg (by omega), e3, if_pos (by omega)]
    show ((zs ++ [3]).map V.int)[((-1 - 1 : Int) + ((zs.length + 1 : Nat) : Int)).toNat]? = _
    rw [show ((-1 - 1 : Int) + ((zs.length + 1 : Nat) : Int)).toNat = zs.length - 1 by omega, List.getElem?_map, List.getElem?_append_left (by omega), ← List.getLast?_eq_getElem?, List.getLast?_eq_some_getLast hz]
    rfl
theorem last_mem {zs : List Int} {u : Int} (P : Int → Prop) (h : ∀ x ∈ zs, P x) (hu : P u) : P (zs.getLast?.getD u) := by
  cases e : zs.getLast? with
  | none => exact hu
  | some x => exact h x (List.mem_of_getLast? e)
theorem qs_small {xs : List Int} {u M : Int} (hu : 1 ≤ u) (hM : M ≤ 20 * u) (h : ∀ x ∈ xs, 1 ≤ x ∧ x ≤ M) : (qs xs u).sum ≤ xs.length * 20 := by
  unfold qs
  induction xs with
  | nil => simp
  | cons x xs ih =>
    have h1 := h x List.mem_cons_self
    have h2 := ih fun y hy => h y (List.mem_cons_of_mem _ hy)
    have h3 : (x - 1) / u ≤ 20 := by
      have h4 : (x - 1) / u ≤ (20 * u) / u := Int.ediv_le_ediv (by omega) (by omega)
      rw [Int.mul_ediv_cancel _ (by omega)] at h4
      exact h4
    rw [List.map_cons, List.sum_cons, List.length_cons]
    omega
theorem ok_rows {xs : List Int} (hx : ∀ x ∈ xs, 1 ≤ x) : ∀ (zs : List Int) (u : Int), 1 ≤ u → Chain u (rowsOf xs zs) → okP xs.length (qs xs u).sum u (rowsOf xs zs)
  | [], _, _, _ => trivial
  | w :: zs, u, hu, h => by
    obtain ⟨h1, ⟨b, hb⟩, h3⟩ : u ≤ w ∧ u ∣ w ∧ Chain w (rowsOf xs zs) := h
    have hb1 : 1 ≤ b := by
      apply Int.not_lt.mp
      intro hb0
      have : u * b ≤ u * 0 := Int.mul_le_mul_of_nonneg_left (by omega) (by omega)
      rw [Int.mul_zero] at this
      omega
    have ih := ok_rows hx zs w (by omega) h3
    have e1 : w / u = b := by rw [hb, Int.mul_ediv_cancel_left _ (by omega)]
    have hm := mod_sum hb1 (qs xs u)
    rw [qs_mod xs (by omega), ← hb, qs_len] at hm
    have h0 := qs_nonneg hx (show 1 ≤ w by omega)
    show (0 ≤ ct xs w - xs.length ∧ (0 ≤ (qs xs u).sum - (w / u) * (ct xs w - xs.length) ∧ (qs xs u).sum - (w / u) * (ct xs w - xs.length) ≤ xs.length * ((w / u) - 1)) ∧ okP xs.length (ct xs w - xs.length) w (rowsOf xs zs))
    rw [e1, ← qs_sum]
    exact ⟨h0, hm, ih⟩
theorem chain_rows {xs zs : List Int} (hsc : SChain 0 zs) : VChain 0 (rowsOf xs zs) := SChain.v (ls := rowsOf xs zs) (by
  unfold rowsOf
  rw [List.map_map]
  have : (Prod.fst ∘ fun w => (w, ct xs w)) = (id : Int → Int) := rfl
  rw [this, List.map_id]
  exact hsc)
theorem cnt_rows_ne {xs zs : List Int} (hx : ∀ x ∈ xs, 1 ≤ x) (h : Chain 1 (rowsOf xs zs)) : cnt xs.length xs.sum (rowsOf xs zs) ≠ 0 := by
  have hn := len_le_sum hx
  refine (cnt_right h (by omega)).mpr ⟨hn, fun z => ?_, ?_⟩
  · rw [List.length_eq_zero_iff.mp z]
    rfl
  · have := ok_rows hx zs 1 (by omega) h
    rw [qs_sum, ct_one_sum] at this
    exact this
theorem no_bad {xs zs : List Int} {d : Option (Int × Int)} (hx : ∀ x ∈ xs, 1 ≤ x) (h : Chain 1 (rowsOf xs zs)) (hd : FirstBad (fun i => cnt xs.length xs.sum ((rowsOf xs zs).take i) ≠ 0) (rowsOf xs zs).length d) : d = none := by
  rcases hd with ⟨e, _⟩ | ⟨i, _, _, hb, _⟩
  · exact e
  · exfalso
    have e : (rowsOf xs zs).take i = rowsOf xs (zs.take i) := by unfold rowsOf; rw [List.map_take]
    have h2 := h.take i
    have hb : ¬ (cnt xs.length xs.sum ((rowsOf xs zs).take i) ≠ 0) := hb
    rw [e] at hb h2
    exact hb (cnt_rows_ne hx h2)
theorem Wf_0 {b : Nat} (hb : 1 ≤ b) : ∀ p : Nat, Wf b p 0 = 1
  | 0 => rfl
  | p + 1 => by
    have h := Wf_step b p 0
    rw [Wf_neg b (t := 0 - 1) (by omega), Wf_neg b (t := 0 - (b : Int)) (by omega), Wf_0 hb p] at h
    omega
theorem Pf_0 : ∀ p : Nat, Pf p 0 = 1
  | 0 => rfl
  | p + 1 => by
    have h := Pf_step p 0
    rw [Pf_neg (t := 0 - 1) (by omega), Pf_0 p] at h
    omega
/-- the least sums -/
def sameOf (c : Nat) (zs : List Int) : List (Int × Int) := zs.map fun w => (w, (c : Int))
theorem gp_same (c : Nat) : ∀ (zs : List Int) (u : Int), 1 ≤ u → Chain u (sameOf c zs) → gp c 0 u (sameOf c zs) = 1
  | [], u, _, _ => Pf_0 c
  | w :: zs, u, hu, h => by
    obtain ⟨h1, h2, h3⟩ : u ≤ w ∧ u ∣ w ∧ Chain w (sameOf c zs) := h
    have hb : 1 ≤ w / u := chain_base (l := (w, (c : Int))) hu h1
    show (if (c : Int) - c < 0 then (0 : Int) else Wf (w / u).toNat c (0 - (w / u) * ((c : Int) - c)) * gp c ((c : Int) - c) w (sameOf c zs)) = 1
    rw [show (c : Int) - c = 0 by omega, if_neg (by omega), gp_same c zs w (by omega) h3, Int.mul_zero, Int.sub_zero, Wf_0 (by omega)]
    rfl
theorem cnt_same {c : Nat} {zs : List Int} (hsc : SChain 0 zs) : VChain 0 (sameOf c zs) ∧ cnt c c (sameOf c zs) = 1 := by
  have hv : VChain 0 (sameOf c zs) := SChain.v (ls := sameOf c zs) (by
    unfold sameOf
    rw [List.map_map]
    have : (Prod.fst ∘ fun w => (w, (c : Int))) = (id : Int → Int) := rfl
    rw [this, List.map_id]
    exact hsc)
  refine ⟨hv, ?_⟩
  unfold cnt
  by_cases hc : c = 0
  · subst hc
    rw [if_pos rfl, if_pos ⟨rfl, fun l hl => by
      obtain ⟨w, _, rfl⟩ := List.mem_map.mp hl
      rfl⟩]
  · rw [if_neg hc, if_neg (by omega), show (c : Int) - c = 0 by omega]
    exact gp_same c zs 1 (by omega) hv.chain
theorem cnt_const : cnt 3 11 [(2, 7), (4, 4)] = 9 := by
  have e : Pf 3 1 = 3 := by simp [Pf, PN]
  have e1 : cnt 3 11 [(2, 7), (4, 4)] = Wf 2 3 0 * (Wf 2 3 2 * Pf 3 1) := rfl
  have e2 : Wf 2 3 0 = 1 := by decide
  have e3 : Wf 2 3 2 = 3 := by decide
  rw [e1, e, e2, e3]
  rfl
theorem cnt_forty : cnt 40 40 [] = 1 := by
  have := (cnt_same (c := 40) (zs := []) trivial).2
  exact this
theorem big_lt {x : Int} (h0 : 0 ≤ x) (h : x ≤ ((2 ^ 5200 : Nat) : Int)) : x.natAbs < 10 ^ 4300 := by
  have h1 : (x.natAbs : Int) ≤ ((2 ^ 5200 : Nat) : Int) := by rw [Int.natAbs_of_nonneg h0]; exact h
  have h2 : x.natAbs ≤ 2 ^ 5200 := by exact_mod_cast h1
  have h3 : 2 ^ 5200 < 10 ^ 4300 := by decide +kernel
  exact Nat.lt_of_le_of_lt h2 h3
def spWays (K : PySem.W.Frag) : Sp := fun vs H Q _ => ∃ (c b : Nat), vs = [.int c, .int b] ∧ c ≤ 41 ∧ 1 ≤ b ∧ b ≤ 20 ∧ ∀ (p : Addr) (H' : Hp), Fr [] H H' → H p = none → H' p = some (.lst ((WL b c).map V.int)) → Q (.ref p) H'
def spAbove (K : PySem.W.Frag) : Sp := fun vs H Q _ => ∃ (c t : Nat), vs = [.int c, .int t] ∧ c ≤ 41 ∧ t ≤ 1000 ∧ ∀ (H' : Hp), Fr [] H H' → Q (.int (Pf c t)) H'
def spDue (K : PySem.W.Frag) : Sp := fun vs H Q _ => ∃ (p z : Addr) (xs zs : List Int), vs = [.ref p, .ref z] ∧ H p = some (.lst (xs.map V.int)) ∧ H z = some (.lst (zs.map V.int)) ∧ xs.length ≤ 41 ∧ zs.length ≤ 20 ∧ SChain 0 zs ∧ FC 1 zs ∧ (∀ x ∈ zs, 1 ≤ x ∧ x < 2 ^ 110) ∧ (∀ x ∈ xs, 1 ≤ x) ∧ xs.sum < 2 ^ 150 ∧ (qs xs (zs.getLast?.getD 1)).sum ≤ 1000 ∧
  ∀ (H' : Hp), Fr [] H H' → 0 ≤ cnt xs.length xs.sum (rowsOf xs zs) → cnt xs.length xs.sum (rowsOf xs zs) ≤ ((2 ^ 5200 : Nat) : Int) → Q (.int (cnt xs.length xs.sum (rowsOf xs zs))) H'
set_option maxHeartbeats 4000000 in
theorem ok_law_ways (T : Txt K mg c) : DefAt P w K mg base "_law_ways" s_law_ways 1 ["many", "base"] (spWays K) := by
  refine T.f_law_ways.ok sc_law_ways (fun vs H Q E h => ?_) (fun _ _ _ _ _ _ us hl => match us, hl with | [_, _], _ => rfl) (fun f cdv A outer s H vs Q E hr h => ?_)
  · obtain ⟨c, b, rfl, c1, b0, b1, q⟩ := h
    rfl
  · obtain ⟨c, b, rfl, c1, b0, b1, q⟩ := h
    refine ⟨_, (pss_cons (ps_set (i := 2) sc_law_ways.nd rfl (Or.inl rfl) (pe_lst (pa_cons pe_int pa_nil)))
    (pss_cons (ps_for PassesOwn.never rfl (pi_range1 (by rfl) T.n_range (pa_cons (pv 0) pa_nil)) (pg_name (i := 3) sc_law_ways.nd rfl (Or.inl rfl)) (pss_cons (ps_set (i := 4) sc_law_ways.nd rfl (Or.inl rfl) (pe_op op_rep (pe_lst (pa_cons pe_int pa_nil)) (pe_op op_sub (pe_op op_add (pe_callB call_lenN (by rfl) T.n_len (by decide +kernel) (pa_cons (pv 2) pa_nil)) (pv 1)) pe_int)))
    (pss_cons (ps_for PassesOwn.never rfl (pi_enum (by rfl) T.n_enumerate (pa_cons (pv 2) pa_nil)) (pg_tup rfl (pgs_cons (pg_name (i := 5) sc_law_ways.nd rfl (Or.inl rfl)) (pgs_cons (pg_name (i := 6) sc_law_ways.nd rfl (Or.inl rfl)) pgs_nil))) (pss_one (ps_for PassesOwn.never rfl (pi_range1 (by rfl) T.n_range (pa_cons (pv 1) pa_nil)) (pg_name (i := 7) sc_law_ways.nd rfl (Or.inl rfl)) (pss_one (ps_asg (pe_op op_add (pe_ix ix_list (pv 4) (pe_op op_add (pv 5) (pv 7)) (fun _ _ => rfl)) (pv 6)) (pg_sub (pv 4) (pe_op op_add (pv 5) (pv 7)) set_list))))))
    (pss_one (ps_set (i := 2) sc_law_ways.nd rfl (Or.inl rfl) (pv 4))))))
    (pss_one (ps_ret (pv 2))))), ?_⟩
    refine w_start (σ' := [some (.int c), some (.int b), none, none, none, none, none, none]) rfl ?_
    walk_at "g"
    rename_i p0 np0
    refine f_range (fun j σ' H' => ∃ (o3 o4 o5 o6 o7 : Option V) (p : Addr), σ' = [some (.int c), some (.int b), some (.ref p), o3, o4, o5, o6, o7] ∧ Fr [] H H' ∧ H p = none ∧ H' p = some (.lst ((WL b j).map V.int))) ⟨none, none, none, none, none, p0, rfl, Fr.refl.new np0, np0, by rw [WL_0]; exact upd_same⟩ ?_ ?_
    · rintro j σ' H1 hj ⟨o3, o4, o5, o6, o7, p, rfl, f1, np, h1⟩
      have jb : j * (b - 1) ≤ 41 * 19 := Nat.mul_le_mul (by omega) (by omega)
      obtain ⟨N, hN⟩ : ∃ N, N = j * (b - 1) := ⟨_, rfl⟩
      have hlen : (WL b j).length = N + 1 := by rw [hN]; exact WL_len b j
      rw [← hN] at jb
      walk_at "g"
      rename_i z nz L nL
      have hpL : p ≠ L := ne_of_none (at_upd h1 nz) nL
      have hL0 : H L = none := (f1.new nz).free List.not_mem_nil nL
      have f2 : Fr [] H (upd (upd H1 z (.lst [.int 0])) L (.lst ((List.replicate ((((WL b j).length : Int) + b - 1).toNat) (0 : Int)).map V.int))) := (f1.new nz).new nL
      refine f_enum ((WL b j).map V.int) (fun s σ' H' => ∃ (o5 o6 o7 : Option V) (ms : List Int), σ' = [some (.int c), some (.int b), some (.ref p), some (.int (0 + j)), some (.ref L), o5, o6, o7] ∧ Fr [] H H' ∧ H' p = some (.lst ((WL b j).map V.int)) ∧ H' L = some (.lst (ms.map V.int)) ∧ ms.length = N + b ∧ ∀ t, t < N + b → ms[t]? = some (LS b j s 0 t)) ⟨o5, o6, o7, _, rfl, f2, at_upd (at_upd h1 nz) nL, upd_same, by rw [List.length_replicate]; omega, fun t ht => by rw [List.getElem?_replicate, if_pos (by omega), LS_zero]⟩ ?_ ?_ ?_
      · rintro s σ' H2 _ ⟨o5, o6, o7, ms, rfl, g1, g2, _⟩
        exact SqL.of g2
      · rintro s x T σ' H2 hx ⟨o5, o6, o7, ms, rfl, g1, g2, g3, g4, g5⟩ hT
        obtain ⟨y, hy, rfl⟩ := map_at hx
        have hs := (List.getElem?_eq_some_iff.mp hy).1
        have hyv : y = Wf b j s := by
          rw [WL_at (by omega)] at hy
          exact (Option.some.inj hy).symm
        subst hyv
        walk_at "g"
        refine f_range (fun d σ' H' => ∃ (o7 : Option V) (ms : List Int), σ' = [some (.int c), some (.int b), some (.ref p), some (.int (0 + j)), some (.ref L), some (.int s), some (.int (Wf b j s)), o7] ∧ Fr [] H H' ∧ H' p = some (.lst ((WL b j).map V.int)) ∧ H' L = some (.lst (ms.map V.int)) ∧ ms.length = N + b ∧ ∀ t, t < N + b → ms[t]? = some (LS b j s d t)) ⟨o7, ms, rfl, g1.new hT, at_upd g2 hT, at_upd g3 hT, g4, g5⟩ ?_ ?_
        · rintro d σ' H3 hd ⟨o7, ms, rfl, k1, k2, k3, k4, k5⟩
          walk_at "g"
          rename_i n hn
          have et : ((s : Int) + (0 + (d : Int))).toNat = s + d := by omega
          rw [et] at hn ⊢
          have en : n = LS b j s d (s + d) := by
            rw [k5 (s + d) (by omega)] at hn
            exact (Option.some.inj hn).symm
          subst en
          refine ⟨_, ms.set (s + d) (LS b j s d (s + d) + Wf b j s), rfl, k1.put (.inl hL0), by rw [upd_ne hpL]; exact k2, upd_same, by rw [List.length_set]; exact k4, fun t ht => ?_⟩
          by_cases h : t = s + d
          · rw [h, List.getElem?_set_self (by omega), LS_same]
          · rw [List.getElem?_set_ne (Ne.symm h), k5 t ht, LS_other h]
        · rintro σ' H3 ⟨o7, ms, rfl, k1, k2, k3, k4, k5⟩
          exact ⟨_, _, _, ms, rfl, k1, k2, k3, k4, fun t ht => by rw [k5 t ht, ← LS_next]; rfl⟩
      · rintro σ' H2 ⟨o5, o6, o7, ms, rfl, g1, g2, g3, g4, g5⟩
        rw [List.length_map, hlen] at g5
        walk_at "g"
        refine ⟨_, _, _, _, _, L, rfl, g1, hL0, ?_⟩
        rw [g3]
        congr 3
        refine List.ext_getElem? fun t => ?_
        by_cases ht : t < N + b
        · rw [g5 t ht, WL_at (by rw [Nat.succ_mul]; omega), hN, LS_all b0]
        · rw [List.getElem?_eq_none (by omega), List.getElem?_eq_none (by rw [WL_len, Nat.succ_mul]; omega)]
    · rintro σ' H1 ⟨o3, o4, o5, o6, o7, p, rfl, f1, np, h1⟩
      walk_at "g"
      exact q p H1 f1 np h1
set_option maxHeartbeats 4000000 in
theorem ok_law_above (T : Txt K mg c) : DefAt P w K mg base "_law_above" s_law_above 1 ["many", "total"] (spAbove K) := by
  refine T.f_law_above.ok sc_law_above (fun vs H Q E h => ?_) (fun _ _ _ _ _ _ us hl => match us, hl with | [_, _], _ => rfl) (fun f cdv A outer s H vs Q E hr h => ?_)
  · obtain ⟨c, t, rfl, c1, t1, q⟩ := h
    rfl
  · obtain ⟨c, t, rfl, c1, t1, q⟩ := h
    refine ⟨_, (pss_cons (ps_set (i := 2) sc_law_above.nd rfl (Or.inl rfl) (pe_op op_cat (pe_lst (pa_cons pe_int pa_nil)) (pe_op op_rep (pe_lst (pa_cons pe_int pa_nil)) (pv 1))))
    (pss_cons (ps_for PassesOwn.never rfl (pi_range1 (by rfl) T.n_range (pa_cons (pv 0) pa_nil)) (pg_name (i := 3) sc_law_above.nd rfl (Or.inl rfl)) (pss_one (ps_for PassesOwn.never rfl (pi_range2 (by rfl) T.n_range (pa_cons pe_int (pa_cons (pe_op op_add (pv 1) pe_int) pa_nil))) (pg_name (i := 4) sc_law_above.nd rfl (Or.inl rfl)) (pss_one (ps_asg (pe_op op_add (pe_ix ix_list (pv 2) (pv 4) (fun _ _ => rfl)) (pe_ix ix_list (pv 2) (pe_op op_sub (pv 4) pe_int) (fun _ _ => rfl))) (pg_sub (pv 2) (pv 4) set_list))))))
    (pss_one (ps_ret (pe_ix ix_list (pv 2) (pv 1) (fun _ _ => rfl)))))), ?_⟩
    refine w_start (σ' := [some (.int c), some (.int t), none, none, none]) rfl ?_
    walk_at "g"
    rename_i p1 np1 p2 np2 p3 np3
    refine w_catLI (at_upd (at_upd upd_same np2) np3) upd_same rfl (by simp only [unV, List.length_cons, List.length_nil, List.length_replicate]; omega) (fun L nL => ?_)
    walk_at "g"
    have hL0 : H L = none := ((((Fr.refl (S := [])).new np1).new np2).new np3).free List.not_mem_nil nL
    have f2 := ((((Fr.refl (S := []) (H := H)).new np1).new np2).new np3).new (o := .lst ((unV [V.int 1] ++ List.replicate (t : Int).toNat 0).map V.int)) nL
    refine f_range (fun j σ' H' => ∃ (o3 o4 : Option V) (ms : List Int), σ' = [some (.int c), some (.int t), some (.ref L), o3, o4] ∧ Fr [] H H' ∧ H' L = some (.lst (ms.map V.int)) ∧ ms.length = t + 1 ∧ ∀ s, s < t + 1 → ms[s]? = some (Pf j s)) ⟨none, none, _, rfl, f2, upd_same, by simp [unV], fun s hs => ?_⟩ ?_ ?_
    · cases s with
      | zero => rfl
      | succ s =>
        show ([(1 : Int)] ++ List.replicate (t : Int).toNat 0)[s + 1]? = some (if ((s + 1 : Nat) : Int) = 0 then 1 else 0)
        rw [List.getElem?_append_right (by simp), List.getElem?_replicate, if_pos (by simp; omega), if_neg (by omega)]
    · rintro j σ' H1 hj ⟨o3, o4, ms, rfl, f1, h1, lms, hms⟩
      walk_at "g"
      refine f_range (fun s σ' H' => ∃ (o4 : Option V) (ms : List Int), σ' = [some (.int c), some (.int t), some (.ref L), some (.int (0 + j)), o4] ∧ Fr [] H H' ∧ H' L = some (.lst (ms.map V.int)) ∧ ms.length = t + 1 ∧ (∀ r, r ≤ s → ms[r]? = some (Pf (j + 1) r)) ∧ ∀ r, s < r → r < t + 1 → ms[r]? = some (Pf j r)) ⟨o4, ms, rfl, f1, h1, lms, fun r hr => ?_, fun r h0 hr => hms r hr⟩ ?_ ?_
      · have hr0 : r = 0 := by omega
        subst hr0
        rw [hms 0 (by omega)]
        have e := Pf_step j 0
        rw [Pf_neg (p := j + 1) (t := 0 - 1) (by omega)] at e
        rw [show ((0 : Nat) : Int) = 0 from rfl, e, Int.zero_add]
      · rintro s σ' H2 hs ⟨o4, ms, rfl, k1, k2, k3, k4, k5⟩
        walk_at "g"
        rename_i n1 hn1 n2 hn2
        have e1 : (1 + (s : Int)).toNat = s + 1 := by omega
        have e2 : (1 + (s : Int) - 1).toNat = s := by omega
        rw [e1] at hn1 ⊢
        rw [e2] at hn2
        rw [k5 (s + 1) (by omega) (by omega)] at hn1
        rw [k4 s (by omega)] at hn2
        have h1 := Option.some.inj hn1
        have h2 := Option.some.inj hn2
        have st := Pf_step j ((s + 1 : Nat) : Int)
        rw [show ((s + 1 : Nat) : Int) - 1 = s by omega] at st
        have e3 : n1 + n2 = Pf (j + 1) ((s + 1 : Nat) : Int) := by omega
        rw [e3]
        refine ⟨_, _, rfl, k1.put (.inl hL0), upd_same, by rw [List.length_set]; exact k3, fun r hr => ?_, fun r hr hr2 => ?_⟩
        · by_cases h : r = s + 1
          · rw [h, List.getElem?_set_self (by omega)]
          · rw [List.getElem?_set_ne (Ne.symm h), k4 r (by omega)]
        · rw [List.getElem?_set_ne (by omega), k5 r (by omega) hr2]
      · rintro σ' H2 ⟨o4, ms, rfl, k1, k2, k3, k4, k5⟩
        exact ⟨_, _, ms, rfl, k1, k2, k3, fun r hr => k4 r (by omega)⟩
    · rintro σ' H1 ⟨o3, o4, ms, rfl, f1, h1, lms, hms⟩
      walk_at "g"
      rename_i n hn
      rw [show (t : Int).toNat = t by omega, hms t (by omega)] at hn
      have e := Option.some.inj hn
      rw [← e]
      exact q _ f1
set_option maxHeartbeats 4000000 in
theorem ok_law_due (T : Txt K mg c) : DefAt P w K mg base "_law_due" s_law_due 2 ["some", "sizes_here"] (spDue K) := by
  have D_law_ways := ok_law_ways (P := P) (w := w) (base := base) T
  have D_law_above := ok_law_above (P := P) (w := w) (base := base) T
  refine T.f_law_due.ok sc_law_due (fun vs H Q E h => ?_) (fun _ _ _ _ _ _ us hl => match us, hl with | [_, _], _ => rfl) (fun f cdv A outer s H vs Q E hr h => ?_)
  · obtain ⟨p, z, xs, zs, rfl, hp, hz, lx, lz, hsc, hfc, hzb, hx1, hsum, hlast, q⟩ := h
    rfl
  · obtain ⟨p, z, xs, zs, rfl, hp, hz, lx, lz, hsc, hfc, hzb, hx1, hsum, hlast, q⟩ := h
    refine ⟨_, (pss_cons (ps_asg (pe_tup (pa_cons (pe_lc (own := [("one", 9)]) (tt := tYes) rfl sc_law_due.nd (pi_list (pv 0)) (blkOk_by (N := sc_law_due_N) (sc := defScope s_law_due) (by decide +kernel)) (fun _ _ _ _ _ => (pg_name (i := 9) sc_law_due.nd rfl (Or.inl rfl))) (fun _ _ _ _ _ => pts_nil) (fun _ _ _ _ _ => (pe_op op_sub (pv 9) pe_int))) (pa_cons pe_int (pa_cons pe_int (pa_cons pe_dnewK pa_nil))))) (pg_tup rfl (pgs_cons (pg_name (i := 2) sc_law_due.nd rfl (Or.inl rfl)) (pgs_cons (pg_name (i := 3) sc_law_due.nd rfl (Or.inl rfl)) (pgs_cons (pg_name (i := 4) sc_law_due.nd rfl (Or.inl rfl)) (pgs_cons (pg_name (i := 5) sc_law_due.nd rfl (Or.inl rfl)) pgs_nil))))))
    (pss_cons (ps_for PassesOwn.never rfl (pi_list (pv 1)) (pg_name (i := 6) sc_law_due.nd rfl (Or.inl rfl)) (pss_cons (ps_set (i := 7) sc_law_due.nd rfl (Or.inr rfl) (pe_op op_fdivW (pv 6) (pv 3)))
    (pss_cons (ps_if (pt_cmp (pc_dnotin (hu_of hr) (pv 7) (pv 5)) (by rfl)) (pss_one (ps_dput (hu_of hr) (pv 5) (pv 7) (pe_callD D_law_ways (hr.mono (by decide)) (pa_cons (pe_callB call_lenN (by rfl) T.n_len (by decide +kernel) (pa_cons (pv 0) pa_nil)) (pa_cons (pv 7) pa_nil))) rfl)) pss_nil)
    (pss_cons (ps_set (i := 8) sc_law_due.nd rfl (Or.inl rfl) (pe_dget (hu_of hr) (pv 5) (pv 7) (fun _ _ => rfl)))
    (pss_cons (ps_set (i := 4) sc_law_due.nd rfl (Or.inl rfl) (pe_op op_mulW (pv 4) (pe_ix ix_list (pv 8) (pe_callB (cr_sum rfl) (by rfl) T.n_sum (by decide +kernel) (pa_cons (pe_lc (own := [("number", 10)]) (tt := tYes) rfl sc_law_due.nd (pi_list (pv 2)) (blkOk_by (N := sc_law_due_N) (sc := defScope s_law_due) (by decide +kernel)) (fun _ _ _ _ _ => (pg_name (i := 10) sc_law_due.nd rfl (Or.inl rfl))) (fun _ _ _ _ _ => pts_nil) (fun _ _ _ _ _ => (pe_op op_mod (pv 10) (pv 7)))) pa_nil)) (fun _ _ => rfl))))
    (pss_one (ps_par (i := 2) (j := 3) rfl sc_law_due.nd rfl rfl (by decide) rfl rfl (pa_cons (pe_lc (own := [("number", 10)]) (tt := tYes) rfl sc_law_due.nd (pi_list (pv 2)) (blkOk_by (N := sc_law_due_N) (sc := defScope s_law_due) (by decide +kernel)) (fun _ _ _ _ _ => (pg_name (i := 10) sc_law_due.nd rfl (Or.inl rfl))) (fun _ _ _ _ _ => pts_nil) (fun _ _ _ _ _ => (pe_op op_fdivW (pv 10) (pv 7)))) (pa_cons (pv 6) pa_nil)) (by rfl))))))))
    (pss_one (ps_ret (pe_op op_mulW (pv 4) (pe_callD D_law_above (hr.mono (by decide)) (pa_cons (pe_callB call_lenN (by rfl) T.n_len (by decide +kernel) (pa_cons (pv 0) pa_nil)) (pa_cons (pe_callB (cr_sum rfl) (by rfl) T.n_sum (by decide +kernel) (pa_cons (pv 2) pa_nil)) pa_nil)))))))), ?_⟩
    refine w_start (σ' := [some (.ref p), some (.ref z), none, none, none, none, none, none, none, none, none]) rfl ?_
    walk_at "g"
    refine l_map xs (fun x => x - 1) (SqL.of hp) (fun _ => rfl) (by omega) (fun i l H2 hi f2 Q2 k2 => ?_) (fun L H2 hL f2 h2 => ?_)
    · walk_at "g"
      exact k2 _ Fr.refl
    · have hcnt := cnt_rows hx1 zs
      rw [hcnt] at q
      have hch : Chain 1 (rowsOf xs zs) := (SChain.v (ls := rowsOf xs zs) (by
        unfold rowsOf
        rw [List.map_map]
        have : (Prod.fst ∘ fun w => (w, ct xs w)) = (id : Int → Int) := rfl
        rw [this, List.map_id]
        exact hsc)).chain
      walk_at "g"
      rename_i D nD tp ntp
      have hLD : L ≠ D := ne_of_none h2 nD
      have hD0 : H D = none := f2.free List.not_mem_nil nD
      have hL1 := at_upd (u := .tup [.ref L, .int 1, .int 1, .ref D]) (at_upd (u := .dK []) h2 nD) ntp
      have hD1 : upd (upd H2 D (.dK [])) tp (.tup [.ref L, .int 1, .int 1, .ref D]) D = some (.dK []) := at_upd upd_same ntp
      have f3 : Fr [] H (upd (upd H2 D (.dK [])) tp (.tup [.ref L, .int 1, .int 1, .ref D])) := (f2.new nD).new ntp
      generalize upd (upd H2 D (.dK [])) tp (.tup [.ref L, .int 1, .int 1, .ref D]) = H3 at hL1 hD1 f3 ⊢
      refine f_list (zs.map V.int) (fun i σ' H' => ∃ (o6 o7 o8 : Option V) (Lf : Addr) (u found : Int) (kvs : List (Key × V)), σ' = [some (.ref p), some (.ref z), some (.ref Lf), some (.int u), some (.int found), some (.ref D), o6, o7, o8, none, none] ∧ Fr [] H H' ∧ H' Lf = some (.lst ((qs xs u).map V.int)) ∧ H' D = some (.dK kvs) ∧ kvs.length ≤ i ∧ (∀ b v, valV kvs (.inl b) = some v → ∃ (r : Addr) (bn : Nat), v = .ref r ∧ b = bn ∧ H' r = some (.lst ((WL bn xs.length).map V.int))) ∧ found * gp xs.length (qs xs u).sum u (rowsOf xs (zs.drop i)) = gp xs.length (xs.sum - xs.length) 1 (rowsOf xs zs) ∧ 0 ≤ found ∧ found ≤ ((2 ^ (200 * i) : Nat) : Int) ∧ 1 ≤ u ∧ u < 2 ^ 110 ∧ Chain u (rowsOf xs (zs.drop i)) ∧ u = (zs.take i).getLast?.getD 1) ⟨none, none, none, L, 1, 1, [], rfl, f3, by rw [qs_one]; exact hL1, hD1, by simp, fun b v h => (nomatch h), by rw [List.drop_zero, Int.one_mul, qs_sum, ct_one_sum], by omega, by simp, by omega, by omega, by rw [List.drop_zero]; exact hch, rfl⟩ ?_ ?_ ?_
      · rintro i σ' H' hi ⟨o6, o7, o8, Lf, u, found, kvs, rfl, f4, _⟩
        exact SqL.of (f4.at0 hz)
      · rintro i x σ' H4 hx ⟨o6, o7, o8, Lf, u, found, kvs, rfl, f4, g1, g2, g3, g4, g5, g6, g7, g8, g9, g10, g11⟩
        obtain ⟨wd, hw, rfl⟩ := map_at hx
        have hil := (List.getElem?_eq_some_iff.mp hw).1
        have dr : zs.drop i = wd :: zs.drop (i + 1) := List.drop_eq_getElem?_toList_append.trans (by rw [hw]; rfl)
        have hwb := hzb wd (List.mem_of_getElem? hw)
        have hf := hfc.drop hw
        rw [← g11] at hf
        rw [dr] at g5 g10
        obtain ⟨c1, ⟨b, hb⟩, c3⟩ : u ≤ wd ∧ u ∣ wd ∧ Chain wd (rowsOf xs (zs.drop (i + 1))) := g10
        have hub : 1 ≤ b := by
          apply Int.not_lt.mp
          intro hb0
          have : u * b ≤ u * 0 := Int.mul_le_mul_of_nonneg_left (by omega) (by omega)
          rw [Int.mul_zero] at this
          omega
        have hb20 : b ≤ 20 := by
          apply Int.not_lt.mp
          intro hb0
          have : u * 21 ≤ u * b := Int.mul_le_mul_of_nonneg_left (by omega) (by omega)
          omega
        rw [gp_row hx1 g8 hub hb] at g5
        have hb' := hub
        obtain ⟨bn, rfl⟩ : ∃ bn : Nat, b = bn := ⟨b.toNat, by omega⟩
        have ed : wd / u = bn := by rw [hb, Int.mul_ediv_cancel_left _ (by omega)]
        iterate 9 walk_at "1"
        rw [ed]
        refine w_ifJ (fun σ' H' => ∃ (kvs : List (Key × V)) (r : Addr), σ' = [some (.ref p), some (.ref z), some (.ref Lf), some (.int u), some (.int found), some (.ref D), some (.int wd), some (.int bn), o8, none, none] ∧ Fr [] H H' ∧ H' Lf = some (.lst ((qs xs u).map V.int)) ∧ H' D = some (.dK kvs) ∧ kvs.length ≤ i + 1 ∧ (∀ b v, valV kvs (.inl b) = some v → ∃ (r : Addr) (bn : Nat), v = .ref r ∧ b = bn ∧ H' r = some (.lst ((WL bn xs.length).map V.int))) ∧ valV kvs (.inl bn) = some (.ref r) ∧ H' r = some (.lst ((WL bn xs.length).map V.int))) (fun nxt rest => ?_) ?_
        · walk_at "g"
          refine w_iteB3 (fun hn => ?_) (fun hn => ?_)
          · walk_at "g"
            refine ⟨xs.length, bn, rfl, by omega, by omega, by omega, fun r H5 f5 nr h5 => ?_⟩
            have k1 := f5.at0 g2
            have k0 := f5.at0 g1
            have hrD : D ≠ r := ne_of_none g2 nr
            walk_at "g"
            refine w_dputI k1 (by omega) ?_
            refine rest _ _ ⟨_, r, rfl, (f4.trans f5).put (.inl hD0), ?_, upd_same, ?_, ?_, ?_, ?_⟩
            · rw [upd_ne (ne_of k0 k1 ho_lst_dK)]
              exact k0
            · have := length_putK kvs (.inl (bn : Int)) (.ref r)
              omega
            · intro b v hv
              rw [valV_put] at hv
              split at hv
              · rename_i e
                have e1 : b = bn := by simpa using e
                have e2 := Option.some.inj hv
                exact ⟨r, bn, e2.symm, e1, by rw [upd_ne hrD.symm]; exact h5⟩
              · obtain ⟨r', bn', e1, e2, e3⟩ := g4 b v hv
                have e4 := f5.at0 e3
                exact ⟨r', bn', e1, e2, by rw [upd_ne (ne_of e4 k1 ho_lst_dK)]; exact e4⟩
            · rw [valV_put, if_pos rfl]
            · rw [upd_ne hrD.symm]
              exact h5
          · obtain ⟨v, hv⟩ := Option.isSome_iff_exists.mp (show (valV kvs (.inl (bn : Int))).isSome = true by simpa using hn)
            obtain ⟨r, bn', rfl, e, h⟩ := g4 _ _ hv
            have e : bn = bn' := by omega
            subst e
            walk_at "g"
            exact rest _ _ ⟨kvs, r, rfl, f4, g1, g2, by omega, g4, hv, h⟩
        · rintro σ' H5 ⟨kvs', r, rfl, f5, k1, k2, k3, k4, k5, k6⟩
          walk_at "g"
          refine w_dgetI k2 k5 ?_
          have hms := mod_sum hb' (qs xs u)
          rw [qs_len] at hms
          have hwl : (((WL bn xs.length).length : Nat) : Int) = xs.length * ((bn : Int) - 1) + 1 := by
            rw [WL_len, Int.natCast_add, Int.natCast_mul, Int.natCast_sub (by omega)]
            rfl
          have hqb := qs_mem hx1 hsum g8
          obtain ⟨S, hS⟩ : ∃ S, S = ((qs xs u).map fun y => y % (bn : Int)).sum := ⟨_, rfl⟩
          rw [← hS] at hms g5
          clear g1 g2 g3 g4
          walk_at "g"
          refine l_map (qs xs u) (fun y => y % bn) (SqL.of k1) (fun _ => rfl) (by rw [qs_len]; omega) (fun i' l H6 hi' f6 Q6 k6' => ?_) (fun L6 H6 hL6 f6 h6 => ?_)
          · walk_at "g"
            exact k6' _ Fr.refl
          · have hr6 := f6.at0 k6
            have hq6 := f6.at0 k1
            have hD6 := f6.at0 k2
            have h06 := f5.trans f6
            have lq : ((qs xs u).map fun y => y % (bn : Int)).length ≤ 41 := by rw [List.length_map, qs_len]; omega
            walk_at "g"
            rename_i n hn
            rw [← hS] at hn
            have en : n = Wf bn xs.length S := by
              rw [WL_at (by rw [← WL_len]; omega)] at hn
              have e := Option.some.inj hn
              rw [Int.toNat_of_nonneg hms.1] at e
              exact e.symm
            subst en
            have wl := Wf_200 (b := bn) (p := xs.length) S (by omega) lx
            have wn := Wf_nonneg bn xs.length S
            refine w_I (small_mul g6 g7 wn (Int.le_trans wl up_200) (by omega)) ?_
            walk_at "g"
            refine l_map (qs xs u) (fun y => y / bn) (SqL.of hq6) (fun _ => rfl) (by rw [qs_len]; omega) (fun i' l H7 hi' f7 Q7 k7' => ?_) (fun L7 H7 hL7 f7 h7 => ?_)
            · have := hqb l (List.mem_of_getElem? hi')
              walk_at "g"
              exact k7' _ Fr.refl
            · have hD7 := f7.at0 hD6
              walk_at "g"
              refine ⟨_, _, _, L7, wd, found * Wf bn xs.length S, kvs', rfl, h06.trans f7, ?_, hD7, k3, fun b v hv => ?_, ?_, Int.mul_nonneg g6 wn, small_step g6 g7 wn wl, by omega, by omega, c3, ?_⟩
              · rw [h7, qs_step xs (by omega), ← hb]
              · obtain ⟨r', bn', e1, e2, e3⟩ := k4 b v hv
                exact ⟨r', bn', e1, e2, (f6.trans f7).at0 e3⟩
              · rw [Int.mul_assoc]
                rw [show ((bn : Int)).toNat = bn by omega] at g5
                exact g5
              · rw [List.take_succ, hw]
                simp
      · rintro σ' H4 ⟨o6, o7, o8, Lf, u, found, kvs, rfl, f4, g1, g2, g3, g4, g5, g6, g7, g8, g9, g10, g11⟩
        rw [List.length_map, List.drop_length] at g5
        rw [List.length_map] at g7
        rw [List.length_map, List.take_length] at g11
        rw [← g11] at hlast
        have g5 : found * Pf xs.length (qs xs u).sum = gp xs.length (xs.sum - xs.length) 1 (rowsOf xs zs) := g5
        have S0 := qs_nonneg hx1 g8
        obtain ⟨t, ht⟩ : ∃ t : Nat, (qs xs u).sum = t := ⟨(qs xs u).sum.toNat, by omega⟩
        rw [ht] at g5 hlast
        have lq : (qs xs u).length ≤ 41 := by rw [qs_len]; omega
        walk_at "g"
        rw [ht]
        refine ⟨xs.length, t, rfl, by omega, by omega, fun H5 f5 => ?_⟩
        have pl := Pf_1100 (p := xs.length) (t := t) (by omega) (by omega)
        have pn := Pf_nonneg xs.length t
        refine w_I (small_mul g6 g7 pn pl (by omega)) ?_
        rw [g5]
        refine q _ (f4.trans f5) ?_ ?_
        · rw [← g5]
          exact Int.mul_nonneg g6 pn
        · rw [← g5]
          have h1 : found * Pf xs.length t ≤ ((2 ^ (200 * zs.length) : Nat) : Int) * ((2 ^ 1100 : Nat) : Int) := Int.mul_le_mul g7 pl pn (Int.natCast_nonneg _)
          have h2 : 2 ^ (200 * zs.length) * 2 ^ 1100 ≤ 2 ^ 5200 := by
            rw [← Nat.pow_add]
            exact Nat.pow_le_pow_right (by decide) (by omega)
          rw [← Int.natCast_mul] at h1
          exact Int.le_trans h1 (by exact_mod_cast h2)
def spSizesF : Sp := fun vs H Q _ => ∃ (a : Addr) (k m t : Int), vs = [.ref a, .int m, .int t] ∧ Rng H a k ∧ 0 ≤ m ∧ m ≤ 20 ∧ 2 ≤ t ∧ t ≤ 19 ∧ k < 2 ^ 38 ∧
  ∀ (p : Addr) (xs : List Int) (k' : Int) (H' : Hp), xs.length ≤ m.toNat → SChain 0 xs → FC 1 xs → (∀ x ∈ xs, 1 ≤ x ∧ x < 2 ^ 110) → k' ≤ k + 40 → Rng H' a k' → Fr [a] H H' → H p = none → H' p = some (.lst (xs.map V.int)) → Q (.ref p) H'
set_option maxHeartbeats 4000000 in
theorem ok_law_sizes (T : Txt K mg c) : DefAt P w K mg base "_law_sizes" s_law_sizes 2 ["rng", "many", "most"] spSizesF := by
  have D_law_draw := ok_law_draw (P := P) (w := w) (base := base) T
  refine T.f_law_sizes.ok sc_law_sizes (fun vs H Q E h => ?_) (fun _ _ _ _ _ _ us hl => match us, hl with | [_, _, _], _ => rfl) (fun f cdv A outer s H vs Q E hr h => ?_)
  · obtain ⟨a, k, m, t, rfl, hp, m0, m1, t0, t1, k1, q⟩ := h
    rfl
  · obtain ⟨a, k, m, t, rfl, hp, m0, m1, t0, t1, k1, q⟩ := h
    refine ⟨_, (pss_cons (ps_par (i := 3) (j := 4) rfl sc_law_sizes.nd rfl rfl (by decide) rfl rfl (pa_cons (pe_lst pa_nil) (pa_cons (pe_op op_add pe_int (pe_op op_mulW (pe_callD D_law_draw (hr.mono (by decide)) (pa_cons (pv 0) (pa_cons (pv 2) pa_nil))) (pe_callD D_law_draw (hr.mono (by decide)) (pa_cons (pv 0) (pa_cons pe_int pa_nil))))) pa_nil)) (by rfl))
    (pss_cons (ps_for PassesOwn.never rfl (pi_range1 (by rfl) T.n_range (pa_cons (pe_callD D_law_draw (hr.mono (by decide)) (pa_cons (pv 0) (pa_cons (pe_op op_add (pv 1) pe_int) pa_nil))) pa_nil)) (pg_name (i := 5) sc_law_sizes.nd rfl (Or.inl rfl)) (pss_cons (ps_expr (pe_bm PySem.F.plainAttrs_list PySem.F.slot_list_append PySem.F.type_list_append mt_append (pv 3) (pa_cons (pv 4) pa_nil)))
    (pss_one (ps_set (i := 4) sc_law_sizes.nd rfl (Or.inl rfl) (pe_op op_mulW (pv 4) (pe_op op_add pe_int (pe_callD D_law_draw (hr.mono (by decide)) (pa_cons (pv 0) (pa_cons (pe_op op_sub (pv 2) pe_int) pa_nil)))))))))
    (pss_one (ps_ret (pv 3))))), ?_⟩
    refine w_start (σ' := [some (.ref a), some (.int m), some (.int t), none, none, none]) rfl ?_
    walk_at "g"
    rename_i p np r1 k2 H2 r10 r11 hk2 hp2 f2 r2 k3 H3 r20 r21 hk3 hp3 f3 r3 k4 H4 r30 r31 hk4 hp4 f4
    have f04 : Fr [a] H H4 := by walk_at "F"
    have hpa : p ≠ a := hp.ne np
    have h4 : H4 p = some (.lst []) := f4.at (nn2 hpa) (f3.at (nn2 hpa) (f2.at (nn2 hpa) upd_same))
    have hw0 : 1 ≤ 1 + r1 * r2 ∧ 1 + r1 * r2 ≤ 20 := by
      rcases (show r2 = 0 ∨ r2 = 1 by omega) with rfl | rfl <;> omega
    obtain ⟨w0, hw⟩ : ∃ w0, w0 = 1 + r1 * r2 := ⟨_, rfl⟩
    rw [← hw]
    rw [← hw] at hw0
    clear f2 f3 f4 hp2 hp3
    refine f_range (fun i σ' H' => ∃ (o : Option V) (w' k5 : Int) (xs : List Int), σ' = [some (.ref a), some (.int m), some (.int t), some (.ref p), some (.int w'), o] ∧ Rng H' a k5 ∧ k5 ≤ k4 + i ∧ Fr [a, p] H4 H' ∧ H' p = some (.lst (xs.map V.int)) ∧ xs.length = i ∧ SChain 0 (xs ++ [w']) ∧ 1 ≤ w' ∧ w' ≤ ((30 ^ (i + 1) : Nat) : Int) ∧ FC 1 (xs ++ [w']) ∧ ∀ x ∈ xs, 1 ≤ x ∧ x < 2 ^ 110) ⟨none, w0, k4, [], rfl, hp4, by omega, Fr.refl, h4, rfl, ⟨by omega, fun z => absurd z (by omega), trivial⟩, hw0.1, by have := hw0.2; simp; omega, ⟨by omega, trivial⟩, by simp⟩ ?_ ?_
    · rintro i σ' H5 hi ⟨o, w', k5, xs, rfl, hp5, hk5, f5, h5, lxs, hch, w1, w2, hfc, hx⟩
      have hi2 : i ≤ 20 := by omega
      have hwb := pow30 w2 hi2
      walk_at "g"
      rename_i r6 k6 H6 r60 r61 hk6 hp6 f6
      have h6 : H6 p = some (.lst ((xs ++ [w']).map V.int)) := f6.at (nn2 hpa) upd_same
      have f06 : Fr [a, p] H4 H6 := (f5.put (.inr (by simp))).trans (f6.mono (by simp))
      have e2 : w' * 2 ≤ w' * (2 + r6) := Int.mul_le_mul_of_nonneg_left (by omega) (by omega)
      have e3 : w' * (2 + r6) ≤ w' * 20 := Int.mul_le_mul_of_nonneg_left (by omega) (by omega)
      refine ⟨_, w' * (2 + r6), k6, xs ++ [w'], rfl, hp6, by omega, f06, h6, len_snoc lxs, hch.snoc (by omega) (by omega) (Int.mul_emod_right _ _), by omega, pow30_step w1 w2 (by omega) (by omega), hfc.snoc (by omega), mem_snoc hx ⟨w1, hwb⟩⟩
    · rintro σ' H5 ⟨o, w', k5, xs, rfl, hp5, hk5, f5, h5, lxs, hch, w1, w2, hfc, hx⟩
      walk_at "g"
      have f05 : Fr [a] H H5 := fun b o' z e => f5 b o' (by
        have hbp : b ≠ p := by
          rintro rfl
          rw [np] at e
          cases e
        simp at z
        simp [z, hbp]) (f04 b o' z e)
      exact q p xs k5 H5 (by omega) hch.init hfc.init hx (by omega) hp5 f05 np h5
set_option maxHeartbeats 4000000 in
theorem ok_law (T : Txt K mg c) : DefAt P w K mg base "law" s_law 5 ["script"] (spLaw K) := by
  have D_law_rng := ok_law_rng (P := P) (w := w) (base := base) T
  have D_law_draw := ok_law_draw (P := P) (w := w) (base := base) T
  have D_law_sizes := ok_law_sizes (P := P) (w := w) (base := base) T
  have D_law_counted := ok_law_counted (P := P) (w := w) (base := base) T
  have D_law_due := ok_law_due (P := P) (w := w) (base := base) T
  have D_count_fitting := ok_count_fitting (P := P) (w := w) (base := base) T
  have D_contradiction := ok_contradiction (P := P) (w := w) (base := base) T
  refine T.f_law.ok sc_law (fun vs H Q E h => ?_) (fun _ _ _ _ _ _ us hl => match us, hl with | [_], _ => rfl) (fun f cdv A outer s H vs Q E hr h => ?_)
  · obtain ⟨a, ns, rfl, hS, hl, q⟩ := h
    rfl
  · obtain ⟨a, ns, rfl, hS, hl, q⟩ := h
    refine ⟨_, (pss_cons (ps_set (i := 1) sc_law.nd rfl (Or.inr rfl) (pe_callD D_law_rng (hr.mono (by decide)) (pa_cons (pv 0) pa_nil)))
    (pss_cons (ps_for PassesOwn.never rfl (pi_range1 (by rfl) T.n_range (pa_cons (pe_op op_add pe_int (pe_callB (call_min2N rfl) (by rfl) T.n_min (by decide +kernel) (pa_cons pe_int (pa_cons (pe_callB call_lenN (by rfl) T.n_len (by decide +kernel) (pa_cons (pv 0) pa_nil)) pa_nil)))) pa_nil)) (pg_name (i := 2) sc_law.nd rfl (Or.inl rfl)) (pss_cons (ps_set (i := 3) sc_law.nd rfl (Or.inl rfl) (pe_callD D_law_sizes (hr.mono (by decide)) (pa_cons (pv 1) (pa_cons (pe_ix ix_list (pe_lst (pa_cons pe_int (pa_cons pe_int pa_nil))) (pe_callD D_law_draw (hr.mono (by decide)) (pa_cons (pv 1) (pa_cons pe_int pa_nil))) (fun _ _ => rfl)) (pa_cons pe_int pa_nil)))))
    (pss_cons (ps_set (i := 4) sc_law.nd rfl (Or.inr rfl) (pe_callD D_law_draw (hr.mono (by decide)) (pa_cons (pv 1) (pa_cons (pe_ix ix_list (pe_lst (pa_cons pe_int (pa_cons pe_int pa_nil))) (pe_callD D_law_draw (hr.mono (by decide)) (pa_cons (pv 1) (pa_cons pe_int pa_nil))) (fun _ _ => rfl)) pa_nil))))
    (pss_cons (ps_set (i := 5) sc_law.nd rfl (Or.inr rfl) (pe_op op_mulW (pe_ix ix_list (pe_op op_cat (pv 3) (pe_lst (pa_cons pe_int pa_nil))) (pe_op op_sub (pe_un un_neg pe_int) (pe_callTy call_int1N (by rfl) T.n_int (by decide +kernel) (pa_cons (pe_cmpR (op_neD hr.units) (pv 3) (pe_lst pa_nil) (nomark _)) pa_nil))) (fun _ _ => rfl)) (pe_op op_add pe_int (pe_callD D_law_draw (hr.mono (by decide)) (pa_cons (pv 1) (pa_cons pe_int pa_nil))))))
    (pss_cons (ps_set (i := 6) sc_law.nd rfl (Or.inr rfl) (pe_lc (own := [("turn", 10)]) (tt := tYes) rfl sc_law.nd (pi_range1 (by rfl) T.n_range (pa_cons (pv 4) pa_nil)) (blkOk_by (N := sc_law_N) (sc := defScope s_law) (by decide +kernel)) (fun _ _ _ _ _ => (pg_name (i := 10) sc_law.nd rfl (Or.inl rfl))) (fun _ _ _ _ _ => pts_nil) (fun _ _ _ _ _ => (pe_op op_add pe_int (pe_callD D_law_draw (hr.mono (by decide)) (pa_cons (pv 1) (pa_cons (pv 5) pa_nil)))))))
    (pss_cons (ps_setLc (i := 7) (own := [("wide", 11)]) (tt := tYes) rfl sc_law.nd rfl rfl (sw_true rfl rfl rfl (by decide +kernel)) (pi_list (pv 3)) (blkOk_by (N := sc_law_N) (sc := defScope s_law) (by decide +kernel)) (fun _ _ _ _ _ => (pg_name (i := 11) sc_law.nd rfl (Or.inl rfl))) (fun _ _ _ _ _ => pts_nil) (fun _ _ _ _ _ => (pe_tup (pa_cons (pv 11) (pa_cons (pe_callD D_law_counted (hr.mono (by decide)) (pa_cons (pv 6) (pa_cons (pv 11) pa_nil))) pa_nil)))))
    (pss_cons (ps_set (i := 8) sc_law.nd rfl (Or.inl rfl) (pe_callD D_law_due (hr.mono (by decide)) (pa_cons (pv 6) (pa_cons (pv 3) pa_nil))))
    (pss_cons (ps_if (pt_cmpR op_ne (pe_callB (call_reprBig T.nd_ (gu_of hr)) (by rfl) T.n_repr (by decide +kernel) (pa_cons (pe_callD D_count_fitting (hr.mono (by decide)) (pa_cons (pv 4) (pa_cons (pe_callB (cr_sum rfl) (by rfl) T.n_sum (by decide +kernel) (pa_cons (pv 6) pa_nil)) (pa_cons (pv 7) pa_nil)))) pa_nil)) (pe_callB (call_reprBig T.nd_ (gu_of hr)) (by rfl) T.n_repr (by decide +kernel) (pa_cons (pv 8) pa_nil)) (nomark _)) (pss_one (ps_ret pe_bl)) pss_nil)
    (pss_cons (ps_if (pt_cmpR op_notN1 (pe_callD D_contradiction (hr.mono (by decide)) (pa_cons (pv 4) (pa_cons (pe_callB (cr_sum rfl) (by rfl) T.n_sum (by decide +kernel) (pa_cons (pv 6) pa_nil)) (pa_cons (pv 7) pa_nil)))) pe_non (nomark _)) (pss_one (ps_ret pe_bl)) pss_nil)
    (pss_cons (ps_setLc (i := 9) (own := [("wide", 11)]) (tt := tYes) rfl sc_law.nd rfl rfl (sw_true rfl rfl rfl (by decide +kernel)) (pi_list (pv 3)) (blkOk_by (N := sc_law_N) (sc := defScope s_law) (by decide +kernel)) (fun _ _ _ _ _ => (pg_name (i := 11) sc_law.nd rfl (Or.inl rfl))) (fun _ _ _ _ _ => pts_nil) (fun _ _ _ _ _ => (pe_tup (pa_cons (pv 11) (pa_cons (pv 4) pa_nil)))))
    (pss_one (ps_if (pt_cmpR op_ne (pe_callD D_count_fitting (hr.mono (by decide)) (pa_cons (pv 4) (pa_cons (pv 4) (pa_cons (pv 9) pa_nil)))) pe_int (nomark _)) (pss_one (ps_ret pe_bl)) pss_nil))))))))))))
    (pss_one (ps_ret (pe_and (pe_cmpR op_eq (pe_callD D_count_fitting (hr.mono (by decide)) (pa_cons pe_int (pa_cons pe_int (pa_cons (pe_lst (pa_cons (pe_tup (pa_cons pe_int (pa_cons pe_int pa_nil))) (pa_cons (pe_tup (pa_cons pe_int (pa_cons pe_int pa_nil))) pa_nil))) pa_nil)))) pe_int (nomark _)) (pe_one (pe_cmpR op_eq (pe_callD D_count_fitting (hr.mono (by decide)) (pa_cons pe_int (pa_cons pe_int (pa_cons (pe_lst pa_nil) pa_nil)))) pe_int (nomark _)))))))), ?_⟩
    refine w_start (σ' := [some (.ref a), none, none, none, none, none, none, none, none, none, none, none]) rfl ?_
    walk_at "g"
    refine ⟨a, ns, rfl, hS, hl, fun r H1 f1 nr hr1 => ?_⟩
    walk_at "g"
    refine w_lenI (f1.seqL List.not_mem_nil hS) ?_
    walk_at "g"
    refine f_range (fun i σ' H' => ∃ (o2 o3 o4 o5 o6 o7 o8 o9 : Option V) (k : Int), σ' = [some (.ref a), some (.ref r), o2, o3, o4, o5, o6, o7, o8, o9, none, none] ∧ Rng H' r k ∧ k ≤ 2000 * i ∧ Fr [] H H') ⟨_, _, _, _, _, _, _, _, 0, rfl, hr1, by omega, f1⟩ ?_ ?_
    · rintro i σ' H2 hi ⟨o2, o3, o4, o5, o6, o7, o8, o9, k, rfl, hp2, hk2, f2⟩
      have hi2 : i < 100 := by split at hi <;> omega
      walk_at "g"
      rename_i p3 np3 r3 k3 H3 r30 r31 hk3 hp3 f3 n3 hn3
      have f03 : Fr [] H H3 := (f2.new np3).loc nr f3
      refine ⟨r, k3, n3, 9, rfl, hp3, by omega, by omega, by omega, by omega, by omega, fun Z zs k4 H4 lz hsc hfc hzb hk4 hp4 f4 nZ hZ => ?_⟩
      have lz20 : zs.length ≤ 20 := by omega
      have hZr : Z ≠ r := hp3.ne nZ
      have f04 : Fr [] H H4 := f03.loc nr f4
      have hkb : k4 ≤ k + 50 := by omega
      clear f03 f4 f2 f3 hp3 hp2 nZ np3 hn3 lz hk4 hk3
      walk_at "g"
      rename_i p5 np5 r5 k5 H5 r50 r51 hk5 hp5 f5 n5 hn5 r6 k6 H6 r60 r61 hk6 hp6 f6 p7 np7 p8 np8 p9 np9
      have f46 : Fr [r] H4 H6 := by walk_at "F"
      have h6 := f46.at (nn2 hZr) hZ
      have h69 := at_upd (u := .lst []) (at_upd (u := .lst ((zs ++ [3]).map V.int)) (at_upd (u := .lst [.int 3]) h6 np7) np8) np9
      have f09 : Fr [] H (upd (upd (upd H6 p7 (.lst [.int 3])) p8 (.lst ((zs ++ [3]).map V.int))) p9 (.lst [])) := (((f04.loc nr f46).new np7).new np8).new np9
      have hp9 : Rng (upd (upd (upd H6 p7 (.lst [.int 3])) p8 (.lst ((zs ++ [3]).map V.int))) p9 (.lst [])) r k6 := ((hp6.new np7).new np8).new np9
      have hk6b : k6 ≤ k + 60 := by omega
      obtain ⟨c, rfl⟩ : ∃ c : Nat, r6 = c := ⟨r6.toNat, by omega⟩
      have hc41 : c ≤ 40 := by omega
      have h8 := at_upd (u := .lst []) (show upd (upd H6 p7 (.lst [.int 3])) p8 (.lst ((zs ++ [3]).map V.int)) p8 = some (.lst ((zs ++ [3]).map V.int)) from upd_same) np9
      refine w_ixTop h8 (fun tv htv => ?_)
      have htb : 1 ≤ tv ∧ tv < 2 ^ 110 := by
        rw [htv]
        exact last_mem (fun x => 1 ≤ x ∧ x < 2 ^ 110) hzb (by decide)
      clear h8 f04 f46 f5 f6 hp4 hp5 hp6 h6 hZ hk5 hk6 hn5
      generalize upd (upd (upd H6 p7 (.lst [.int 3])) p8 (.lst ((zs ++ [3]).map V.int))) p9 (.lst []) = H9 at h69 f09 hp9 ⊢
      clear np5 np7 np8 np9
      walk_at "g"
      rename_i r10 k10 H10 r100 r101 hk10 hp10 f10
      have h10 := f10.at (nn2 hZr) h69
      have f010 : Fr [] H H10 := f09.loc nr f10
      obtain ⟨top, htop⟩ : ∃ top, tv * (1 + r10) = top := ⟨_, rfl⟩
      rw [htop]
      have ht4 : tv ≤ top ∧ top ≤ 4 * tv := by
        rw [← htop]
        rcases (show r10 = 0 ∨ r10 = 1 ∨ r10 = 2 ∨ r10 = 3 by omega) with rfl | rfl | rfl | rfl <;> omega
      have hk10b : k10 ≤ k + 70 := by omega
      clear f10 f09 h69 hp9 hk10 htop r100 r101
      refine l_range (fun L j H' => ∃ (ys : List Int) (k7 : Int), Rng H' r k7 ∧ k7 ≤ k10 + j ∧ Fr [r] H10 H' ∧ H' L = some (.lst (ys.map V.int)) ∧ ys.length = j ∧ ∀ y ∈ ys, 1 ≤ y ∧ y ≤ top) (fun L hL => ⟨[], k10, by walk_at "P", by omega, Fr.refl.new hL, upd_same, rfl, by simp⟩) (fun L j H' hL hj h => ?_) (fun S H11 hS h => ?_)
      · obtain ⟨ys, k7, hp7, hk7, f7, h7, hl7, hy7⟩ := h
        have hLr : L ≠ r := hp10.ne hL
        refine w_gname ⟨rfl, ?_⟩
        walk_at "g"
        exact ⟨_, _, by walk_at "P", by omega, by walk_at "F", upd_same, len_snoc hl7, mem_snoc hy7 (by omega)⟩
      · obtain ⟨xs, k11, hp11, hk11, f11, h11, hl11, hx11⟩ := h
        have hl11 : xs.length = c := by omega
        have h11Z := f11.at (nn2 hZr) h10
        have f011 : Fr [] H H11 := f010.loc nr f11
        have hx1 : ∀ x ∈ xs, 1 ≤ x := fun x hx => (hx11 x hx).1
        have hxB : ∀ x ∈ xs, 1 ≤ x ∧ x ≤ 2 ^ 113 := fun x hx => by have := hx11 x hx; omega
        have sm := sum_max hxB
        have sm2 : xs.sum ≤ 40 * 2 ^ 113 := by
          have b3 : (xs.length : Int) * 2 ^ 113 ≤ 40 * 2 ^ 113 := Int.mul_le_mul_of_nonneg_right (by omega) (by omega)
          omega
        have hlast : (qs xs (zs.getLast?.getD 1)).sum ≤ 1000 := by
          have h20 : top ≤ 20 * zs.getLast?.getD 1 ∧ 1 ≤ zs.getLast?.getD 1 := by
            cases e : zs.getLast? with
            | none =>
              rw [e] at htv
              have htv : tv = 3 := htv
              show top ≤ 20 * 1 ∧ (1 : Int) ≤ 1
              omega
            | some x =>
              rw [e] at htv
              have htv : tv = x := htv
              show top ≤ 20 * x ∧ 1 ≤ x
              omega
          have := qs_small h20.2 h20.1 hx11
          omega
        clear f11 f010 hp10 h10 hS hxB htv
        walk_at "g"
        refine l_list (zs.map V.int) (fun L j H' => ∃ ts : List Addr, Fr [] H11 H' ∧ H' L = some (.lst (ts.map V.ref)) ∧ PairsAt H' ts (rowsOf xs (zs.take j)) ∧ ts.length = j) (fun L hL => ⟨[], Fr.refl.new hL, upd_same, .nil, rfl⟩) (fun L j H' _ _ h => .of (h.choose_spec.1.at0 h11Z)) (fun L j x H' hL hx h => ?_) (fun L H12 hL h => ?_)
        · obtain ⟨ts, g1, g2, g3, g4⟩ := h
          obtain ⟨w', hw, rfl⟩ := map_at hx
          have hjl := (List.getElem?_eq_some_iff.mp hw).1
          have hwb := hzb w' (List.mem_of_getElem? hw)
          have tk : zs.take (j + 1) = zs.take j ++ [w'] := by rw [List.take_succ, hw]; rfl
          refine w_gname ⟨rfl, ?_⟩
          walk_at "g"
          refine ⟨S, xs, w', rfl, g1.at0 h11, by omega, by omega, by omega, fun H13 f13 => ?_⟩
          walk_at "g"
          rename_i T nT
          have g2' : upd H13 T (.tup [.int w', .int (ct xs w')]) L = some (.lst (ts.map V.ref)) := at_upd (f13.at0 g2) nT
          refine w_appER g2' (by omega) ⟨ts ++ [T], ((g1.trans f13).new nT).put (.inl hL), upd_same, ?_, len_snoc g4⟩
          have et : rowsOf xs (zs.take j ++ [w']) = rowsOf xs (zs.take j) ++ [(w', ct xs w')] := by simp [rowsOf]
          rw [tk, et]
          exact (((g3.fr f13).fr (Fr.refl.new nT)).snoc (l := (w', ct xs w')) upd_same).put g2'
        · obtain ⟨ps, g1, g2, g3, g4⟩ := h
          rw [List.length_map] at g4
          rw [List.length_map, List.take_length] at g3
          have h12 := g1.at0 h11
          have h12Z := g1.at0 h11Z
          have hp12 : Rng H12 r k11 := hp11.fr g1 List.not_mem_nil
          have f012 := f011.trans g1
          have hvc := chain_rows (xs := xs) hsc
          have hz : Sized xs.length xs.sum (rowsOf xs zs) := ⟨by omega, by omega, by omega, by unfold rowsOf; rw [List.length_map]; omega, fun l hl => by
            obtain ⟨w', hw', rfl⟩ := List.mem_map.mp hl
            have b1 := hzb w' hw'
            have b2 := ct_range b1.1 hx11
            have b3 : (xs.length : Int) * top ≤ 40 * 2 ^ 113 := Int.mul_le_mul (by omega) (by omega) (by omega) (by omega)
            refine ⟨?_, ?_, ?_⟩
            · show w' < 2 ^ 150
              omega
            · show -(2 ^ 150) < ct xs w'
              omega
            · show ct xs w' < 2 ^ 150
              omega⟩
          have hch := hvc.chain
          subst hl11
          clear g1 h11 h11Z hp11 f011 hL
          walk_at "g"
          refine ⟨S, Z, xs, zs, rfl, h12, h12Z, by omega, by omega, hsc, hfc, hzb, hx1, by omega, hlast, fun H13 f13 c0 c1 => ?_⟩
          have h13 := f13.at0 h12
          have h13Z := f13.at0 h12Z
          have h13L := f13.at0 g2
          have hps13 := g3.fr f13
          have hp13 : Rng H13 r k11 := hp12.fr f13 List.not_mem_nil
          have f013 := f012.trans f13
          have hbig := big_lt c0 c1
          clear f13 f012 hp12 h12 h12Z g2 g3
          walk_at "g"
          refine ⟨L, ps, rowsOf xs zs, xs.length, xs.sum, rfl, h13L, hps13, hvc, hz, fun H14 f14 => ?_⟩
          have h14 := f14.at0 h13
          have h14Z := f14.at0 h13Z
          have h14L := f14.at0 h13L
          have hps14 := hps13.fr f14
          have hp14 : Rng H14 r k11 := hp13.fr f14 List.not_mem_nil
          have f014 := f013.trans f14
          clear f14 f013 hp13 h13 h13Z h13L hps13
          walk_at "g"
          refine w_reprBig hbig ?_
          walk_at "g"
          refine w_reprBig hbig ?_
          walk_at "g"
          refine ⟨L, ps, rowsOf xs zs, xs.length, xs.sum, rfl, h14L, hps14, hvc, hz, fun d v H15 hd hv f15 => ?_⟩
          have hdn := no_bad hx1 hch hd
          subst hdn
          have hvn : v = .non := hv.non_iff.mpr rfl
          subst hvn
          have h15Z := f15.at0 h14Z
          have hp15 : Rng H15 r k11 := hp14.fr f15 List.not_mem_nil
          have f015 := f014.trans f15
          clear f15 f014 hp14 h14 h14Z h14L hps14 hd hv
          walk_at "g"
          refine l_list (zs.map V.int) (fun L2 j H' => ∃ ts : List Addr, Fr [] H15 H' ∧ H' L2 = some (.lst (ts.map V.ref)) ∧ PairsAt H' ts (sameOf xs.length (zs.take j)) ∧ ts.length = j) (fun L2 hL => ⟨[], Fr.refl.new hL, upd_same, .nil, rfl⟩) (fun L2 j H' _ _ h => .of (h.choose_spec.1.at0 h15Z)) (fun L2 j x H' hL hx h => ?_) (fun L2 H16 hL h => ?_)
          · obtain ⟨ts, g1, g2, g3, g4⟩ := h
            obtain ⟨w', hw, rfl⟩ := map_at hx
            have hjl := (List.getElem?_eq_some_iff.mp hw).1
            have tk : zs.take (j + 1) = zs.take j ++ [w'] := by rw [List.take_succ, hw]; rfl
            refine w_gname ⟨rfl, ?_⟩
            walk_at "g"
            rename_i T nT
            have g2' : upd H' T (.tup [.int w', .int xs.length]) L2 = some (.lst (ts.map V.ref)) := at_upd g2 nT
            refine w_appER g2' (by omega) ⟨ts ++ [T], (g1.new nT).put (.inl hL), upd_same, ?_, len_snoc g4⟩
            have et : sameOf xs.length (zs.take j ++ [w']) = sameOf xs.length (zs.take j) ++ [(w', (xs.length : Int))] := by simp [sameOf]
            rw [tk, et]
            exact ((g3.fr (Fr.refl.new nT)).snoc (l := (w', (xs.length : Int))) upd_same).put g2'
          · obtain ⟨ts, g1, g2, g3, g4⟩ := h
            rw [List.length_map] at g4
            rw [List.length_map, List.take_length] at g3
            obtain ⟨hvs, hcs⟩ := cnt_same (c := xs.length) hsc
            have hp16 : Rng H16 r k11 := hp15.fr g1 List.not_mem_nil
            have f016 := f015.trans g1
            clear g1 hp15 h15Z hL f015
            walk_at "g"
            refine ⟨L2, ts, sameOf xs.length zs, xs.length, xs.length, rfl, g2, g3, hvs, ⟨by omega, by omega, by omega, by unfold sameOf; rw [List.length_map]; omega, fun l hl => ?_⟩, fun H17 f17 => ?_⟩
            · obtain ⟨w', hw', rfl⟩ := List.mem_map.mp hl
              have b1 := hzb w' hw'
              refine ⟨?_, ?_, ?_⟩
              · show w' < 2 ^ 150
                omega
              · show -(2 ^ 150) < (xs.length : Int)
                omega
              · show (xs.length : Int) < 2 ^ 150
                omega
            · rw [hcs]
              walk_at "g"
              exact ⟨_, _, _, _, _, _, _, _, k11, rfl, hp16.fr f17 List.not_mem_nil, by omega, f016.trans f17⟩
    · rintro σ' H2 ⟨o2, o3, o4, o5, o6, o7, o8, o9, k, rfl, hp2, hk2, f2⟩
      walk_at "g"
      rename_i t1 nt1 t2 nt2 t3 nt3
      have hps : PairsAt (upd (upd (upd H2 t1 (.tup [.int 2, .int 7])) t2 (.tup [.int 4, .int 4])) t3 (.lst [.ref t1, .ref t2])) [t1, t2] [(2, 7), (4, 4)] := (PairsAt.nil.snoc (l := (2, 7)) (at_upd (at_upd upd_same nt2) nt3)).snoc (l := (4, 4)) (at_upd upd_same nt3)
      have hvc : VChain 0 [((2 : Int), (7 : Int)), (4, 4)] := ⟨by decide, by decide, by decide, by decide, trivial⟩
      refine ⟨t3, [t1, t2], [(2, 7), (4, 4)], 3, 11, rfl, upd_same, hps, hvc, ⟨by decide, by decide, by decide, by decide, by decide⟩, fun H3 f3 => ?_⟩
      rw [cnt_const]
      walk_at "g"
      rename_i t4 nt4
      refine ⟨t4, [], [], 40, 40, rfl, upd_same, .nil, trivial, ⟨by decide, by decide, by decide, by decide, by simp⟩, fun H4 f4 => ?_⟩
      rw [cnt_forty]
      walk_at "g"
      exact q _
end
/-! ### the end -/
theorem all_mk {l : PySem.W.OpenLaw} {w : World} {K : PySem.W.Frag} {h : Heap} {mg : Str → Option Value} {fa : Addr} (X : K.In h) (G : h.Ns mainGlobals mg) (hfa : mg "law" = some (.ref fa))
    {f1 : Addr} {od1 an1 : Option Addr} {sl1 : Array (Option Value)} {oc1 kV1 dc1 pm1 cd1 ct1 : Value}
    {f2 : Addr} {od2 an2 : Option Addr} {sl2 : Array (Option Value)} {oc2 kV2 dc2 pm2 cd2 ct2 : Value}
    {f3 : Addr} {od3 an3 : Option Addr} {sl3 : Array (Option Value)} {oc3 kV3 dc3 pm3 cd3 ct3 : Value}
    {f4 : Addr} {od4 an4 : Option Addr} {sl4 : Array (Option Value)} {oc4 kV4 dc4 pm4 cd4 ct4 : Value}
    {f5 : Addr} {od5 an5 : Option Addr} {sl5 : Array (Option Value)} {oc5 kV5 dc5 pm5 cd5 ct5 : Value}
    {f6 : Addr} {od6 an6 : Option Addr} {sl6 : Array (Option Value)} {oc6 kV6 dc6 pm6 cd6 ct6 : Value}
    {f7 : Addr} {od7 an7 : Option Addr} {sl7 : Array (Option Value)} {oc7 kV7 dc7 pm7 cd7 ct7 : Value}
    {f8 : Addr} {od8 an8 : Option Addr} {sl8 : Array (Option Value)} {oc8 kV8 dc8 pm8 cd8 ct8 : Value}
    {f9 : Addr} {od9 an9 : Option Addr} {sl9 : Array (Option Value)} {oc9 kV9 dc9 pm9 cd9 ct9 : Value}
    {f10 : Addr} {od10 an10 : Option Addr} {sl10 : Array (Option Value)} {oc10 kV10 dc10 pm10 cd10 ct10 : Value}
    {f11 : Addr} {od11 an11 : Option Addr} {sl11 : Array (Option Value)} {oc11 kV11 dc11 pm11 cd11 ct11 : Value}
    {f12 : Addr} {od12 an12 : Option Addr} {sl12 : Array (Option Value)} {oc12 kV12 dc12 pm12 cd12 ct12 : Value}
    {f13 : Addr} {od13 an13 : Option Addr} {sl13 : Array (Option Value)} {oc13 kV13 dc13 pm13 cd13 ct13 : Value}
    {f14 : Addr} {od14 an14 : Option Addr} {sl14 : Array (Option Value)} {oc14 kV14 dc14 pm14 cd14 ct14 : Value}
    (a1 : PySem.W.nsIn K mainGlobals "_law_rng" = some (some (.ref f1)))
    (l1 : K.lookup f1 = some ⟨oc1, od1, .func (PySem.W.fnOf "_law_rng" "_law_rng" (defArgs s_law_rng) (defBody s_law_rng) (defScope s_law_rng) .none kV1 dc1 pm1 an1 cd1 ct1), sl1⟩)
    (c1 : PySem.W.codeIn K cd1 "_law_rng" = true)
    (k1 : PySem.W.keepIn K (.ref f1) = true)
    (a2 : PySem.W.nsIn K mainGlobals "_law_draw" = some (some (.ref f2)))
    (l2 : K.lookup f2 = some ⟨oc2, od2, .func (PySem.W.fnOf "_law_draw" "_law_draw" (defArgs s_law_draw) (defBody s_law_draw) (defScope s_law_draw) .none kV2 dc2 pm2 an2 cd2 ct2), sl2⟩)
    (c2 : PySem.W.codeIn K cd2 "_law_draw" = true)
    (k2 : PySem.W.keepIn K (.ref f2) = true)
    (a3 : PySem.W.nsIn K mainGlobals "_law_counted" = some (some (.ref f3)))
    (l3 : K.lookup f3 = some ⟨oc3, od3, .func (PySem.W.fnOf "_law_counted" "_law_counted" (defArgs s_law_counted) (defBody s_law_counted) (defScope s_law_counted) .none kV3 dc3 pm3 an3 cd3 ct3), sl3⟩)
    (c3 : PySem.W.codeIn K cd3 "_law_counted" = true)
    (k3 : PySem.W.keepIn K (.ref f3) = true)
    (a4 : PySem.W.nsIn K mainGlobals "check_fitting" = some (some (.ref f4)))
    (l4 : K.lookup f4 = some ⟨oc4, od4, .func (PySem.W.fnOf "check_fitting" "check_fitting" (defArgs s_check_fitting) (defBody s_check_fitting) (defScope s_check_fitting) .none kV4 dc4 pm4 an4 cd4 ct4), sl4⟩)
    (c4 : PySem.W.codeIn K cd4 "check_fitting" = true)
    (k4 : PySem.W.keepIn K (.ref f4) = true)
    (a5 : PySem.W.nsIn K mainGlobals "binomial" = some (some (.ref f5)))
    (l5 : K.lookup f5 = some ⟨oc5, od5, .func (PySem.W.fnOf "binomial" "binomial" (defArgs s_binomial) (defBody s_binomial) (defScope s_binomial) .none kV5 dc5 pm5 an5 cd5 ct5), sl5⟩)
    (c5 : PySem.W.codeIn K cd5 "binomial" = true)
    (k5 : PySem.W.keepIn K (.ref f5) = true)
    (a6 : PySem.W.nsIn K mainGlobals "sums_of_digits" = some (some (.ref f6)))
    (l6 : K.lookup f6 = some ⟨oc6, od6, .func (PySem.W.fnOf "sums_of_digits" "sums_of_digits" (defArgs s_sums_of_digits) (defBody s_sums_of_digits) (defScope s_sums_of_digits) .none kV6 dc6 pm6 an6 cd6 ct6), sl6⟩)
    (c6 : PySem.W.codeIn K cd6 "sums_of_digits" = true)
    (k6 : PySem.W.keepIn K (.ref f6) = true)
    (a7 : PySem.W.nsIn K mainGlobals "count_of" = some (some (.ref f7)))
    (l7 : K.lookup f7 = some ⟨oc7, od7, .func (PySem.W.fnOf "count_of" "count_of" (defArgs s_count_of) (defBody s_count_of) (defScope s_count_of) .none kV7 dc7 pm7 an7 cd7 ct7), sl7⟩)
    (c7 : PySem.W.codeIn K cd7 "count_of" = true)
    (k7 : PySem.W.keepIn K (.ref f7) = true)
    (a8 : PySem.W.nsIn K mainGlobals "count_fitting" = some (some (.ref f8)))
    (l8 : K.lookup f8 = some ⟨oc8, od8, .func (PySem.W.fnOf "count_fitting" "count_fitting" (defArgs s_count_fitting) (defBody s_count_fitting) (defScope s_count_fitting) .none kV8 dc8 pm8 an8 cd8 ct8), sl8⟩)
    (c8 : PySem.W.codeIn K cd8 "count_fitting" = true)
    (k8 : PySem.W.keepIn K (.ref f8) = true)
    (a9 : PySem.W.nsIn K mainGlobals "contradiction" = some (some (.ref f9)))
    (l9 : K.lookup f9 = some ⟨oc9, od9, .func (PySem.W.fnOf "contradiction" "contradiction" (defArgs s_contradiction) (defBody s_contradiction) (defScope s_contradiction) .none kV9 dc9 pm9 an9 cd9 ct9), sl9⟩)
    (c9 : PySem.W.codeIn K cd9 "contradiction" = true)
    (k9 : PySem.W.keepIn K (.ref f9) = true)
    (a10 : PySem.W.nsIn K mainGlobals "_law_ways" = some (some (.ref f10)))
    (l10 : K.lookup f10 = some ⟨oc10, od10, .func (PySem.W.fnOf "_law_ways" "_law_ways" (defArgs s_law_ways) (defBody s_law_ways) (defScope s_law_ways) .none kV10 dc10 pm10 an10 cd10 ct10), sl10⟩)
    (c10 : PySem.W.codeIn K cd10 "_law_ways" = true)
    (k10 : PySem.W.keepIn K (.ref f10) = true)
    (a11 : PySem.W.nsIn K mainGlobals "_law_above" = some (some (.ref f11)))
    (l11 : K.lookup f11 = some ⟨oc11, od11, .func (PySem.W.fnOf "_law_above" "_law_above" (defArgs s_law_above) (defBody s_law_above) (defScope s_law_above) .none kV11 dc11 pm11 an11 cd11 ct11), sl11⟩)
    (c11 : PySem.W.codeIn K cd11 "_law_above" = true)
    (k11 : PySem.W.keepIn K (.ref f11) = true)
    (a12 : PySem.W.nsIn K mainGlobals "_law_due" = some (some (.ref f12)))
    (l12 : K.lookup f12 = some ⟨oc12, od12, .func (PySem.W.fnOf "_law_due" "_law_due" (defArgs s_law_due) (defBody s_law_due) (defScope s_law_due) .none kV12 dc12 pm12 an12 cd12 ct12), sl12⟩)
    (c12 : PySem.W.codeIn K cd12 "_law_due" = true)
    (k12 : PySem.W.keepIn K (.ref f12) = true)
    (a13 : PySem.W.nsIn K mainGlobals "_law_sizes" = some (some (.ref f13)))
    (l13 : K.lookup f13 = some ⟨oc13, od13, .func (PySem.W.fnOf "_law_sizes" "_law_sizes" (defArgs s_law_sizes) (defBody s_law_sizes) (defScope s_law_sizes) .none kV13 dc13 pm13 an13 cd13 ct13), sl13⟩)
    (c13 : PySem.W.codeIn K cd13 "_law_sizes" = true)
    (k13 : PySem.W.keepIn K (.ref f13) = true)
    (a14 : PySem.W.nsIn K mainGlobals "law" = some (some (.ref f14)))
    (l14 : K.lookup f14 = some ⟨oc14, od14, .func (PySem.W.fnOf "law" "law" (defArgs s_law) (defBody s_law) (defScope s_law) .none kV14 dc14 pm14 an14 cd14 ct14), sl14⟩)
    (c14 : PySem.W.codeIn K cd14 "law" = true)
    (k14 : PySem.W.keepIn K (.ref f14) = true)
    (z_abs : PySem.W.nsIn K mainGlobals "abs" = some none)
    (z_all : PySem.W.nsIn K mainGlobals "all" = some none)
    (z_enumerate : PySem.W.nsIn K mainGlobals "enumerate" = some none)
    (z_int : PySem.W.nsIn K mainGlobals "int" = some none)
    (z_len : PySem.W.nsIn K mainGlobals "len" = some none)
    (z_min : PySem.W.nsIn K mainGlobals "min" = some none)
    (z_range : PySem.W.nsIn K mainGlobals "range" = some none)
    (z_repr : PySem.W.nsIn K mainGlobals "repr" = some none)
    (z_sum : PySem.W.nsIn K mainGlobals "sum" = some none)
    (nd_ : PySem.W.nsIn K cStatics "sys.int_max_str_digits" = some none) :
    ∃ fd : FuncData, (∀ (s : Shared) (v : Value), BindsTo s fd ⟨[v], []⟩ [("script", v)]) ∧ ∀ base : Heap, K.In base → base.Ns mainGlobals mg → FnOk l.prog w K mg base CX0 5 fa fd ["script"] (spLaw K) := by
  have T : Txt K mg ⟨()⟩ := ⟨trivial,
    PySem.W.mg_none_of X G z_abs,
    PySem.W.mg_none_of X G z_all,
    PySem.W.mg_none_of X G z_enumerate,
    PySem.W.mg_none_of X G z_int,
    PySem.W.mg_none_of X G z_len,
    PySem.W.mg_none_of X G z_min,
    PySem.W.mg_none_of X G z_range,
    PySem.W.mg_none_of X G z_repr,
    PySem.W.mg_none_of X G z_sum,
    nd_,
    ⟨⟨_, _, PySem.W.mg_of X G a1, fun_mk (st := s_law_rng) l1 c1 k1⟩⟩,
    ⟨⟨_, _, PySem.W.mg_of X G a2, fun_mk (st := s_law_draw) l2 c2 k2⟩⟩,
    ⟨⟨_, _, PySem.W.mg_of X G a3, fun_mk (st := s_law_counted) l3 c3 k3⟩⟩,
    ⟨⟨_, _, PySem.W.mg_of X G a4, fun_mk (st := s_check_fitting) l4 c4 k4⟩⟩,
    ⟨⟨_, _, PySem.W.mg_of X G a5, fun_mk (st := s_binomial) l5 c5 k5⟩⟩,
    ⟨⟨_, _, PySem.W.mg_of X G a6, fun_mk (st := s_sums_of_digits) l6 c6 k6⟩⟩,
    ⟨⟨_, _, PySem.W.mg_of X G a7, fun_mk (st := s_count_of) l7 c7 k7⟩⟩,
    ⟨⟨_, _, PySem.W.mg_of X G a8, fun_mk (st := s_count_fitting) l8 c8 k8⟩⟩,
    ⟨⟨_, _, PySem.W.mg_of X G a9, fun_mk (st := s_contradiction) l9 c9 k9⟩⟩,
    ⟨⟨_, _, PySem.W.mg_of X G a10, fun_mk (st := s_law_ways) l10 c10 k10⟩⟩,
    ⟨⟨_, _, PySem.W.mg_of X G a11, fun_mk (st := s_law_above) l11 c11 k11⟩⟩,
    ⟨⟨_, _, PySem.W.mg_of X G a12, fun_mk (st := s_law_due) l12 c12 k12⟩⟩,
    ⟨⟨_, _, PySem.W.mg_of X G a13, fun_mk (st := s_law_sizes) l13 c13 k13⟩⟩,
    ⟨⟨_, _, PySem.W.mg_of X G a14, fun_mk (st := s_law) l14 c14 k14⟩⟩⟩
  have e := hfa.symm.trans (PySem.W.mg_of X G a14)
  cases e
  refine ⟨PySem.W.fnOf "law" "law" (defArgs s_law) (defBody s_law) (defScope s_law) .none kV14 dc14 pm14 an14 cd14 ct14, fun s v => .of_eq rfl, fun base _ _ => ?_⟩
  obtain ⟨f, fd, hm, F, O, B⟩ := (ok_law (P := l.prog) (w := w) (base := base) T).ex
  have e2 := hm.symm.trans (PySem.W.mg_of X G a14)
  cases e2
  obtain ⟨oc, od, kV, doc, pm, an, cdv, ct, osl, rfl, lk, hcd⟩ := F.ex
  have e3 := lk.symm.trans l14
  cases e3
  exact O
theorem walk {l : PySem.W.OpenLaw} {q : Program} {loose : List Str} {XP : (Str → Option Value) → Heap → Prop} {YP : World → Heap → Prop} {d : DefRec} {K : Params → PySem.W.Frag} (hn : l.most = some 63) (hdf : d.params.defaults = [])
    (hY : ∀ (w : World) (h : Heap), YP w h → (K w.params).In h)
    (F : ∀ (w : World) (mg : Str → Option Value) (fa : Addr) (h : Heap), (K w.params).In h → h.Ns mainGlobals mg → mg d.name = some (.ref fa) →
      ∃ fd : FuncData, (∀ (s : Shared) (u : Value), BindsTo s fd ⟨[u], []⟩ [("script", u)]) ∧ ∀ base : Heap, (K w.params).In base → base.Ns mainGlobals mg → FnOk l.prog w (K w.params) mg base CX0 5 fa fd ["script"] (spLaw (K w.params))) :
    PySem.W.WalkO q loose XP YP l.row.toRowW d [] (fun f vs => PySem.call f vs) :=
  L2.walk_of (n := 63) (k := 5) (x := "script") (CX := fun _ => CX0) (sp := fun w => spLaw (K w.params)) hn (by decide) hdf ⟨rfl, by decide, by decide⟩ hY F (fun _ _ a ns hl _ hS => ⟨a, ns, rfl, hS, hl, fun _ => rfl⟩) fun _ _ _ _ _ z => z
end K17
open PySem PySem.W PyProof.Rows
set_option maxRecDepth 100000 in
set_option maxHeartbeats 0 in
theorem PySem.Challenge.cw_pagecounts_k17_great_numbers_of_fitting_holds : PySem.Challenge.rw_pagecounts_k17_great_numbers_of_fitting.Holds := by
  w_on; o_law; k_head; (case hw => w_witness2)
  k_fill
  refine K17.walk (l := PySem.Challenge.rw_pagecounts_k17_great_numbers_of_fitting) rfl rfl (fun w h Y => PySem.W.kIn_of Y) ?F
  case F =>
    intro w mg fa h KX G hmg
    refine' K17.all_mk KX G hmg ?a1 ?l1 ?c1 ?k1 ?a2 ?l2 ?c2 ?k2 ?a3 ?l3 ?c3 ?k3 ?a4 ?l4 ?c4 ?k4 ?a5 ?l5 ?c5 ?k5 ?a6 ?l6 ?c6 ?k6 ?a7 ?l7 ?c7 ?k7 ?a8 ?l8 ?c8 ?k8 ?a9 ?l9 ?c9 ?k9 ?a10 ?l10 ?c10 ?k10 ?a11 ?l11 ?c11 ?k11 ?a12 ?l12 ?c12 ?k12 ?a13 ?l13 ?c13 ?k13 ?a14 ?l14 ?c14 ?k14 ?z_abs ?z_all ?z_enumerate ?z_int ?z_len ?z_min ?z_range ?z_repr ?z_sum ?nd_
    (case a1 => k_is)
    (case l1 => k_is)
    (case c1 => k_is)
    (case k1 => k_is)
    (case a2 => k_is)
    (case l2 => k_is)
    (case c2 => k_is)
    (case k2 => k_is)
    (case a3 => k_is)
    (case l3 => k_is)
    (case c3 => k_is)
    (case k3 => k_is)
    (case a4 => k_is)
    (case l4 => k_is)
    (case c4 => k_is)
    (case k4 => k_is)
    (case a5 => k_is)
    (case l5 => k_is)
    (case c5 => k_is)
    (case k5 => k_is)
    (case a6 => k_is)
    (case l6 => k_is)
    (case c6 => k_is)
    (case k6 => k_is)
    (case a7 => k_is)
    (case l7 => k_is)
    (case c7 => k_is)
    (case k7 => k_is)
    (case a8 => k_is)
    (case l8 => k_is)
    (case c8 => k_is)
    (case k8 => k_is)
    (case a9 => k_is)
    (case l9 => k_is)
    (case c9 => k_is)
    (case k9 => k_is)
    (case a10 => k_is)
    (case l10 => k_is)
    (case c10 => k_is)
    (case k10 => k_is)
    (case a11 => k_is)
    (case l11 => k_is)
    (case c11 => k_is)
    (case k11 => k_is)
    (case a12 => k_is)
    (case l12 => k_is)
    (case c12 => k_is)
    (case k12 => k_is)
    (case a13 => k_is)
    (case l13 => k_is)
    (case c13 => k_is)
    (case k13 => k_is)
    (case a14 => k_is)
    (case l14 => k_is)
    (case c14 => k_is)
    (case k14 => k_is)
    (case z_abs => k_is)
    (case z_all => k_is)
    (case z_enumerate => k_is)
    (case z_int => k_is)
    (case z_len => k_is)
    (case z_min => k_is)
    (case z_range => k_is)
    (case z_repr => k_is)
    (case z_sum => k_is)
    (case nd_ => k_is)
