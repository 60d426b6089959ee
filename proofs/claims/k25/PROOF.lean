import PyProof.Rows.All
import Wide.All
import OpenK.AllK
import Wide.FinOn
import HandS.ForMost
import HandS.Wide
import HandS.SortInts
import HandS.SortKw
import HandS.Property
import HandS.IsInst
import HandS.RevRange
import HandS.Style
import HandS.Flow
import HandS.Defaults
import HandS.MakeKwOnly
import HandS.TryOnly
import HandS.Zip
import HandS.RaiseMore
import HandS.EndBits
import HandS.SetFor
import HandS.Steps
import HandS.Iter
import HandS.GenList
import HandS.Walk
import HandS.ExcInit
import HandS.ExcField
import HandS.ClsMeth
import HandS.WordsExc
import HandS.ExcOwn
import KE.KExcIs
import HandS.ExcIs
import HandS.Star
import HandS.MethStar
import HandS.GenYield
import HandS.OwnEq
import PyProof.InstEq
import PyProof.EqKinds
import PySem.Challenge.RW_pagecounts_k25_equal_live_books
set_option Elab.async false
set_option linter.all false
set_option maxRecDepth 100000
set_option maxHeartbeats 4000000
namespace Pg
open PySem PySem.Spec PyProof.Rows L2

/-! ### powers of great ints -/
def CPowW (i j : Int) : Prop := 0 ≤ j ∧ (i.natAbs.log2 + 1 : Int) * j ≤ 1000000
theorem CPowW.of {i j : Int} (b : Nat) (h0 : 0 ≤ j) (h1 : i.natAbs < 2 ^ b) (hb : 0 < b) (h : (b : Int) * j ≤ 1000000) : CPowW i j := by
  refine ⟨h0, ?_⟩
  have x := PySem.Flt.log2_lt_of hb h1
  have y : ((i.natAbs.log2 + 1 : Nat) : Int) ≤ (b : Int) := by omega
  have z : ((i.natAbs.log2 + 1 : Nat) : Int) * j ≤ (b : Int) * j := Int.mul_le_mul_of_nonneg_right y h0
  have e : ((i.natAbs.log2 + 1 : Nat) : Int) = (i.natAbs.log2 : Int) + 1 := by omega
  rw [e] at z
  exact Int.le_trans z h
section
variable {X : Cx}
theorem op_powW : OpR X (binaryOp .Pow) (rI CPowW fun i j => .int (i ^ j.toNat)) := opI fun i j _ _ _ _ _ hc q => by
  refine pow_int hc.1 ?_ q
  have b : Builtin.Int.intBits i ≤ i.natAbs.log2 + 1 := by
    unfold Builtin.Int.intBits
    split <;> omega
  have b' : ((Builtin.Int.intBits i : Nat) : Int) ≤ (i.natAbs.log2 : Int) + 1 := by omega
  have z := Int.mul_le_mul_of_nonneg_right b' hc.1
  have h2 := hc.2
  have e : (1000000 : Int) ≤ 2 ^ 27 := by decide
  exact Int.le_trans z (Int.le_trans h2 e)
end

/-! ### a def where it stands -/
structure DefAt (P : Program) (w : World) (K : PySem.W.Frag) (mg : Str → Option Value) (base : Heap) (x : Str) (st : Stmt) (k : Nat) (ps : List Str) (sp : Sp) : Prop where
  ex : ∃ f fd, mg x = some (.ref f) ∧ Fun K x x st f fd ∧ FnOk P w K mg base CX0 k f fd ps sp ∧ Binds K fd ps []
/-- a def of the text that stands at the module's name -/
structure FunAt (K : PySem.W.Frag) (mg : Str → Option Value) (x : Str) (st : Stmt) : Prop where
  ex : ∃ f fd, mg x = some (.ref f) ∧ Fun K x x st f fd
/-- a class with its __init__ -/
structure ClsAt (K : PySem.W.Frag) (mg : Str → Option Value) (x : Str) (C : Addr) : Prop where
  g : mg x = some (.ref C)
  c : Cls K C
  mks : PySem.W.makesIn K C = true
  kp : PySem.W.keepIn K (.ref C) = true
/-- a method of a class, as the text has it -/
structure MethAt (K : PySem.W.Frag) (C : Addr) (m qual : Str) (st : Stmt) : Prop where
  ex : ∃ f fd, Meth K C m f ∧ Fun K m qual st f fd
structure MDefAt (P : Program) (w : World) (K : PySem.W.Frag) (mg : Str → Option Value) (base : Heap) (C : Addr) (m qual : Str) (st : Stmt) (k : Nat) (ps : List Str) (sp : Sp) : Prop where
  ex : ∃ f fd, Meth K C m f ∧ Fun K m qual st f fd ∧ FnOk P w K mg base CX0 k f fd ps sp ∧ Binds K fd ps []
/-- a property of a class -/
structure PropAt (K : PySem.W.Frag) (C : Addr) (m qual : Str) (st : Stmt) : Prop where
  ex : ∃ p f fd, PropOf K C m p f ∧ Fun K m qual st f fd
structure PDefAt (P : Program) (w : World) (K : PySem.W.Frag) (mg : Str → Option Value) (base : Heap) (C : Addr) (m qual : Str) (st : Stmt) (k : Nat) (sp : Sp) : Prop where
  ex : ∃ p f fd, PropOf K C m p f ∧ Fun K m qual st f fd ∧ FnOk P w K mg base CX0 k f fd ["self"] sp ∧ Binds K fd ["self"] []

section
variable {P : Program} {w : World} {K : PySem.W.Frag} {mg : Str → Option Value} {base : Heap} {x m qual : Str} {st : Stmt} {k : Nat} {ps N : List Str} {sp : Sp} {C : Addr}
theorem FunAt.ok (F : FunAt K mg x st) (S : FnScope N ps (defScope st)) (len : ∀ vs H Q E, sp vs H Q E → vs.length = ps.length)
    (hb : ∀ (kV doc pm : Value) (an : Option Addr) (cdv ct : Value) (us : List Value), us.length = ps.length → bindArgs (PySem.W.fnOf x x (defArgs st) (defBody st) (defScope st) .none kV doc pm an cdv ct) ⟨us, []⟩ = pure (ps.zip us))
    (hbody : ∀ (f : Addr) (cdv : Value) (A : Around) (outer : List Env) (s : Shared) (H : Hp) (vs : List V) (Q : VK) (E : XK), Room k (A.deeper (envOfC x (defScope st) s.heap.objs.size f cdv)) → sp vs H Q E →
      ∃ t, PSs (cxOf CX0 P w K mg base N x (defScope st) f cdv A outer s H E).nox (defBody st) t ∧ t { nx := fun _ H' => Q .non H', rt := Q } (start N vs) H) : DefAt P w K mg base x st (k + 1) ps sp := by
  obtain ⟨f, fd, hm, F⟩ := F.ex
  exact ⟨f, fd, hm, F, F.ok S len (fun cdv A outer s H vs Q E hr h => hbody f cdv A outer s H vs Q E hr h), F.binds hb⟩
theorem MethAt.ok (F : MethAt K C m qual st) (S : FnScope N ps (defScope st)) (len : ∀ vs H Q E, sp vs H Q E → vs.length = ps.length)
    (hb : ∀ (kV doc pm : Value) (an : Option Addr) (cdv ct : Value) (us : List Value), us.length = ps.length → bindArgs (PySem.W.fnOf m qual (defArgs st) (defBody st) (defScope st) .none kV doc pm an cdv ct) ⟨us, []⟩ = pure (ps.zip us))
    (hbody : ∀ (f : Addr) (cdv : Value) (A : Around) (outer : List Env) (s : Shared) (H : Hp) (vs : List V) (Q : VK) (E : XK), Room k (A.deeper (envOfC qual (defScope st) s.heap.objs.size f cdv)) → sp vs H Q E →
      ∃ t, PSs (cxOf CX0 P w K mg base N qual (defScope st) f cdv A outer s H E).nox (defBody st) t ∧ t { nx := fun _ H' => Q .non H', rt := Q } (start N vs) H) : MDefAt P w K mg base C m qual st (k + 1) ps sp := by
  obtain ⟨f, fd, hm, F⟩ := F.ex
  exact ⟨f, fd, hm, F, F.ok S len (fun cdv A outer s H vs Q E hr h => hbody f cdv A outer s H vs Q E hr h), F.binds hb⟩
theorem PropAt.ok (F : PropAt K C m qual st) (S : FnScope N ["self"] (defScope st)) (len : ∀ vs H Q E, sp vs H Q E → vs.length = 1)
    (hb : ∀ (kV doc pm : Value) (an : Option Addr) (cdv ct : Value) (us : List Value), us.length = (["self"] : List Str).length → bindArgs (PySem.W.fnOf m qual (defArgs st) (defBody st) (defScope st) .none kV doc pm an cdv ct) ⟨us, []⟩ = pure ((["self"] : List Str).zip us))
    (hbody : ∀ (f : Addr) (cdv : Value) (A : Around) (outer : List Env) (s : Shared) (H : Hp) (vs : List V) (Q : VK) (E : XK), Room k (A.deeper (envOfC qual (defScope st) s.heap.objs.size f cdv)) → sp vs H Q E →
      ∃ t, PSs (cxOf CX0 P w K mg base N qual (defScope st) f cdv A outer s H E).nox (defBody st) t ∧ t { nx := fun _ H' => Q .non H', rt := Q } (start N vs) H) : PDefAt P w K mg base C m qual st (k + 1) sp := by
  obtain ⟨p, f, fd, hm, F⟩ := F.ex
  exact ⟨p, f, fd, hm, F, F.ok S len (fun cdv A outer s H vs Q E hr h => hbody f cdv A outer s H vs Q E hr h), F.binds hb⟩
end

section
variable {X : Cx} {x m qual : Str} {st : Stmt} {k n : Nat} {ps ks : List Str} {sp : Sp} {C : Addr} {e o : Expr} {es : List Expr} {kws : List Keyword} {t tk : TA} {ta : TE} {p pos apos : Pos}
theorem pe_callD (D : DefAt X.prog X.w X.K X.mg X.base x st k ps sp) (hr : Room k X.A) (ha : PA X (e :: es) t) (hg : Gl X x := by rfl)
    (hdb : (x == ("__debug__" : Str)) = false := by decide) (he : starEach (e :: es) X.env = (false, eval e X.env) :: starEach es X.env := by rfl) (hpl : (backTo pos (starEach es X.env)).any (·.1) = false := by rfl) :
    PE X (.Call (.Name x p) (e :: es) [] pos) (tCall sp [] E0 t) := by
  obtain ⟨f, fd, hm, F, G, b⟩ := D.ex
  exact pe_call G hr hg hm F.kp b .nil pass0 ha hdb he hpl
theorem pe_methD {pl : Sem Bool} (he : PE X o ta) (T : Cls X.K C) (D : MDefAt X.prog X.w X.K X.mg X.base C m qual st k ps sp) (hr : Room k X.A) (ha : PA X (e :: es) t)
    (hst : starEach (e :: es) X.env = (false, eval e X.env) :: starEach es X.env := by rfl) (hpl : (backTo pos (starEach es X.env)).any (·.1) = false := by rfl)
    (ht : eval (.Call (.Attribute o m apos) (e :: es) [] pos) X.env = (do
      let ov ← eval o X.env
      standAt apos.atName
      let (f, first) ← holding [ov] (getMethod ov m pl)
      callWith pos f first (backTo pos (starEach (e :: es) X.env)) (backToKw pos (keywordEach [] X.env))) := by rfl) :
    PE X (.Call (.Attribute o m apos) (e :: es) [] pos) (tMeth C m sp [] E0 ta t) := by
  obtain ⟨f, fd, hm, F, G, b⟩ := D.ex
  exact pe_meth he T hm G hr b .nil pass0 ha hst hpl ht
theorem pe_methD0 {pl : Sem Bool} (he : PE X o ta) (T : Cls X.K C) (D : MDefAt X.prog X.w X.K X.mg X.base C m qual st k ps sp) (hr : Room k X.A)
    (ht : eval (.Call (.Attribute o m apos) [] [] pos) X.env = (do
      let ov ← eval o X.env
      standAt apos.atName
      let (f, first) ← holding [ov] (getMethod ov m pl)
      callWith pos f first (backTo pos (starEach [] X.env)) (backToKw pos (keywordEach [] X.env))) := by rfl) :
    PE X (.Call (.Attribute o m apos) [] [] pos) (tMeth C m sp [] E0 ta tNil) := by
  obtain ⟨f, fd, hm, F, G, b⟩ := D.ex
  exact pe_meth0 he T hm G hr b .nil pass0 ht
theorem pe_makeD (T : ClsAt X.K X.mg x C) (D : MDefAt X.prog X.w X.K X.mg X.base C "__init__" qual st k ps sp) (hr : Room (k + 1) X.A) (ha : PA X (e :: es) t) (hg : Gl X x := by rfl)
    (hdb : (x == ("__debug__" : Str)) = false := by decide) (he : starEach (e :: es) X.env = (false, eval e X.env) :: starEach es X.env := by rfl) (hpl : (backTo pos (starEach es X.env)).any (·.1) = false := by rfl) :
    PE X (.Call (.Name x p) (e :: es) [] pos) (tMake C sp [] E0 t) := by
  obtain ⟨f, fd, hm, F, G, b⟩ := D.ex
  exact pe_make ⟨T.mks, hm.at_, hm.fn, T.kp⟩ G hr hg T.g b .nil pass0 ha hdb he hpl
theorem passE0 : Passes CX0 X E0 := fun _ _ _ _ _ _ _ h => h.elim
theorem pe_propD (he : PE X e ta) (c : Cls X.K C) (D : PDefAt X.prog X.w X.K X.mg X.base C m qual st k sp) (hr : Room (k + 1) X.A)
    (hab : attributeBase e m X.env (eval e X.env) = eval e X.env := by rfl) : PE X (.Attribute e m pos) (tProp C sp [] E0 ta) := by
  obtain ⟨pp, f, fd, hm, F, G, b⟩ := D.ex
  exact pe_prop he c hm G hr b .nil passE0 hab
theorem pe_gcls {u : Addr} (hm : X.mg x = some (.ref u)) (hg : Gl X x := by rfl) (hd : (x == ("__debug__" : Str)) = false := by decide) : PE X (.Name x pos) (tC (.ref u)) := pe_glob hg hm rfl hd
end

section
variable {X : Cx} {x : Str} {p : Pos}
theorem pe_gint {i : Int} (hm : ∃ t, X.mg x = some (.int i t)) (hg : Gl X x := by rfl) (hd : (x == ("__debug__" : Str)) = false := by decide) : PE X (.Name x p) (tC (.int i)) := by
  obtain ⟨t, hm⟩ := hm
  exact pe_glob hg hm ⟨t, rfl⟩ hd
theorem pe_gstr {i : Str} (hm : ∃ t, X.mg x = some (.str i t)) (hg : Gl X x := by rfl) (hd : (x == ("__debug__" : Str)) = false := by decide) : PE X (.Name x p) (tC (.str i)) := by
  obtain ⟨t, hm⟩ := hm
  exact pe_glob hg hm ⟨t, rfl⟩ hd
end
/-! ### readings by names -/
def rLen (K : PySem.W.Frag) : List V → Hp → VK → Prop := fun xs H Q => ∃ x n, xs = [x] ∧ LenV K x H n ∧ Q (.int n) H
theorem call_lenN {X : Cx} : CallR X (.builtin "len") (rLen X.K) := call_len
def rAbs : List V → Hp → VK → Prop := fun xs H Q => ∃ i, xs = [.int i] ∧ Q (.int (if i < 0 then -i else i)) H
theorem call_absN {X : Cx} : CallR X (.builtin "abs") rAbs := call_abs
def rMax2 : List V → Hp → VK → Prop := fun xs H Q => ∃ i j, xs = [.int i, .int j] ∧ Q (.int (if j > i then j else i)) H
theorem call_max2N {X : Cx} (hc : X.calm = true) : CallR X (.builtin "max") rMax2 := call_max2 hc
def rMin2 : List V → Hp → VK → Prop := fun xs H Q => ∃ i j, xs = [.int i, .int j] ∧ Q (.int (if j < i then j else i)) H
theorem call_min2N {X : Cx} (hc : X.calm = true) : CallR X (.builtin "min") rMin2 := call_min2 hc
def rInt1 : List V → Hp → VK → Prop := fun xs H Q => (∃ i, xs = [.int i] ∧ Q (.int i) H) ∨ ∃ k, xs = [.bl k] ∧ Q (.int (if k then 1 else 0)) H
theorem call_int1N {X : Cx} : CallR X (.type "int") rInt1 := call_int1
def rStrI : List V → Hp → VK → Prop := fun xs H Q => ∃ i, xs = [.int i] ∧ i.natAbs.log2 < 1920 ∧ Q (.str (toString i)) H
theorem call_strN {X : Cx} : CallR X (.type "str") rStrI := call_str_int
def rListOf (K : PySem.W.Frag) : List V → Hp → VK → Prop := fun xs H Q => ∃ p ys, xs = [.ref p] ∧ (SqL K H p ys ∨ SqT K H p ys) ∧ ∀ l, H l = none → Q (.ref l) (upd H l (.lst ys))
theorem call_listN {X : Cx} : CallR X (.type "list") (rListOf X.K) := call_list_of

/-! ### calls by keywords alone -/
def pick {α : Type} (ix : List Nat) (l : List α) : List α := ix.filterMap fun i => l[i]?
theorem pick_vals {zs : List V} {ws : List Value} (r : Vals zs ws) : ∀ ix : List Nat, Vals (pick ix zs) (pick ix ws)
  | [] => .nil
  | i :: ix => by
    have ih := pick_vals r ix
    unfold pick at ih ⊢
    rw [List.filterMap_cons, List.filterMap_cons]
    cases e : zs[i]? with
    | none =>
      rw [Vals.none_of r e]
      exact ih
    | some v =>
      obtain ⟨u, e', rv⟩ := Vals.get r e
      rw [e']
      exact .cons rv ih
/-- how a call binds keywords alone: parameter i takes the keyword at ix[i] -/
def KB0 (x qual : Str) (st : Stmt) (ps ks : List Str) (pre : Nat) (ix : List Nat) : Prop :=
  ∀ (kV doc pm : Value) (an : Option Addr) (cdv ct : Value) (us ws : List Value), us.length = pre → ws.length = ks.length → bindArgs (PySem.W.fnOf x qual (defArgs st) (defBody st) (defScope st) .none kV doc pm an cdv ct) ⟨us, ks.zip ws⟩ = pure (ps.zip (us ++ pick ix ws))
theorem KB0.kbn {K : PySem.W.Frag} {x qual : Str} {st : Stmt} {f : Addr} {fd : FuncData} {ps ks : List Str} {pre : Nat} {ix : List Nat} (B : KB0 x qual st ps ks pre ix) (F : Fun K x qual st f fd) : KBn K fd ps pre ks (fun us ws => us ++ pick ix ws) (fun vs zs => vs ++ pick ix zs) := by
  obtain ⟨oc, od, kV, doc, pm, an, cdv, ct, osl, rfl, lk, hcd⟩ := F.ex
  exact ⟨fun s us ws _ hu hw => .of_eq (B kV doc pm an cdv ct us ws hu hw), fun r1 r2 => r1.append (pick_vals r2 ix)⟩
def tCallK0 (n : Nat) (ix : List Nat) (sp : Sp) (tk : TA) : TE := fun σ H Q => tk σ H fun zs H2 => zs.length = n ∧ sp (pick ix zs) H2 Q E0
section
variable {X : Cx} {x m qual : Str} {st : Stmt} {k n : Nat} {ps ks : List Str} {sp : Sp} {C : Addr} {e o : Expr} {es : List Expr} {kws : List Keyword} {t tk : TA} {ta : TE} {p pos apos : Pos} {ix : List Nat}
theorem pe_callKD (D : DefAt X.prog X.w X.K X.mg X.base x st k ps sp) (hr : Room k X.A) (hkw : PK X kws tk) (B : KB0 x x st ps ks 0 ix) (hg : Gl X x := by rfl)
    (hall : (backToKw pos (keywordEach kws X.env)).all (·.1.isSome) = true := by rfl) (hks : (backToKw pos (keywordEach kws X.env)).filterMap (·.1) = ks := by rfl) (hdb : (x == ("__debug__" : Str)) = false := by decide)
    (hpl : ((backTo pos (starEach [] X.env)).any (·.1) || (backToKw pos (keywordEach kws X.env)).any (·.1.isNone)) = false := by rfl) :
    PE X (.Call (.Name x p) [] kws pos) (tCallK0 ks.length ix sp tk) := by
  obtain ⟨f, fd, hm, F, G, b⟩ := D.ex
  refine ⟨fun pins s σ H Q I h => ?_⟩
  refine wpAny_Call_Name_kw (ld_glob I hg hm ?_ hdb)
  refine PySem.W.callWith_KW0 (h₀ := X.base) I.ok.mod.kin F.kp hall ?_ hpl
  refine thn (hkw.run pos pins s σ H _ I h) fun ws s2 ⟨zs, H2, I2, rz, l2, q2⟩ => ⟨I2.kIn, ?_⟩
  rw [hks]
  exact run_fnN (us := []) (vs := []) G hr (B.kbn F) pass0 I2 .nil rz rfl l2 q2
/-- o.m(k = v, ..) -/
def tMethK0 (C : Addr) (m : Str) (n : Nat) (ix : List Nat) (sp : Sp) (ta : TE) (tk : TA) : TE := fun σ H Q => ta σ H fun x H1 => ∃ a dx fs, x = .ref a ∧ H1 a = some (.ins C dx fs) ∧ fs.lookup m = none ∧
  tk σ H1 fun zs H2 => zs.length = n ∧ sp (x :: pick ix zs) H2 Q E0
theorem pe_makeKD (T : ClsAt X.K X.mg x C) (D : MDefAt X.prog X.w X.K X.mg X.base C "__init__" qual st k ps sp) (hr : Room (k + 1) X.A) (hkw : PK X kws tk) (B : KB0 "__init__" qual st ps ks 1 ix) (hg : Gl X x := by rfl)
    (hall : (backToKw pos (keywordEach kws X.env)).all (·.1.isSome) = true := by rfl) (hks : (backToKw pos (keywordEach kws X.env)).filterMap (·.1) = ks := by rfl) (hdb : (x == ("__debug__" : Str)) = false := by decide)
    (hpl : ((backTo pos (starEach [] X.env)).any (·.1) || (backToKw pos (keywordEach kws X.env)).any (·.1.isNone)) = false := by rfl) :
    PE X (.Call (.Name x p) [] kws pos) (tMakeK C 0 ks.length sp (fun vs zs => vs ++ pick ix zs) E0 tNil tk) := by
  obtain ⟨f, fd, hm, F, G, b⟩ := D.ex
  exact pe_makeK0 (p := p) (pos := pos) ⟨T.mks, hm.at_, hm.fn, T.kp⟩ G hr hg T.g (B.kbn F) pass0 hkw hall hks hdb hpl
end

/-! ### what is kept -/
/-- all that was tracked is as it was, but the addresses of S -/
def Fr (S : List Addr) (H H' : Hp) : Prop := ∀ b o, b ∉ S → H b = some o → H' b = some o
section
variable {S S' : List Addr} {H H1 H2 H' : Hp} {a b p : Addr} {o u : HO} {K : PySem.W.Frag} {xs : List V}
theorem Fr.refl : Fr S H H := fun _ _ _ h => h
theorem Fr.trans (h : Fr S H H1) (h' : Fr S H1 H2) : Fr S H H2 := fun b o n e => h' b o n (h b o n e)
theorem Fr.mono (h : Fr S H H1) (hs : ∀ b ∈ S, b ∈ S') : Fr S' H H1 := fun b o n e => h b o (fun z => n (hs b z)) e
theorem Fr.nil (h : Fr [] H H1) : Fr S H H1 := h.mono fun b z => absurd z (by simp)
theorem Fr.then (h : Fr S H H1) (h' : Fr [] H1 H2) : Fr S H H2 := h.trans h'.nil
theorem Fr.new (h : Fr S H H1) (n : H1 p = none) : Fr S H (upd H1 p o) := fun b u z e => by
  rw [upd_ne (ne_of_none (h b u z e) n)]
  exact h b u z e
/-- an object that was made behind H, or one of S, may change -/
theorem Fr.put (h : Fr S H H1) (n : H p = none ∨ p ∈ S) : Fr S H (upd H1 p o) := fun b u z e => by
  have hb : b ≠ p := by
    intro q
    subst q
    rcases n with n | n
    · rw [n] at e
      cases e
    · exact z n
  rw [upd_ne hb]
  exact h b u z e
theorem Fr.at (h : Fr S H H') (n : b ∉ S) (e : H b = some o) : H' b = some o := h b o n e
theorem Fr.at0 (h : Fr [] H H') (e : H b = some o) : H' b = some o := h b o (by simp) e
theorem Fr.rd (h : Fr S H H') (n : b ∉ S) (e : Rd H b o) : Rd H' b o := by
  rcases e with e | ⟨x, e⟩
  · exact .inl (h b _ n e)
  · exact .inr ⟨x, h b _ n e⟩
theorem Fr.seqL (h : Fr S H H') (n : b ∉ S) (e : SqL K H b xs) : SqL K H' b xs := by
  rcases e with e | e
  · exact .inl (h.rd n e)
  · exact .inr e
theorem Fr.free (h : Fr S H H') (n : p ∉ S) (e : H' p = none) : H p = none := by
  cases q : H p with
  | none => rfl
  | some o =>
    rw [h p o n q] at e
    cases e
/-- what changes one object that was made behind H -/
theorem Fr.loc (h : Fr S H H1) (n : H p = none) (h' : Fr [p] H1 H2) : Fr S H H2 := fun b o z e => by
  refine h' b o ?_ (h b o z e)
  intro q
  rw [List.mem_singleton.mp q, n] at e
  cases e
theorem same_fr (h : Same H H') : Fr S H H' := fun b o _ e => h b o e
theorem Fr.same (h : Fr [] H H') : Same H H' := fun b o e => h b o (by simp) e
theorem at_upd (h : H a = some o) (n : H p = none) : upd H p u a = some o := by
  rw [upd_ne (ne_of_none h n)]
  exact h
theorem at_make {dx : Addr} {v : HO} (h : H a = some o) (n1 : H dx = none) (n2 : H p = none) : upd (upd H dx u) p v a = some o := by
  rw [upd_ne (ne_of_none h n2), upd_ne (ne_of_none h n1)]
  exact h
theorem Fr.make {dx : Addr} {v : HO} (h : Fr S H H1) (n1 : H1 dx = none) (n2 : H1 p = none) : Fr S H (upd (upd H1 dx u) p v) := fun b w z e => at_make (h b w z e) n1 n2
theorem hx_of {v : HO} (h : H a = some o) (e : o = v) : H a = some v := e ▸ h
theorem nn2 (h1 : b ≠ a) : b ∉ [a] := by simpa using h1
end

/-! ### kinds of objects differ -/
theorem ho_lst_tup {v1 : List V} {v2 : List V} : ((.lst v1) : HO) ≠ (.tup v2) := fun z => nomatch z
theorem ho_lst_own {v1 : List V} {v2 : Addr} : ((.lst v1) : HO) ≠ (.own v2) := fun z => nomatch z
theorem ho_lst_xd {v1 : List V} {v2 : List (Str × V)} : ((.lst v1) : HO) ≠ (.xd v2) := fun z => nomatch z
theorem ho_lst_dK {v1 : List V} {v2 : List (Key × V)} : ((.lst v1) : HO) ≠ (.dK v2) := fun z => nomatch z
theorem ho_lst_ins {v1 : List V} {C2 dx2 : Addr} {fs2 : List (Str × V)} : ((.lst v1) : HO) ≠ (.ins C2 dx2 fs2) := fun z => nomatch z
theorem ho_tup_lst {v1 : List V} {v2 : List V} : ((.tup v1) : HO) ≠ (.lst v2) := fun z => nomatch z
theorem ho_tup_own {v1 : List V} {v2 : Addr} : ((.tup v1) : HO) ≠ (.own v2) := fun z => nomatch z
theorem ho_tup_xd {v1 : List V} {v2 : List (Str × V)} : ((.tup v1) : HO) ≠ (.xd v2) := fun z => nomatch z
theorem ho_tup_dK {v1 : List V} {v2 : List (Key × V)} : ((.tup v1) : HO) ≠ (.dK v2) := fun z => nomatch z
theorem ho_tup_ins {v1 : List V} {C2 dx2 : Addr} {fs2 : List (Str × V)} : ((.tup v1) : HO) ≠ (.ins C2 dx2 fs2) := fun z => nomatch z
theorem ho_own_lst {v1 : Addr} {v2 : List V} : ((.own v1) : HO) ≠ (.lst v2) := fun z => nomatch z
theorem ho_own_tup {v1 : Addr} {v2 : List V} : ((.own v1) : HO) ≠ (.tup v2) := fun z => nomatch z
theorem ho_own_xd {v1 : Addr} {v2 : List (Str × V)} : ((.own v1) : HO) ≠ (.xd v2) := fun z => nomatch z
theorem ho_own_dK {v1 : Addr} {v2 : List (Key × V)} : ((.own v1) : HO) ≠ (.dK v2) := fun z => nomatch z
theorem ho_own_ins {v1 : Addr} {C2 dx2 : Addr} {fs2 : List (Str × V)} : ((.own v1) : HO) ≠ (.ins C2 dx2 fs2) := fun z => nomatch z
theorem ho_xd_lst {v1 : List (Str × V)} {v2 : List V} : ((.xd v1) : HO) ≠ (.lst v2) := fun z => nomatch z
theorem ho_xd_tup {v1 : List (Str × V)} {v2 : List V} : ((.xd v1) : HO) ≠ (.tup v2) := fun z => nomatch z
theorem ho_xd_own {v1 : List (Str × V)} {v2 : Addr} : ((.xd v1) : HO) ≠ (.own v2) := fun z => nomatch z
theorem ho_xd_dK {v1 : List (Str × V)} {v2 : List (Key × V)} : ((.xd v1) : HO) ≠ (.dK v2) := fun z => nomatch z
theorem ho_xd_ins {v1 : List (Str × V)} {C2 dx2 : Addr} {fs2 : List (Str × V)} : ((.xd v1) : HO) ≠ (.ins C2 dx2 fs2) := fun z => nomatch z
theorem ho_dK_lst {v1 : List (Key × V)} {v2 : List V} : ((.dK v1) : HO) ≠ (.lst v2) := fun z => nomatch z
theorem ho_dK_tup {v1 : List (Key × V)} {v2 : List V} : ((.dK v1) : HO) ≠ (.tup v2) := fun z => nomatch z
theorem ho_dK_own {v1 : List (Key × V)} {v2 : Addr} : ((.dK v1) : HO) ≠ (.own v2) := fun z => nomatch z
theorem ho_dK_xd {v1 : List (Key × V)} {v2 : List (Str × V)} : ((.dK v1) : HO) ≠ (.xd v2) := fun z => nomatch z
theorem ho_dK_ins {v1 : List (Key × V)} {C2 dx2 : Addr} {fs2 : List (Str × V)} : ((.dK v1) : HO) ≠ (.ins C2 dx2 fs2) := fun z => nomatch z
theorem ho_ins_lst {C1 dx1 : Addr} {fs1 : List (Str × V)} {v2 : List V} : ((.ins C1 dx1 fs1) : HO) ≠ (.lst v2) := fun z => nomatch z
theorem ho_ins_tup {C1 dx1 : Addr} {fs1 : List (Str × V)} {v2 : List V} : ((.ins C1 dx1 fs1) : HO) ≠ (.tup v2) := fun z => nomatch z
theorem ho_ins_own {C1 dx1 : Addr} {fs1 : List (Str × V)} {v2 : Addr} : ((.ins C1 dx1 fs1) : HO) ≠ (.own v2) := fun z => nomatch z
theorem ho_ins_xd {C1 dx1 : Addr} {fs1 : List (Str × V)} {v2 : List (Str × V)} : ((.ins C1 dx1 fs1) : HO) ≠ (.xd v2) := fun z => nomatch z
theorem ho_ins_dK {C1 dx1 : Addr} {fs1 : List (Str × V)} {v2 : List (Key × V)} : ((.ins C1 dx1 fs1) : HO) ≠ (.dK v2) := fun z => nomatch z
/-! ### len(set(ints)) -/
/-- the different ints of a list -/
def distinct (ns : List Int) : List Int := PyProof.Rows.firstMet (fun i => ns.getD i 0) ns.length
theorem firstMet_mem (f : Nat → Int) : ∀ (i : Nat) (x : Int), x ∈ PyProof.Rows.firstMet f i ↔ ∃ j, j < i ∧ f j = x
  | 0, x => by simp [PyProof.Rows.firstMet_zero]
  | i + 1, x => by
    rw [PyProof.Rows.firstMet_succ]
    have ih := firstMet_mem f i
    unfold PyProof.Rows.step_dedup
    split
    · rename_i h
      obtain ⟨y, hy, e⟩ := List.any_eq_true.mp h
      have e := eq_of_beq e
      subst e
      rw [ih]
      constructor
      · rintro ⟨j, h1, h2⟩
        exact ⟨j, by omega, h2⟩
      · rintro ⟨j, h1, h2⟩
        by_cases hj : j < i
        · exact ⟨j, hj, h2⟩
        · have : j = i := by omega
          subst this
          rw [← h2]
          exact (ih _).mp hy
    · rw [List.mem_append, ih, List.mem_singleton]
      constructor
      · rintro (⟨j, h1, h2⟩ | h)
        · exact ⟨j, by omega, h2⟩
        · exact ⟨i, by omega, h.symm⟩
      · rintro ⟨j, h1, h2⟩
        by_cases hj : j < i
        · exact .inl ⟨j, hj, h2⟩
        · have : j = i := by omega
          subst this
          exact .inr h2.symm
theorem distinct_mem {ns : List Int} {x : Int} : x ∈ distinct ns ↔ x ∈ ns := by
  unfold distinct
  rw [firstMet_mem]
  constructor
  · rintro ⟨j, h1, h2⟩
    rw [List.getD_eq_getElem?_getD, List.getElem?_eq_getElem h1] at h2
    have h2 : ns[j] = x := h2
    rw [← h2]
    exact List.getElem_mem h1
  · intro h
    obtain ⟨j, h1, h2⟩ := List.getElem_of_mem h
    refine ⟨j, h1, ?_⟩
    rw [List.getD_eq_getElem?_getD, List.getElem?_eq_getElem h1]
    exact h2
theorem distinct_le (ns : List Int) : (distinct ns).length ≤ ns.length := PyProof.Rows.firstMet_length_le _ _
/-- a list without repetition within another one is no longer -/
theorem nodup_le : ∀ {ds ns : List Int}, ds.Nodup → (∀ x ∈ ds, x ∈ ns) → ds.length ≤ ns.length
  | [], _, _, _ => Nat.zero_le _
  | d :: ds, ns, h, hs => by
    obtain ⟨h1, h2⟩ := List.nodup_cons.mp h
    have hd : d ∈ ns := hs d List.mem_cons_self
    have ih := nodup_le (ds := ds) (ns := ns.erase d) h2 fun x hx => by
      have hne : x ≠ d := fun e => h1 (e ▸ hx)
      exact (List.mem_erase_of_ne hne).mpr (hs x (List.mem_cons_of_mem _ hx))
    have e := List.length_erase_of_mem hd
    have pos : 0 < ns.length := List.length_pos_of_mem hd
    simp only [List.length_cons]
    omega
def tLenSetJ (K : PySem.W.Frag) (ta : TE) : TE := fun σ H Q => ta σ H fun x H1 => ∃ (l : Addr) (ns : List Int), x = .ref l ∧ SqL K H1 l (ns.map V.int) ∧ ns.length ≤ 4000 ∧ Q (.int ((distinct ns).length : Nat)) H1
theorem pe_lenSetJ {X : Cx} {a : Expr} {ta : TE} {p p2 q pos : Pos} (hg : Gl X "len") (hm : X.mg "len" = none) (hg2 : Gl X "set") (hm2 : X.mg "set" = none) (ha : PE X a ta) (hc : X.calm = true := by rfl)
    (na : starEach [a] X.env = (false, eval a X.env) :: starEach [] X.env := by rfl) : PE X (.Call (.Name "len" p) [.Call (.Name "set" p2) [a] [] q] [] pos) (tLenSetJ X.K ta) := by
  refine ⟨fun pins s σ H Q I h => ?_⟩
  refine Call_ (ld_blt I hg hm boot_len ?_)
  refine PyProof.Rows.callWith_builtin1 (PyProof.Rows.args_cons ?_ rfl) rfl rfl
  refine Call_ (ld_blt I hg2 hm2 boot_set ?_)
  refine PyProof.Rows.callWith_type1 (PyProof.Rows.args_cons (thn (ha.run pins s σ H _ I h) fun v s1 ⟨x, H1, I1, r1, q1⟩ => PyProof.Rows.args_nil ?_) na) na rfl
  obtain ⟨l, ns, rfl, hq, hl, q1⟩ := q1
  cases r1
  obtain ⟨its, r, pl, hz⟩ := I1.list hq
  have hlen : its.toArray.size = ns.length := by rw [List.size_toArray, ← r.length, List.length_map]
  refine call_set_list (I1.ok.hd hc) pl.isList (by simpa using RZ.intsAre_vals r) (by rw [hlen]; unfold scanBound; omega) fun h' tk hS hk => ?_
  refine PyProof.Rows.args_nil ?_
  rw [hlen] at hS
  have hlt : (PyProof.Rows.firstMet (fun i => ns.getD i 0) ns.length).length ≤ ns.length := PyProof.Rows.firstMet_length_le _ _
  obtain ⟨o, es, ep, t, ho, hex, hd, _, _, _, hf, hn⟩ := hS
  have I2 : Inv X pins σ H1 { s1 with heap := h', toks := tk } := I1.kept fun b o e => hk b o (Heap.lt_size e) e
  exact call_len_set ho hex hd hf (by rw [hn] <;> omega) ⟨.int (distinct ns).length, H1, I2.tok _, ⟨_, by rw [hn]; rfl⟩, q1⟩
/-! ### the same rules at a named part K -/
section
variable {X : Cx} {K : PySem.W.Frag}
theorem kc_call {r : PySem.W.Frag → List V → Hp → VK → Prop} {v : Value} (h : CallR X v (r X.K)) (e : X.K = K) : CallR X v (r K) := e ▸ h
theorem kc_mt {r : PySem.W.Frag → V → List V → Hp → VK → Prop} {id : String} (h : MtR X id (r X.K)) (e : X.K = K) : MtR X id (r K) := e ▸ h
theorem kc_op {r : PySem.W.Frag → R2} {f : Value → Value → Sem Value} (h : OpR X f (r X.K)) (e : X.K = K) : OpR X f (r K) := e ▸ h
theorem kc_ix {r : PySem.W.Frag → R2} (h : IxR X (r X.K)) (e : X.K = K) : IxR X (r K) := e ▸ h
theorem kc_sl {r : PySem.W.Frag → V → Option Int → Option Int → Hp → VK → Prop} (h : SlR X (r X.K)) (e : X.K = K) : SlR X (r K) := e ▸ h
theorem kc_bm {e : Expr} {T : String} {r : V → List V → Hp → VK → Prop} {to : TE} {t : TA} (h : PE X e (tBM X.K T r to t)) (q : X.K = K) : PE X e (tBM K T r to t) := q ▸ h
theorem kc_bm0 {e : Expr} {T : String} {r : V → List V → Hp → VK → Prop} {to : TE} (h : PE X e (tBM0 X.K T r to)) (q : X.K = K) : PE X e (tBM0 K T r to) := q ▸ h
end
/-! ### slices with a step -/
def pickSl {α : Type} (xs : List α) (lo st : Option Int) : List α := (sliceRange (sliceBounds lo none st xs.length).1 (sliceBounds lo none st xs.length).2.1 (sliceBounds lo none st xs.length).2.2).filterMap fun i => xs[i]?
def tSlStep (K : PySem.W.Frag) (te : TE) (tl ts : TO) : TE := fun σ H Q => te σ H fun x H1 => tl σ H1 fun lo H2 => ts σ H2 fun st H3 => ∃ a xs, x = .ref a ∧ SqL K H3 a xs ∧ st ≠ some 0 ∧ (pickSl xs lo st).length ≤ sizeLine ∧ ∀ p, H3 p = none → Q (.ref p) (upd H3 p (.lst (pickSl xs lo st)))
theorem pe_slStep {X : Cx} {e st : Expr} {te : TE} {lo : Option Expr} {tl ts : TO} {p2 pos : Pos} (he : PE X e te) (hl : PO X lo tl) (hs : PO X (some st) ts) : PE X (.Subscript e (.Slice lo none (some st) p2) pos) (tSlStep X.K te tl ts) := by
  refine ⟨fun pins s σ H Q I h => ?_⟩
  refine Subscript_ (thn (he.run pins s σ H _ I h) fun v s1 ⟨x, H1, I1, r1, q1⟩ => ?_)
  refine wpAny_Slice (thn (hl.run pins s1 σ H1 _ I1 q1) fun vl s2 ⟨l, H2, I2, pl, q2⟩ => ?_)
  refine thn (po_none.run pins s2 σ H2 (fun o H3 => o = none ∧ H3 = H2) I2 ⟨rfl, rfl⟩) fun vu s3 ⟨u, H3, I3, pu, eu, e3⟩ => ?_
  subst eu e3
  refine thn (hs.run pins s3 σ H3 _ I3 q2) fun vs s4 ⟨o, H4, I4, ps, a, xs, ex, hx, h0, hz2, q4⟩ => ?_
  subst ex
  cases r1
  have I5 : Inv X pins σ H4 { s4 with heap := s4.heap.push { cls := .type "slice", data := .fields #[vl, vu, vs] } } := I4.kept (t' := s4.toks) fun b ob q => Heap.get?_push_of_some _ q
  obtain ⟨its, r, ht, hz⟩ := I5.list hx
  have hlen := r.length
  refine tail_any (ops := [.ref a, .ref s4.heap.objs.size]) ht.isList.typeIs (PySem.slot_list_getitem.lookup) ?_ (by with_unfolding_all rfl)
  refine wpAny_getItem_list_slice ht.isList (Heap.IsSliceOf.new _ vl vu vs) pl pu ps h0 ?_ (by rw [List.size_toArray]; omega)
  have hp : slicePick its.toArray l none o = (pickSl its l o).toArray := by
    unfold slicePick pickSl
    simp
  have rv : Vals (pickSl xs l o) (pickSl its l o) := by
    unfold pickSl
    rw [hlen]
    exact pick_vals r _
  rw [hp]
  refine ⟨.ref _, _, I5.laid (t' := s4.toks) (o := .lst (pickSl xs l o)) (fun b ob q => Heap.get?_push_of_some _ q) (Nat.le_refl _) ?_, rfl, q4 _ (I5.hok.fresh (Nat.le_refl _))⟩
  exact ⟨hz2, _, 0, rv, Heap.get?_push_size _ rfl⟩
end Pg

namespace Pg
open PySem PySem.Spec PyProof.Rows L2
theorem szle {n : Nat} (h : Nat.ble n 16777216 = true) : n ≤ sizeLine := by
  rw [sizeLine_eq]
  exact Nat.le_of_ble_eq_true h
theorem szle' {n : Nat} (h : n ≤ 16777216) : n ≤ sizeLine := by
  rw [sizeLine_eq]
  exact h
theorem szlt {n : Nat} (h : n < 16777216) : n < sizeLine := by
  rw [sizeLine_eq]
  exact h
def ParE (i j : Nat) (R : L2.St → Hp → Prop) (σ : L2.St) : List V → Hp → Prop := fun vs H1 => ∃ v w, vs = [v, w] ∧ R ((σ.set i (some v)).set j (some w)) H1
theorem perm_sum {ns ms : List Int} (h : ns.Perm ms) : ns.sum = ms.sum := by
  induction h with
  | nil => rfl
  | cons x _ ih => simp [ih]
  | swap x y l => simp; omega
  | trans _ _ h1 h2 => exact h1.trans h2
/-- a wish, wrapped, so that nothing else takes it -/
structure Wr (R : Prop) : Prop where
  r : R
/-- fields of instances -/
def FldP (K : PySem.W.Frag) (f : Str) (y : V) (R : Hp → Prop) : V → Hp → Prop := fun x H2 => ∃ a C dx fs, x = .ref a ∧ H2 a = some (.ins C dx fs) ∧ Cls K C ∧ NoAttr K C f ∧ fs.length < 1000 ∧ R (upd H2 a (.ins C dx (putF f y fs)))
def FldG (K : PySem.W.Frag) (f : Str) (Q : VK) : V → Hp → Prop := fun x H1 => ∃ a C dx fs v, x = .ref a ∧ H1 a = some (.ins C dx fs) ∧ Cls K C ∧ NoAttr K C f ∧ fs.lookup f = some v ∧ Q v H1
def FldQ (C a : Addr) (f : Str) (z : V) (R : Hp → Prop) : Hp → Prop := fun H3 => ∃ dx' fs', H3 a = some (.ins C dx' fs') ∧ fs'.length < 1000 ∧ R (upd H3 a (.ins C dx' (putF f z fs')))
def FldA (K : PySem.W.Frag) (tv : TE) (rd : V → V → Hp → VK → Prop) (f : Str) (R : Hp → Prop) (σ : L2.St) : V → Hp → Prop := fun x H1 => ∃ a C dx fs v, x = .ref a ∧ H1 a = some (.ins C dx fs) ∧ Cls K C ∧ NoAttr K C f ∧ fs.lookup f = some v ∧
  tv σ H1 fun y H2 => rd v y H2 fun z H3 => FldQ C a f z R H3
def MethE (C : Addr) (m : Str) (sp : Sp) (dvs : List V) (E : XK) (t : TA) (σ : L2.St) (Q : VK) : V → Hp → Prop := fun x H1 => ∃ a dx fs, x = .ref a ∧ H1 a = some (.ins C dx fs) ∧ fs.lookup m = none ∧ t σ H1 fun vs H2 => sp (x :: (vs ++ dvs)) H2 Q E
def PropE (C : Addr) (sp : Sp) (dvs : List V) (E : XK) (Q : VK) : V → Hp → Prop := fun x H1 => ∃ a dx fs, x = .ref a ∧ H1 a = some (.ins C dx fs) ∧ sp (.ref a :: dvs) H1 Q E
theorem putF_eq {f : Str} {v x : V} {r : List (Str × V)} : putF f v ((f, x) :: r) = (f, v) :: r := by
  show (if f = f then _ else _) = _
  rw [if_pos rfl]
theorem putF_ne {f g : Str} {v x : V} {r : List (Str × V)} (h : ¬ g = f) : putF f v ((g, x) :: r) = (g, x) :: putF f v r := by
  show (if g = f then _ else _) = _
  rw [if_neg h]
theorem lk_eq {f : Str} {v : V} {r : List (Str × V)} : List.lookup f ((f, v) :: r) = some v := by simp [List.lookup]
theorem lk_ne {f g : Str} {v : V} {r : List (Str × V)} (h : ¬ f = g) : List.lookup f ((g, v) :: r) = List.lookup f r := by
  have e : (f == g) = false := by simpa using h
  simp [List.lookup, e]
/-- a method's receiver is of the type, and the rest -/
def TyAnd (K : PySem.W.Frag) (T : String) (x : V) (H : Hp) (R : Prop) : Prop := tyV K T x H ∧ R
section
variable {K : PySem.W.Frag} {σ : L2.St} {H H' : Hp} {D : Ends} {i : Nat} {x y v : V} {Q : VK} {ta tb te : TE} {c t u : TT} {t1 t2 ts : TS} {r : R2} {g : TG} {tA tr : TA} {R : List V → Hp → Prop} {a p C dx : Addr} {xs : List V} {f : Str} {fs : List (Str × V)} {m n : Int} {B : Bool → Hp → Prop}
/-! statements -/
theorem w_share {R A : Prop} (h1 : Wr R → A) (h2 : R) : A := h1 ⟨h2⟩
theorem w_start {N : List Str} {vs : List V} {σ' : L2.St} (e : L2.start N vs = σ') (h : ts D σ' H) : ts D (L2.start N vs) H := e ▸ h
theorem w_seq (h : t1 { D with nx := t2 D } σ H) : tSeq t1 t2 D σ H := h
theorem w_next (h : D.nx σ H) : tNext D σ H := h
theorem w_asg (h : te σ H fun x H1 => g x σ H1 D.nx) : tAsg te g D σ H := h
theorem w_gname {Q : L2.St → Hp → Prop} (h : Q (σ.set i (some v)) H) : gName i v σ H Q := h
theorem w_ret (h : te σ H D.rt) : tRet te D σ H := h
theorem w_retN (h : D.rt .non H) : tRetN D σ H := h
theorem w_drop (h : te σ H fun _ H1 => D.nx σ H1) : tDrop te D σ H := h
theorem w_ifS (h : c σ H fun b H1 => if b = true then t1 D σ H1 else t2 D σ H1) : tIfS c t1 t2 D σ H := h
theorem w_par {j : Nat} (h : tA σ H (ParE i j (D.nx) σ)) : tPar i j tA D σ H := h
theorem w_parE {j : Nat} {R : L2.St → Hp → Prop} (q : R ((σ.set i (some x)).set j (some y)) H) : ParE i j R σ [x, y] H := ⟨x, y, rfl, q⟩
theorem w_aug {ti : TIp} (e : σ[i]? = some (some x)) (h : te σ H fun y H1 => ti x y H1 fun z H2 => D.nx (σ.set i (some z)) H2) : tAug i te ti D σ H := ⟨x, e, h⟩
theorem w_ipI {f : Int → Int → Int} (h : Q (.int (f m n)) H) : ipI f (.int m) (.int n) H Q := ⟨m, n, rfl, rfl, h⟩
theorem w_fld (h : te σ H fun y H1 => ta σ H1 (FldP K f y (D.nx σ))) : sFld K ta te f D σ H := h
theorem w_fldP {R : Hp → Prop} {fs' : List (Str × V)} (h : H a = some (.ins C dx fs)) (c : Cls K C) (n : NoAttr K C f) (hl : fs.length < 1000) (e : putF f y fs = fs') (q : R (upd H a (.ins C dx fs'))) : FldP K f y R (.ref a) H := ⟨a, C, dx, fs, rfl, h, c, n, hl, by rw [e]; exact q⟩
theorem w_fldaug {rd : V → V → Hp → VK → Prop} (h : ta σ H fun x H1 => FldA K te rd f (D.nx σ) σ x H1) : sFldAug K ta te rd f D σ H := h
theorem w_fldA {rd : V → V → Hp → VK → Prop} {R : Hp → Prop} (h : H a = some (.ins C dx fs)) (c : Cls K C) (n : NoAttr K C f) (e : fs.lookup f = some v) (q : te σ H fun y H2 => rd v y H2 fun z H3 => FldQ C a f z R H3) : FldA K te rd f R σ (.ref a) H := ⟨a, C, dx, fs, v, rfl, h, c, n, e, q⟩
theorem w_fldQ {R : Hp → Prop} {fs' : List (Str × V)} {z : V} (h : H a = some (.ins C dx fs)) (hl : fs.length < 1000) (e : putF f z fs = fs') (q : R (upd H a (.ins C dx fs'))) : FldQ C a f z R H := ⟨dx, fs, h, hl, by rw [e]; exact q⟩
theorem w_rAdd (q : Q (.int (m + n)) H) : L2.rAdd (.int m) (.int n) H Q := ⟨m, n, rfl, rfl, q⟩
theorem w_rSub (q : Q (.int (m - n)) H) : L2.rSub (.int m) (.int n) H Q := ⟨m, n, rfl, rfl, q⟩
/-! expressions -/
theorem w_var (e : σ[i]? = some (some v)) (h : Q v H) : tVar i σ H Q := ⟨v, e, h⟩
theorem w_c (h : Q v H) : tC v σ H Q := h
theorem w_op (h : ta σ H fun x H1 => tb σ H1 fun y H2 => r x y H2 Q) : tOp r ta tb σ H Q := h
theorem w_un {r : V → Hp → VK → Prop} (h : ta σ H fun x H1 => r x H1 Q) : tUn r ta σ H Q := h
theorem w_I0 {g : Int → Int → V} (h : Q (g m n) H) : rI0 g (.int m) (.int n) H Q := ⟨m, n, rfl, rfl, h⟩
theorem w_I {P : Int → Int → Prop} {g : Int → Int → V} (c : P m n) (h : Q (g m n) H) : rI P g (.int m) (.int n) H Q := ⟨m, n, rfl, rfl, c, h⟩
theorem w_powW (c : CPowW m n) (h : Q (.int (m ^ n.toNat)) H) : rI CPowW (fun i j => .int (i ^ j.toNat)) (.int m) (.int n) H Q := ⟨m, n, rfl, rfl, c, h⟩
theorem w_U {g : Int → V} (h : Q (g m) H) : rU g (.int m) H Q := ⟨m, rfl, h⟩
theorem w_eq (c : scal x y = true) (h : Q (.bl (decide (x = y))) H) : rEq x y H Q := ⟨c, h⟩
theorem w_eqI (h : Q (.bl (decide (m = n))) H) : rEq (.int m) (.int n) H Q := ⟨rfl, by
  have e : decide (V.int m = V.int n) = decide (m = n) := by
    by_cases z : m = n
    · subst z
      rw [decide_eq_true rfl, decide_eq_true rfl]
    · rw [decide_eq_false z, decide_eq_false fun q => z (V.int.inj q)]
  rw [e]
  exact h⟩
theorem w_neI (h : Q (.bl (!decide (m = n))) H) : rNe (.int m) (.int n) H Q := ⟨rfl, by
  have e : decide (V.int m = V.int n) = decide (m = n) := by
    by_cases z : m = n
    · subst z
      rw [decide_eq_true rfl, decide_eq_true rfl]
    · rw [decide_eq_false z, decide_eq_false fun q => z (V.int.inj q)]
  rw [e]
  exact h⟩
theorem w_ne (c : scal x y = true) (h : Q (.bl (!decide (x = y))) H) : rNe x y H Q := ⟨c, h⟩
theorem w_ixL (h : SqL K H p xs) (ha : atI xs m = some v) (q : Q v H) : rIxL K (.ref p) (.int m) H Q := ⟨p, xs, m, v, rfl, rfl, h, ha, q⟩
theorem w_ixT (h : SqT K H p xs) (ha : atI xs m = some v) (q : Q v H) : rIxT K (.ref p) (.int m) H Q := ⟨p, xs, m, v, rfl, rfl, h, ha, q⟩
theorem w_sub {to ti : TE} {tq : TSet} {Q : L2.St → Hp → Prop} (h : to σ H fun o H1 => ti σ H1 fun i H2 => tq o i v H2 fun H3 => Q σ H3) : gSub to ti tq v σ H Q := h
theorem w_setL {j : Nat} {Q : Hp → Prop} (h : H p = some (.lst xs)) (e : ixN xs.length m = some j) (q : Q (upd H p (.lst (xs.set j v)))) : rSetL (.ref p) (.int m) v H Q := ⟨p, xs, m, j, rfl, rfl, h, e, q⟩
theorem w_nil (h : R [] H) : tNil σ H R := h
theorem w_cons (h : te σ H fun x H1 => tr σ H1 fun xs H2 => R (x :: xs) H2) : tCons te tr σ H R := h
theorem w_call {sp : Sp} {dvs : List V} {E : XK} (h : tA σ H fun vs H1 => sp (vs ++ dvs) H1 Q E) : tCall sp dvs E tA σ H Q := h
theorem w_CB {r : List V → Hp → VK → Prop} (h : tA σ H fun vs H1 => r vs H1 Q) : tCB r tA σ H Q := h
theorem w_lst (h : tA σ H fun xs H1 => xs.length ≤ sizeLine ∧ ∀ p, H1 p = none → Q (.ref p) (upd H1 p (.lst xs))) : tLst tA σ H Q := h
theorem w_tup (h : tA σ H fun xs H1 => xs.length ≤ sizeLine ∧ ∀ p, H1 p = none → Q (.ref p) (upd H1 p (.tup xs))) : tTup tA σ H Q := h
theorem w_tfld (h : ta σ H (FldG K f Q)) : tFld K ta f σ H Q := h
theorem w_fldG (h : H a = some (.ins C dx fs)) (c : Cls K C) (n : NoAttr K C f) (e : fs.lookup f = some v) (q : Q v H) : FldG K f Q (.ref a) H := ⟨a, C, dx, fs, v, rfl, h, c, n, e, q⟩
theorem w_meth {sp : Sp} {dvs : List V} {E : XK} (h : ta σ H (MethE C f sp dvs E tA σ Q)) : tMeth C f sp dvs E ta tA σ H Q := h
theorem w_methE {sp : Sp} {dvs : List V} {E : XK} (h : H a = some (.ins C dx fs)) (e : fs.lookup f = none) (q : tA σ H fun vs H2 => sp (.ref a :: (vs ++ dvs)) H2 Q E) : MethE C f sp dvs E tA σ Q (.ref a) H := ⟨a, dx, fs, rfl, h, e, q⟩
theorem w_prop {sp : Sp} {dvs : List V} {E : XK} (h : ta σ H (PropE C sp dvs E Q)) : tProp C sp dvs E ta σ H Q := h
theorem w_propE {sp : Sp} {dvs : List V} {E : XK} (h : H a = some (.ins C dx fs)) (q : sp (.ref a :: dvs) H Q E) : PropE C sp dvs E Q (.ref a) H := ⟨a, dx, fs, rfl, h, q⟩
theorem w_make {sp : Sp} {dvs : List V} {E : XK} (h : tA σ H fun vs H1 => ∀ x dx, H1 x = none → H1 dx = none → dx ≠ x → sp (.ref x :: (vs ++ dvs)) (upd (upd H1 dx (.own x)) x (.ins C dx [])) (fun v H2 => v = .non ∧ Q (.ref x) H2) E) : tMake C sp dvs E tA σ H Q := h
theorem w_if (h : c σ H fun b H1 => if b = true then ta σ H1 Q else tb σ H1 Q) : tIf c ta tb σ H Q := h
theorem w_bm {T : String} {r : V → List V → Hp → VK → Prop} (h : ta σ H fun x H1 => TyAnd K T x H1 (tA σ H1 fun xs H2 => r x xs H2 Q)) : tBM K T r ta tA σ H Q := h
theorem w_bm0 {T : String} {r : V → List V → Hp → VK → Prop} (h : ta σ H fun x H1 => TyAnd K T x H1 (r x [] H1 Q)) : tBM0 K T r ta σ H Q := h
theorem w_chain {r r' : R2} {tc : TE} (h : ta σ H fun x H1 => tb σ H1 fun y H2 => r x y H2 fun z H3 => ∃ k, z = .bl k ∧ (if k = true then tc σ H3 fun w' H4 => r' y w' H4 Q else Q (.bl false) H3)) : tChain r r' ta tb tc σ H Q := h
/-! tests -/
theorem w_test (h : te σ H fun x H' => ∃ k, x = .bl k ∧ B k H') : tTest te σ H B := h
theorem w_tB (h : te σ H fun x H' => ∃ k, x = .bl k ∧ B k H') : tB te σ H B := h
theorem w_exbl {b : Bool} {P : Bool → Prop} (h : P b) : ∃ k, V.bl b = V.bl k ∧ P k := ⟨b, rfl, h⟩
theorem w_not (h : t σ H fun b H' => B (!b) H') : tNot t σ H B := h
theorem w_and (h : t σ H fun b H1 => if b = true then u σ H1 B else B false H1) : tAnd t u σ H B := h
theorem w_or (h : t σ H fun b H1 => if b = true then B true H1 else u σ H1 B) : tOr t u σ H B := h
theorem w_ite {c A B : Prop} [Decidable c] (h1 : c → A) (h2 : ¬ c → B) : if decide c = true then A else B := by
  by_cases h : c
  · rw [if_pos (decide_eq_true h)]
    exact h1 h
  · rw [if_neg (by rw [decide_eq_false h]; decide)]
    exact h2 h
theorem w_iteN {c A B : Prop} [Decidable c] (h1 : ¬ c → A) (h2 : c → B) : if (!decide c) = true then A else B := by
  by_cases h : c
  · rw [if_neg (by rw [decide_eq_true h]; decide)]
    exact h2 h
  · rw [if_pos (by rw [decide_eq_false h]; rfl)]
    exact h1 h
theorem w_iteT {A B : Prop} (h : A) : if true = true then A else B := by rw [if_pos rfl]; exact h
theorem w_iteF {A B : Prop} (h : B) : if false = true then A else B := by rw [if_neg Bool.false_ne_true]; exact h
theorem w_iteNT {A B : Prop} (h : B) : if (!true) = true then A else B := by rw [if_neg (by decide)]; exact h
theorem w_iteNF {A B : Prop} (h : A) : if (!false) = true then A else B := by rw [if_pos (by decide)]; exact h
theorem w_iteP {c A B : Prop} [Decidable c] (hc : c) (h : A) : if decide c = true then A else B := w_ite (fun _ => h) fun n => absurd hc n
theorem w_iteQ {c A B : Prop} [Decidable c] (hc : ¬ c) (h : B) : if decide c = true then A else B := w_ite (fun n => absurd n hc) fun _ => h
theorem w_iteNP {c A B : Prop} [Decidable c] (hc : c) (h : B) : if (!decide c) = true then A else B := w_iteN (fun n => absurd hc n) fun _ => h
theorem w_iteNQ {c A B : Prop} [Decidable c] (hc : ¬ c) (h : A) : if (!decide c) = true then A else B := w_iteN (fun _ => h) fun n => absurd n hc
theorem w_iteB {b : Bool} {A B : Prop} (h1 : b = true → A) (h2 : b = false → B) : if b = true then A else B := by
  cases b with
  | true => exact w_iteT (h1 rfl)
  | false => exact w_iteF (h2 rfl)
end

/-! ### reads of lists -/
theorem atI_lt {α : Type} {xs : List α} {r : Int} (h0 : 0 ≤ r) (h1 : r < xs.length) : ∃ v, v ∈ xs ∧ atI xs r = some v ∧ xs[r.toNat]? = some v := by
  have hl : r.toNat < xs.length := by omega
  have e : xs[r.toNat]? = some xs[r.toNat] := List.getElem?_eq_getElem hl
  refine ⟨xs[r.toNat], List.getElem_mem hl, ?_, e⟩
  have q := atI_nat e
  have z : ((r.toNat : Nat) : Int) = r := Int.toNat_of_nonneg h0
  rw [z] at q
  exact q
theorem atI_ints {ns : List Int} {r : Int} (h0 : 0 ≤ r) (h1 : r < ns.length) : ∃ n, n ∈ ns ∧ atI (ns.map V.int) r = some (.int n) ∧ ns[r.toNat]? = some n := by
  obtain ⟨v, hv, e, e2⟩ := atI_lt (xs := ns.map V.int) h0 (by rw [List.length_map]; exact h1)
  rw [List.getElem?_map] at e2
  cases q : ns[r.toNat]? with
  | none =>
    rw [q] at e2
    cases e2
  | some n =>
    rw [q] at e2
    cases e2
    exact ⟨n, List.mem_of_getElem? q, e, rfl⟩
theorem map_at {ns : List Int} {i : Nat} {x : V} (h : (ns.map V.int)[i]? = some x) : ∃ n, ns[i]? = some n ∧ x = .int n := by
  rw [List.getElem?_map] at h
  cases e : ns[i]? with
  | none =>
    rw [e] at h
    cases h
  | some n =>
    rw [e] at h
    exact ⟨n, rfl, (Option.some.inj h).symm⟩
theorem map_at' {α : Type} {f : α → V} {ns : List α} {i : Nat} {x : V} (h : (ns.map f)[i]? = some x) : ∃ n, ns[i]? = some n ∧ x = f n := by
  rw [List.getElem?_map] at h
  cases e : ns[i]? with
  | none =>
    rw [e] at h
    cases h
  | some n =>
    rw [e] at h
    exact ⟨n, rfl, (Option.some.inj h).symm⟩
theorem map_snoc (f : Int → V) (ns : List Int) (n : Int) : ns.map f ++ [f n] = (ns ++ [n]).map f := by simp

/-- the ints of written items -/
def unV : List V → List Int
  | [] => []
  | .int i :: r => i :: unV r
  | _ :: r => unV r
section
variable {K : PySem.W.Frag} {H : Hp} {p : Addr} {xs : List V} {m : Int} {Q : VK} {ns : List Int}
theorem w_ixLi (h : SqL K H p xs) (e : xs = (unV xs).map V.int) (h0 : 0 ≤ m) (h1 : m < (unV xs).length) (q : ∀ n, n ∈ unV xs → Q (.int n) H) : rIxL K (.ref p) (.int m) H Q := by
  obtain ⟨n, hn, e2, _⟩ := atI_ints h0 h1
  rw [← e] at e2
  exact w_ixL h e2 (q n hn)
theorem w_ixTi (h : SqT K H p xs) (e : xs = (unV xs).map V.int) (h0 : 0 ≤ m) (h1 : m < (unV xs).length) (q : ∀ n, n ∈ unV xs → Q (.int n) H) : rIxT K (.ref p) (.int m) H Q := by
  obtain ⟨n, hn, e2, _⟩ := atI_ints h0 h1
  rw [← e] at e2
  exact w_ixT h e2 (q n hn)
theorem w_ixLm (h : SqL K H p (ns.map V.int)) (h0 : 0 ≤ m) (h1 : m < ns.length) (q : ∀ n, ns[m.toNat]? = some n → Q (.int n) H) : rIxL K (.ref p) (.int m) H Q := by
  obtain ⟨n, hn, e2, e3⟩ := atI_ints h0 h1
  exact w_ixL h e2 (q n e3)
theorem w_ixLast (h : SqL K H p (ns.map V.int)) (hne : ns ≠ []) (q : ∀ init x, ns = init ++ [x] → Q (.int x) H) : rIxL K (.ref p) (.int (-1)) H Q := by
  obtain ⟨init, x, e⟩ : ∃ init x, ns = init ++ [x] := by
    exact ⟨ns.dropLast, ns.getLast hne, (List.dropLast_concat_getLast hne).symm⟩
  subst e
  refine w_ixL h ?_ (q _ _ rfl)
  rw [List.map_append]
  exact atI_last _ _
theorem w_len {r : List V} (h : SqL K H p r) (q : Q (.int r.length) H) : rLen K [.ref p] H Q := ⟨_, _, rfl, .inl ⟨r, h, rfl⟩, q⟩
theorem w_lenI (h : SqL K H p (ns.map V.int)) (q : Q (.int ns.length) H) : rLen K [.ref p] H Q := w_len h (by rw [List.length_map]; exact q)
theorem w_append {y : V} (h : H p = some (.lst xs)) (hz : xs.length < sizeLine) (q : Q .non (upd H p (.lst (xs ++ [y])))) : rAppend (.ref p) [y] H Q := ⟨p, xs, y, rfl, rfl, h, hz, q⟩
theorem w_appendI {y : Int} (h : H p = some (.lst (ns.map V.int))) (hz : ns.length < 16777216) (q : Q .non (upd H p (.lst ((ns ++ [y]).map V.int)))) : rAppend (.ref p) [.int y] H Q :=
  ⟨p, _, _, rfl, rfl, h, szlt (by rw [List.length_map]; exact hz), by rw [map_snoc]; exact q⟩
theorem w_tyL {R : Prop} (h : H p = some (.lst xs)) (q : R) : TyAnd K "list" (.ref p) H R := ⟨.inl ⟨rfl, _, SqL.of h⟩, q⟩
theorem w_max2 {i j : Int} (q : Q (.int (if j > i then j else i)) H) : rMax2 [.int i, .int j] H Q := ⟨i, j, rfl, q⟩
theorem w_min2 {i j : Int} (q : Q (.int (if j < i then j else i)) H) : rMin2 [.int i, .int j] H Q := ⟨i, j, rfl, q⟩
theorem w_abs {i : Int} (q : Q (.int (if i < 0 then -i else i)) H) : rAbs [.int i] H Q := ⟨i, rfl, q⟩
theorem w_sum (h : SqL K H p (ns.map V.int)) (q : Q (.int ns.sum) H) : rSum K [.ref p] H Q := ⟨p, ns, rfl, h, q⟩
theorem w_maxL (h : SqL K H p (ns.map V.int)) (h0 : 0 < ns.length) (q : ∀ m, m ∈ ns → (∀ y, y ∈ ns → y ≤ m) → Q (.int m) H) : rMax K [.ref p] H Q := ⟨p, ns, rfl, h, h0, q⟩
theorem w_minL (h : SqL K H p (ns.map V.int)) (h0 : 0 < ns.length) (q : ∀ m, m ∈ ns → (∀ y, y ∈ ns → m ≤ y) → Q (.int m) H) : rMin K [.ref p] H Q := ⟨p, ns, rfl, h, h0, q⟩
theorem w_catI {q : Addr} {ms : List Int} (h1 : H p = some (.lst (ns.map V.int))) (h2 : H q = some (.lst (ms.map V.int))) (hz : ns.length + ms.length ≤ 16777216) (k : ∀ r, H r = none → Q (.ref r) (upd H r (.lst ((ns ++ ms).map V.int)))) : rCat (.ref p) (.ref q) H Q :=
  ⟨p, q, _, _, rfl, rfl, h1, h2, szle' (by rw [List.length_map, List.length_map]; exact hz), fun r hr => by rw [← List.map_append]; exact k r hr⟩
theorem w_ixAny (h : SqL K H p xs) (h0 : 0 ≤ m) (h1 : m < xs.length) (q : ∀ v, v ∈ xs → Q v H) : rIxL K (.ref p) (.int m) H Q := by
  obtain ⟨v, hv, e, _⟩ := atI_lt h0 h1
  exact w_ixL h e (q v hv)
theorem w_catIL {q : Addr} {ys : List V} (h1 : H p = some (.lst (ns.map V.int))) (h2 : H q = some (.lst ys)) (e : ys = (unV ys).map V.int) (hz : ns.length + (unV ys).length ≤ 16777216) (k : ∀ r, H r = none → Q (.ref r) (upd H r (.lst ((ns ++ unV ys).map V.int)))) : rCat (.ref p) (.ref q) H Q :=
  w_catI h1 (by rw [← e]; exact h2) hz k
theorem w_catLI {q : Addr} {ys : List V} (h1 : H p = some (.lst ys)) (h2 : H q = some (.lst (ns.map V.int))) (e : ys = (unV ys).map V.int) (hz : (unV ys).length + ns.length ≤ 16777216) (k : ∀ r, H r = none → Q (.ref r) (upd H r (.lst ((unV ys ++ ns).map V.int)))) : rCat (.ref p) (.ref q) H Q :=
  w_catI (by rw [← e]; exact h1) h2 hz k
theorem w_repI {k : Int} (h : H p = some (.lst (ns.map V.int))) (k1 : -(2 ^ 63) ≤ k) (k2 : k < 2 ^ 63) (hz : ns.length * k.toNat ≤ 16777216) (q : ∀ r, H r = none → Q (.ref r) (upd H r (.lst ((List.replicate k.toNat (ns.map V.int)).flatten)))) : rRep (.ref p) (.int k) H Q :=
  ⟨p, k, _, rfl, rfl, h, k1, k2, szle' (by rw [List.length_map]; exact hz), fun r hr => q r hr⟩
theorem w_intI {i : Int} (q : Q (.int i) H) : rInt1 [.int i] H Q := .inl ⟨i, rfl, q⟩
theorem w_intB {k : Bool} (q : Q (.int (if k then 1 else 0)) H) : rInt1 [.bl k] H Q := .inr ⟨k, rfl, q⟩
theorem w_strI {i : Int} (h : i.natAbs.log2 < 1920) (q : Q (.str (toString i)) H) : rStrI [.int i] H Q := ⟨i, rfl, h, q⟩
theorem w_listof (h : SqL K H p xs) (q : ∀ l, H l = none → Q (.ref l) (upd H l (.lst xs))) : rListOf K [.ref p] H Q := ⟨p, xs, rfl, .inl h, q⟩
end

theorem mem_snoc {α : Type} {P : α → Prop} {xs : List α} {y : α} (h : ∀ x ∈ xs, P x) (hy : P y) : ∀ x ∈ xs ++ [y], P x := fun x hx => by
  rcases List.mem_append.mp hx with z | z
  · exact h x z
  · rw [List.mem_singleton.mp z]
    exact hy
theorem len_snoc {α : Type} {xs : List α} {y : α} {i : Nat} (h : xs.length = i) : (xs ++ [y]).length = i + 1 := by simp [h]

/-! ### data -/
section
variable {K : PySem.W.Frag} {H : Hp}
theorem dpAll_ints : ∀ ns : List Int, DpAll K H (ns.map V.int) (ns.map PyData.int)
  | [] => .nil
  | n :: ns => .cons (.int n) (dpAll_ints ns)
theorem canLay_ints : ∀ ns : List Int, PyData.canLayAll0 (ns.map PyData.int) = true
  | [] => rfl
  | n :: ns => by
    have ih := canLay_ints ns
    simp only [List.map_cons, PyData.canLayAll0, PyData.canLay0, ih, Bool.and_self]
theorem depth_ints : ∀ ns : List Int, PyData.depthAll (ns.map PyData.int) ≤ 1
  | [] => by simp [PyData.depthAll]
  | n :: ns => by
    have ih := depth_ints ns
    simp only [List.map_cons, PyData.depthAll, PyData.depth]
    omega
theorem shaped_ints (ns : List Int) : SeqAt.shaped (.list (ns.map PyData.int)) = true := by
  unfold SeqAt.shaped
  have h1 : PyData.canLay0 (.list (ns.map PyData.int)) = true := by simp only [PyData.canLay0]; exact canLay_ints ns
  have h2 : PyData.depth (.list (ns.map PyData.int)) ≤ 64 := by
    have := depth_ints ns
    simp only [PyData.depth]
    omega
  rw [h1, decide_eq_true h2]
  rfl
theorem eqvAll_ints : ∀ ns ms : List Int, PyData.eqvAll (ns.map PyData.int) (ms.map PyData.int) = decide (ns = ms)
  | [], [] => by simp [PyData.eqvAll]
  | [], m :: ms => by simp [PyData.eqvAll]
  | n :: ns, [] => by simp [PyData.eqvAll]
  | n :: ns, m :: ms => by
    simp only [List.map_cons, PyData.eqvAll, PyData.eqv, eqvAll_ints ns ms]
    by_cases h : n = m
    · subst h
      by_cases h2 : ns = ms <;> simp [h2]
    · simp [h]
theorem eqv_ints (ns ms : List Int) : PyData.eqv (.list (ns.map PyData.int)) (.list (ms.map PyData.int)) = decide (ns = ms) := by
  simp only [PyData.eqv]
  exact eqvAll_ints ns ms
theorem dp_ints {p : Addr} {ns : List Int} (h : SqL K H p (ns.map V.int)) : Dp K H (.ref p) (.list (ns.map PyData.int)) := .lst h (dpAll_ints ns)
variable {p q : Addr} {ns ms : List Int} {Q : VK}
theorem w_eqLI (h1 : SqL K H p (ns.map V.int)) (h2 : SqL K H q (ms.map V.int)) (k : Q (.bl (decide (ns = ms))) H) : rEqD K (.ref p) (.ref q) H Q :=
  ⟨_, _, dp_ints h1, dp_ints h2, shaped_ints _, shaped_ints _, by rw [eqv_ints]; exact k⟩
theorem w_neLI (h1 : SqL K H p (ns.map V.int)) (h2 : SqL K H q (ms.map V.int)) (k : Q (.bl (!decide (ns = ms))) H) : rNeD K (.ref p) (.ref q) H Q :=
  ⟨_, _, dp_ints h1, dp_ints h2, shaped_ints _, shaped_ints _, by rw [eqv_ints]; exact k⟩
theorem w_eqNil (h1 : SqL K H p (ns.map V.int)) (h2 : SqL K H q []) (k : Q (.bl (decide (ns = []))) H) : rEqD K (.ref p) (.ref q) H Q := w_eqLI (ms := []) h1 h2 k
theorem w_neNil (h1 : SqL K H p (ns.map V.int)) (h2 : SqL K H q []) (k : Q (.bl (!decide (ns = []))) H) : rNeD K (.ref p) (.ref q) H Q := w_neLI (ms := []) h1 h2 k
end

/-! ### loops -/
def ForB (g : TG) (tb : TS) (D : Ends) (σ : L2.St) : It → Hp → Prop := fun J H1 => ∃ W : Nat → Nat → L2.St → Hp → Prop, (∃ m, W 0 m σ H1) ∧ ∀ i m σ H, W i m σ H →
  (J.stop i H ∧ D.nx σ H) ∨ (J.go i H ∧ ∃ N : L2.St → Hp → Prop, (∀ σ' H', N σ' H' → ∃ m', m' < m ∧ W (i + 1) m' σ' H') ∧ ∀ x H', J.yld i H x H' → g x σ H' fun σ2 H2 => tb { D with nx := N, ct := N, bk := D.nx } σ2 H2)
/-- y is appended to the new list at L, then N -/
def AppE (L : Addr) (N : Hp → Prop) : V → Hp → Prop := fun y H4 => ∃ acc, H4 L = some (.lst acc) ∧ acc.length < sizeLine ∧ N (upd H4 L (.lst (acc ++ [y])))
def LcB (g : TG) (tt : TT) (te : TE) (vs : List Nat) (σ : L2.St) (Q : VK) : It → Hp → Prop := fun J H1 => ∀ D, H1 D = none → ∃ W : Nat → Nat → Hp → Prop, (∃ m, W 0 m (upd H1 D (.lst []))) ∧ ∀ i m H, W i m H →
  (J.stop i H ∧ Q (.ref D) H) ∨ (J.go i H ∧ ∃ Nx : Hp → Prop, (∀ H', Nx H' → ∃ m', m' < m ∧ W (i + 1) m' H') ∧ ∀ x H', J.yld i H x H' → g x (wipe σ vs) H' fun σ2 H2 => wipe σ2 vs = wipe σ vs ∧ tt σ2 H2 fun b H3 =>
    if b = true then te σ2 H3 (AppE D Nx) else Nx H3)
section
variable {K : PySem.W.Frag} {σ : L2.St} {H : Hp} {D : Ends} {wi : TI} {g : TG} {tb : TS} {tt : TT} {te tl : TE} {ta : TA} {vs : List Nat} {Q : VK} {R : It → Hp → Prop} {a : Addr} {xs : List V} {lo j : Int} {n : Nat}
theorem w_for (h : wi σ H (ForB g tb D σ)) : tFor wi g tb D σ H := h
theorem w_lc (h : wi σ H (LcB g tt te vs σ Q)) : tLc wi g tt te vs σ H Q := h
def LstE (K : PySem.W.Frag) (R : It → Hp → Prop) : V → Hp → Prop := fun x H1 => ∃ a, x = .ref a ∧ (∃ xs, SqL K H1 a xs) ∧ R (Itl K a) H1
def Rng1E (R : It → Hp → Prop) : List V → Hp → Prop := fun vs H1 => ∃ j : Int, vs = [.int j] ∧ -(2 ^ 62) ≤ j ∧ j < 2 ^ 62 ∧ R (Itr 0 j.toNat) H1
def Rng2E (R : It → Hp → Prop) : List V → Hp → Prop := fun vs H1 => ∃ i j : Int, vs = [.int i, .int j] ∧ (-(2 ^ 62) ≤ i ∧ i < 2 ^ 62 ∧ -(2 ^ 62) ≤ j ∧ j < 2 ^ 62) ∧ R (Itr i (j - i).toNat) H1
theorem w_iList (h : tl σ H (LstE K R)) : iList K tl σ H R := h
theorem w_iListE (h : SqL K H a xs) (q : R (Itl K a) H) : LstE K R (.ref a) H := ⟨a, rfl, ⟨xs, h⟩, q⟩
theorem w_rng1 (h : ta σ H (Rng1E R)) : iRng1 ta σ H R := h
theorem w_rng1E (h1 : -(2 ^ 62) ≤ j) (h2 : j < 2 ^ 62) (q : R (Itr 0 j.toNat) H) : Rng1E R [.int j] H := ⟨j, rfl, h1, h2, q⟩
theorem w_rng2 (h : ta σ H (Rng2E R)) : iRng2 ta σ H R := h
theorem w_rng2E (h1 : -(2 ^ 62) ≤ lo ∧ lo < 2 ^ 62 ∧ -(2 ^ 62) ≤ j ∧ j < 2 ^ 62) (q : R (Itr lo (j - lo).toNat) H) : Rng2E R [.int lo, .int j] H := ⟨lo, j, rfl, h1, q⟩
theorem f_range (Pv : Nat → L2.St → Hp → Prop) (h0 : Pv 0 σ H) (hs : ∀ i σ H, i < n → Pv i σ H → g (.int (lo + i)) σ H fun σ2 H2 => tb { D with nx := Pv (i + 1), ct := Pv (i + 1), bk := D.nx } σ2 H2) (hd : ∀ σ H, Pv n σ H → D.nx σ H) :
    ForB g tb D σ (Itr lo n) H := for_range Pv h0 hs hd
theorem f_list (xs : List V) (Pv : Nat → L2.St → Hp → Prop) (h0 : Pv 0 σ H) (hl : ∀ i σ H, i ≤ xs.length → Pv i σ H → SqL K H a xs) (hs : ∀ i x σ H, xs[i]? = some x → Pv i σ H → g x σ H fun σ2 H2 => tb { D with nx := Pv (i + 1), ct := Pv (i + 1), bk := D.nx } σ2 H2) (hd : ∀ σ H, Pv xs.length σ H → D.nx σ H) :
    ForB g tb D σ (Itl K a) H := for_list Pv h0 hl hs hd
theorem f_tup (xs : List V) (Pv : Nat → L2.St → Hp → Prop) (h0 : Pv 0 σ H) (hl : ∀ i σ H, i ≤ xs.length → Pv i σ H → SqT K H a xs) (hs : ∀ i x σ H, xs[i]? = some x → Pv i σ H → g x σ H fun σ2 H2 => tb { D with nx := Pv (i + 1), ct := Pv (i + 1), bk := D.nx } σ2 H2) (hd : ∀ σ H, Pv xs.length σ H → D.nx σ H) :
    ForB g tb D σ (Itt K a) H := for_tup Pv h0 hl hs hd
/-- enumerate: each turn a new pair -/
theorem f_enum (xs : List V) (Pv : Nat → L2.St → Hp → Prop) (h0 : Pv 0 σ H) (hl : ∀ i σ H, i ≤ xs.length → Pv i σ H → SqL K H a xs)
    (hs : ∀ (i : Nat) (x : V) (T : Addr) (σ : L2.St) (H : Hp), xs[i]? = some x → Pv i σ H → H T = none → g (.ref T) σ (upd H T (.tup [.int (i : Nat), x])) fun σ2 H2 => tb { D with nx := Pv (i + 1), ct := Pv (i + 1), bk := D.nx } σ2 H2) (hd : ∀ σ H, Pv xs.length σ H → D.nx σ H) :
    ForB g tb D σ (Ite K a) H := by
  refine ⟨fun i m σ H => m = xs.length - i ∧ i ≤ xs.length ∧ Pv i σ H, ⟨xs.length, by simp, Nat.zero_le _, h0⟩, ?_⟩
  rintro i m σ H ⟨rfl, hi, p⟩
  have q := hl i σ H hi p
  by_cases hlt : i < xs.length
  · refine .inr ⟨⟨xs, xs[i], q, by simp [hlt]⟩, Pv (i + 1), fun σ' H' p' => ⟨xs.length - (i + 1), by omega, rfl, hlt, p'⟩, fun x H' y => ?_⟩
    obtain ⟨T, x', rfl, hT, rfl, f1⟩ := y
    exact hs i x' T σ H (f1 xs q) p hT
  · have e : i = xs.length := by omega
    subst e
    exact .inl ⟨⟨xs, q, Nat.le_refl _⟩, hd σ H p⟩
theorem f_zip {b : Addr} (xs ys : List V) (hl : xs.length = ys.length) (Pv : Nat → L2.St → Hp → Prop) (h0 : Pv 0 σ H) (hq : ∀ i σ H, Pv i σ H → SqL K H a xs ∧ SqL K H b ys)
    (hs : ∀ (i : Nat) (x y : V) (T : Addr) (σ : L2.St) (H : Hp), xs[i]? = some x → ys[i]? = some y → Pv i σ H → H T = none → g (.ref T) σ (upd H T (.tup [x, y])) fun σ2 H2 => tb { D with nx := Pv (i + 1), ct := Pv (i + 1), bk := D.nx } σ2 H2) (hd : ∀ σ H, Pv xs.length σ H → D.nx σ H) :
    ForB g tb D σ (Itz K a b) H := by
  refine ⟨fun i m σ H => m = xs.length - i ∧ i ≤ xs.length ∧ Pv i σ H, ⟨xs.length, rfl, Nat.zero_le _, h0⟩, ?_⟩
  rintro i m σ H ⟨rfl, hi, p⟩
  obtain ⟨qx, qy⟩ := hq i σ H p
  by_cases hlt : i < xs.length
  · have hx : xs[i]? = some xs[i] := List.getElem?_eq_getElem hlt
    have hlt2 : i < ys.length := by omega
    have hy : ys[i]? = some ys[i] := List.getElem?_eq_getElem hlt2
    refine .inr ⟨⟨xs, ys, _, _, qx, qy, hx, hy⟩, Pv (i + 1), fun σ' H' p' => ⟨xs.length - (i + 1), by omega, rfl, hlt, p'⟩, fun v H' y => ?_⟩
    obtain ⟨T, x', y', rfl, hT, rfl, f1, f2⟩ := y
    exact hs i x' y' T σ H (f1 xs qx) (f2 ys qy) p hT
  · have e : i = xs.length := by omega
    subst e
    exact .inl ⟨⟨xs, ys, qx, qy, Or.inl (Nat.le_refl _)⟩, hd σ H p⟩
def EnuE (K : PySem.W.Frag) (R : It → Hp → Prop) : List V → Hp → Prop := fun vs H1 => ∃ a xs, vs = [.ref a] ∧ SqL K H1 a xs ∧ R (Ite K a) H1
theorem w_enum (h : ta σ H (EnuE K R)) : iEnum K ta σ H R := h
theorem w_enumE (h : SqL K H a xs) (q : R (Ite K a) H) : EnuE K R [.ref a] H := ⟨a, xs, rfl, h, q⟩
def ZipE (K : PySem.W.Frag) (R : It → Hp → Prop) : List V → Hp → Prop := fun vs H1 => ∃ a b xs ys, vs = [.ref a, .ref b] ∧ SqL K H1 a xs ∧ SqL K H1 b ys ∧ R (Itz K a b) H1
theorem w_zip (h : ta σ H (ZipE K R)) : iZip K ta σ H R := h
theorem w_zipE {b : Addr} {ys : List V} (h : SqL K H a xs) (h2 : SqL K H b ys) (q : R (Itz K a b) H) : ZipE K R [.ref a, .ref b] H := ⟨a, b, xs, ys, rfl, h, h2, q⟩
theorem w_gTup {k : Nat} {t : TGs} {Q : L2.St → Hp → Prop} (h : SqT K H a xs) (e : xs.length = k) (q : t xs σ H Q) : gTup K k t (.ref a) σ H Q := ⟨a, xs, rfl, h, e, q⟩
theorem w_gLst {k : Nat} {t : TGs} {Q : L2.St → Hp → Prop} (h : SqL K H a xs) (e : xs.length = k) (q : t xs σ H Q) : gLst K k t (.ref a) σ H Q := ⟨a, xs, rfl, h, e, q⟩
theorem w_gNil {Q : L2.St → Hp → Prop} (q : Q σ H) : gNil [] σ H Q := ⟨rfl, q⟩
theorem w_gCons {v : V} {r : List V} {u : TGs} {Q : L2.St → Hp → Prop} (q : g v σ H fun σ' H' => u r σ' H' Q) : gCons g u (v :: r) σ H Q := ⟨v, r, rfl, q⟩
theorem l_range (Pv : Addr → Nat → Hp → Prop) (h0 : ∀ L, H L = none → Pv L 0 (upd H L (.lst []))) (hs : ∀ L i H', H L = none → i < n → Pv L i H' → g (.int (lo + i)) (wipe σ vs) H' fun σ2 H2 => wipe σ2 vs = wipe σ vs ∧ tt σ2 H2 fun b H3 => if b = true then te σ2 H3 (AppE L (Pv L (i + 1))) else Pv L (i + 1) H3)
    (hd : ∀ L H', H L = none → Pv L n H' → Q (.ref L) H') : LcB g tt te vs σ Q (Itr lo n) H := fun L hL => lc_range (Pv L) (h0 L hL) (fun i H' => hs L i H' hL) (fun H' => hd L H' hL)
theorem l_list (xs : List V) (Pv : Addr → Nat → Hp → Prop) (h0 : ∀ L, H L = none → Pv L 0 (upd H L (.lst []))) (hl : ∀ L i H', H L = none → i ≤ xs.length → Pv L i H' → SqL K H' a xs) (hs : ∀ L i x H', H L = none → xs[i]? = some x → Pv L i H' → g x (wipe σ vs) H' fun σ2 H2 => wipe σ2 vs = wipe σ vs ∧ tt σ2 H2 fun b H3 => if b = true then te σ2 H3 (AppE L (Pv L (i + 1))) else Pv L (i + 1) H3)
    (hd : ∀ L H', H L = none → Pv L xs.length H' → Q (.ref L) H') : LcB g tt te vs σ Q (Itl K a) H := fun L hL => lc_list (Pv L) (h0 L hL) (fun i H' => hl L i H' hL) (fun i x H' => hs L i x H' hL) (fun H' => hd L H' hL)
theorem w_tYes {B : Bool → Hp → Prop} (h : B true H) : tYes σ H B := h
theorem w_appE {L : Addr} {N : Hp → Prop} {ys : List V} {y : V} (h : H L = some (.lst ys)) (hz : ys.length < 16777216) (q : N (upd H L (.lst (ys ++ [y])))) : AppE L N y H := ⟨ys, h, szlt hz, q⟩
theorem w_appEI {L : Addr} {N : Hp → Prop} {ys : List Int} {m : Int} (h : H L = some (.lst (ys.map V.int))) (hz : ys.length < 16777216) (q : N (upd H L (.lst ((ys ++ [m]).map V.int)))) : AppE L N (.int m) H := ⟨_, h, by rw [List.length_map]; exact szlt hz, by rw [map_snoc]; exact q⟩
theorem w_appEB {L : Addr} {N : Hp → Prop} {ys : List Bool} {m : Bool} (h : H L = some (.lst (ys.map V.bl))) (hz : ys.length < 16777216) (q : N (upd H L (.lst ((ys ++ [m]).map V.bl)))) : AppE L N (.bl m) H := ⟨_, h, by rw [List.length_map]; exact szlt hz, by rw [show ys.map V.bl ++ [V.bl m] = (ys ++ [m]).map V.bl by simp]; exact q⟩
/-- [f n for n in ints], the element leaving all as it is: target in slot j -/
theorem l_map (ns : List Int) (f : Int → Int) {j : Nat} (hx : SqL K H a (ns.map V.int)) (hj : ∀ v, wipe ((wipe σ vs).set j (some v)) vs = wipe σ vs) (hz : ns.length ≤ 16777216)
    (he : ∀ (i : Nat) (n : Int) (H' : Hp), ns[i]? = some n → Fr [] H H' → ∀ Q : VK, (∀ H2, Fr [] H' H2 → Q (.int (f n)) H2) → te ((wipe σ vs).set j (some (.int n))) H' Q)
    (k : ∀ L H', H L = none → Fr [] H H' → H' L = some (.lst ((ns.map f).map V.int)) → Q (.ref L) H') : LcB (gName j) tYes te vs σ Q (Itl K a) H := by
  refine l_list (ns.map V.int) (fun L i H' => Fr [] H H' ∧ H' L = some (.lst (((ns.take i).map f).map V.int))) (fun L hL => ⟨Fr.refl.new hL, upd_same⟩) (fun L i H' hL _ h => h.1.seqL (by simp) hx) (fun L i x H' hL e h => ?_) (fun L H' hL h => ?_)
  · obtain ⟨n, en, rfl⟩ := map_at e
    obtain ⟨h1, h2⟩ := h
    refine w_gname ⟨hj _, w_tYes (w_iteT ?_)⟩
    refine he i n H' en h1 _ fun H2 f2 => ⟨_, f2.at0 h2, ?_, ((h1.trans f2).put (.inl hL)), ?_⟩
    · rw [List.length_map, List.length_map, List.length_take]
      have q := (List.getElem?_eq_some_iff.mp en).1
      exact szlt (by omega)
    · rw [upd_same]
      have q := List.take_succ (l := ns) (i := i)
      rw [en] at q
      rw [q]
      simp
  · have e : ns.take (ns.map V.int).length = ns := by rw [List.length_map]; exact List.take_length ..
    obtain ⟨h1, h2⟩ := h
    rw [e] at h2
    exact k L H' hL h1 h2
end

/-- calls by keywords -/
def KwE (n : Nat) (ix : List Nat) (sp : Sp) (Q : VK) : List V → Hp → Prop := fun zs H => zs.length = n ∧ sp (pick ix zs) H Q E0
def MkE (C : Addr) (n : Nat) (ix : List Nat) (sp : Sp) (Q : VK) : List V → Hp → Prop := fun zs H2 => ([] : List V).length = 0 ∧ zs.length = n ∧ ∀ x dx, H2 x = none → H2 dx = none → dx ≠ x →
  sp ([.ref x] ++ pick ix zs) (upd (upd H2 dx (.own x)) x (.ins C dx [])) (fun v H3 => v = .non ∧ Q (.ref x) H3) E0
def MkwE (n : Nat) (ix : List Nat) (sp : Sp) (Q : VK) (x : V) : List V → Hp → Prop := fun zs H => zs.length = n ∧ sp (x :: pick ix zs) H Q E0
def MethKE (C : Addr) (m : Str) (n : Nat) (ix : List Nat) (sp : Sp) (tk : TA) (σ : L2.St) (Q : VK) : V → Hp → Prop := fun x H1 => ∃ a dx fs, x = .ref a ∧ H1 a = some (.ins C dx fs) ∧ fs.lookup m = none ∧ tk σ H1 (MkwE n ix sp Q x)
section
variable {σ : L2.St} {H : Hp} {n : Nat} {ix : List Nat} {sp : Sp} {Q : VK} {tk : TA} {ta : TE} {zs : List V} {C a dx : Addr} {m : Str} {fs : List (Str × V)} {x : V}
theorem w_callK0 (h : tk σ H (KwE n ix sp Q)) : tCallK0 n ix sp tk σ H Q := h
theorem w_kwE (e : zs.length = n) (q : sp (pick ix zs) H Q E0) : KwE n ix sp Q zs H := ⟨e, q⟩
theorem w_makeK (h : tk σ H (MkE C n ix sp Q)) : tMakeK C 0 n sp (fun vs zs => vs ++ pick ix zs) E0 tNil tk σ H Q := h
theorem w_mkE (e : zs.length = n) (q : ∀ x dx, H x = none → H dx = none → dx ≠ x → sp ([.ref x] ++ pick ix zs) (upd (upd H dx (.own x)) x (.ins C dx [])) (fun v H3 => v = .non ∧ Q (.ref x) H3) E0) : MkE C n ix sp Q zs H := ⟨rfl, e, q⟩
theorem w_methK (h : ta σ H (MethKE C m n ix sp tk σ Q)) : tMethK0 C m n ix sp ta tk σ H Q := h
theorem w_methKE (h : H a = some (.ins C dx fs)) (e : fs.lookup m = none) (q : tk σ H (MkwE n ix sp Q (.ref a))) : MethKE C m n ix sp tk σ Q (.ref a) H := ⟨a, dx, fs, rfl, h, e, q⟩
theorem w_mkwE (e : zs.length = n) (q : sp (x :: pick ix zs) H Q E0) : MkwE n ix sp Q x zs H := ⟨e, q⟩
end
def LenSE (K : PySem.W.Frag) (Q : VK) : V → Hp → Prop := fun x H1 => ∃ (l : Addr) (ns : List Int), x = .ref l ∧ SqL K H1 l (ns.map V.int) ∧ ns.length ≤ 4000 ∧ Q (.int ((distinct ns).length : Nat)) H1
section
variable {K : PySem.W.Frag} {σ : L2.St} {H : Hp} {ta : TE} {Q : VK} {a : Addr} {ns : List Int} {b : Bool}
theorem w_lenSet (h : ta σ H (LenSE K Q)) : tLenSetJ K ta σ H Q := h
theorem w_lenSE (h : SqL K H a (ns.map V.int)) (hl : ns.length ≤ 4000) (q : Q (.int ((distinct ns).length : Nat)) H) : LenSE K Q (.ref a) H := ⟨a, ns, rfl, h, hl, q⟩
/-- isinstance by built-in classes -/
theorem w_isi {x : V} {n : String} {t : Value} (h : TyX K H x t) (e : PySem.W.kitOne K t (.type n) = some b) (q : Q (.bl b) H) : rIsi K [x, .ty n] H Q := ⟨x, .ty n, t, .type n, b, rfl, .ty n, h, e, q⟩
theorem tyx_lst {xs : List V} (h : H a = some (.lst xs)) : TyX K H (.ref a) (.type "list") := .base (.lst h)
theorem tyx_tup {xs : List V} (h : H a = some (.tup xs)) : TyX K H (.ref a) (.type "tuple") := .base (.tup h)
def SrtKE (K : PySem.W.Frag) (b : Bool) (Q : VK) : List V → List V → Hp → Prop := fun vs zs H => rSortedKw K b [.bl b] vs zs H Q
theorem w_sortKw {t tk : TA} {r : List V → List V → Hp → VK → Prop} (h : t σ H fun vs H1 => tk σ H1 fun zs H2 => r vs zs H2 Q) : tCKw r t tk σ H Q := h
theorem w_sortedKw (h : SqL K H a (ns.map V.int)) (q : ∀ (ns' : List Int) (p : Addr), ns'.Perm ns → OrdB b ns' → H p = none → Q (.ref p) (upd H p (.lst (ns'.map V.int)))) : rSortedKw K b [.bl b] [.ref a] [.bl b] H Q := ⟨a, ns, rfl, rfl, h, q⟩
theorem w_sortedI (h : SqL K H a (ns.map V.int)) (q : ∀ (ns' : List Int) (p : Addr), ns'.Perm ns → ns'.Pairwise (· ≤ ·) → H p = none → Q (.ref p) (upd H p (.lst (ns'.map V.int)))) : rSortedI K [.ref a] H Q := ⟨a, ns, rfl, h, q⟩
theorem w_extendI {q : Addr} {ms : List Int} (h1 : H a = some (.lst (ns.map V.int))) (h2 : H q = some (.lst (ms.map V.int))) (hz : ns.length + ms.length ≤ 16777216) (k : Q .non (upd H a (.lst ((ns ++ ms).map V.int)))) : rExtend (.ref a) [.ref q] H Q :=
  ⟨a, q, _, _, rfl, rfl, h1, h2, szle' (by rw [List.length_map, List.length_map]; exact hz), by rw [← List.map_append]; exact k⟩
/-- [m] * k -/
theorem w_rep1 {k m : Int} (h : H a = some (.lst [.int m])) (k1 : -(2 ^ 63) ≤ k) (k2 : k ≤ 16777216) (q : ∀ r, H r = none → Q (.ref r) (upd H r (.lst ((List.replicate k.toNat m).map V.int)))) : rRep (.ref a) (.int k) H Q := by
  refine ⟨a, k, _, rfl, rfl, h, k1, Int.lt_of_le_of_lt k2 (by decide), szle' (by simp; omega), fun r hr => ?_⟩
  have e : (List.replicate k.toNat [V.int m]).flatten = (List.replicate k.toNat m).map V.int := by
    rw [List.map_replicate]
    generalize k.toNat = j
    induction j with
    | zero => rfl
    | succ j ih => rw [List.replicate_succ, List.flatten_cons, ih, List.replicate_succ]; rfl
  rw [e]
  exact q r hr
end
section
variable {σ : L2.St} {H : Hp} {c : TT} {tb : TS} {D : Ends}
def WhT (W : Nat → L2.St → Hp → Prop) (m : Nat) (tb : TS) (D : Ends) (σ : L2.St) (H1 : Hp) : Prop := ∃ N : L2.St → Hp → Prop, (∀ σ' H', N σ' H' → ∃ m', m' < m ∧ W m' σ' H') ∧ tb { D with nx := N, ct := N, bk := D.nx } σ H1
theorem w_while (W : Nat → L2.St → Hp → Prop) (m0 : Nat) (h0 : W m0 σ H) (hs : ∀ m σ H, W m σ H → c σ H fun b H1 => if b = true then WhT W m tb D σ H1 else D.nx σ H1) : tWhile c tb D σ H := ⟨W, ⟨m0, h0⟩, hs⟩
theorem w_whT {W : Nat → L2.St → Hp → Prop} {m : Nat} (q : tb { D with nx := fun σ' H' => ∃ m', m' < m ∧ W m' σ' H', ct := fun σ' H' => ∃ m', m' < m ∧ W m' σ' H', bk := D.nx } σ H) : WhT W m tb D σ H := ⟨_, fun _ _ h => h, q⟩
end
/-! ### joins, dicts -/
section
variable {K : PySem.W.Frag} {σ : L2.St} {H : Hp} {D : Ends} {c : TT} {t1 t2 : TS} {td ty tv ta tb te : TE} {Q : VK} {a g : Addr} {kvs kvs' : List (Key × V)} {k : Str} {v x y : V} {R : Hp → Prop} {S S' : List Addr} {H1 H2 : Hp}
/-- one continuation for both branches: I holds at their ends -/
theorem w_ifJ (I : L2.St → Hp → Prop) (h : ∀ N : L2.St → Hp → Prop, (∀ σ H, I σ H → N σ H) → tIfS c t1 t2 { D with nx := N } σ H) (k : ∀ σ H, I σ H → D.nx σ H) : tIfS c t1 t2 D σ H := h D.nx k
def DGE (x : V) (Q : VK) : V → Hp → Prop := fun y H2 => ∃ a v, x = .ref a ∧ DGet H2 a y (some v) ∧ Q v H2
theorem w_dget (h : td σ H fun x H1 => ty σ H1 (DGE x Q)) : tDGet td ty σ H Q := h
theorem w_dgetE (h : H a = some (.dK kvs)) (e : valV kvs (.inr k) = some v) (q : Q v H) : DGE (.ref a) Q (.str k) H := ⟨a, v, rfl, by rw [← e]; exact DGet.k (k := .inr k) h, q⟩
def DPE (x : V) (v : V) (R : Hp → Prop) : V → Hp → Prop := fun y H3 => ∃ a H4, x = .ref a ∧ DPut H3 a y v H4 ∧ R H4
theorem w_dput (h : tv σ H fun v H1 => td σ H1 fun x H2 => ty σ H2 (DPE x v (D.nx σ))) : sDPut td ty tv D σ H := h
theorem w_dputE (h : H a = some (.dK kvs)) (hl : kvs.length < 16777216) (e : putK kvs (.inr k) v = kvs') (q : R (upd H a (.dK kvs'))) : DPE (.ref a) v R (.str k) H := ⟨a, _, rfl, DPut.k (k := .inr k) h (szlt hl), by rw [e]; exact q⟩
def DAE (tv : TE) (rd : V → V → Hp → VK → Prop) (R : Hp → Prop) (σ : L2.St) (x : V) : V → Hp → Prop := fun y H2 => ∃ a v, x = .ref a ∧ DGet H2 a y (some v) ∧ tv σ H2 fun y2 H3 => rd v y2 H3 fun z H4 => ∃ H5, DPut H4 a y z H5 ∧ R H5
theorem w_daug {rd : V → V → Hp → VK → Prop} (h : td σ H fun x H1 => ty σ H1 (DAE tv rd (D.nx σ) σ x)) : sDAug td ty tv rd D σ H := h
theorem w_daugE {rd : V → V → Hp → VK → Prop} (h : H a = some (.dK kvs)) (e : valV kvs (.inr k) = some v) (q : tv σ H fun y2 H3 => rd v y2 H3 fun z H4 => DPE (.ref a) z R (.str k) H4) : DAE tv rd R σ (.ref a) (.str k) H := by
  refine ⟨a, v, rfl, by rw [← e]; exact DGet.k (k := .inr k) h, ?_⟩
  have e2 : (fun (y2 : V) (H3 : Hp) => rd v y2 H3 fun z H4 => DPE (.ref a) z R (.str k) H4) = fun y2 H3 => rd v y2 H3 fun z H4 => ∃ H5, DPut H4 a (.str k) z H5 ∧ R H5 := by
    funext y2 H3
    congr 1
    funext z H4
    exact propext ⟨fun ⟨b, H5, e, p, r⟩ => by cases e; exact ⟨H5, p, r⟩, fun ⟨H5, p, r⟩ => ⟨a, H5, rfl, p, r⟩⟩
  rw [← e2]
  exact q
def keysOf : List (V × V) → List (Key × V)
  | [] => []
  | (.str s, v) :: r => (.inr s, v) :: keysOf r
  | _ :: r => keysOf r
def DspE (p : Addr) (Q : VK) : List (V × V) → Hp → Prop := fun ps H2 => H2 p = some (.dK []) ∧ ∃ kvs : List (Key × V), ps = kvs.map (fun kv => (kV kv.1, kv.2)) ∧ kvs.length ≤ 15 ∧ Q (.ref p) (upd H2 p (.dK (mergeK [] kvs)))
theorem w_disp {trs : List (TE × TE)} (h : ∀ p, H p = none → tPairs trs σ (upd H p (.dK [])) (DspE p Q)) : tDisp trs σ H Q := h
theorem w_pairN {R : List (V × V) → Hp → Prop} (h : R [] H) : tPairs [] σ H R := h
theorem w_pairC {tk tv : TE} {trs : List (TE × TE)} {R : List (V × V) → Hp → Prop} (h : tk σ H fun x H1 => tv σ H1 fun y H2 => tPairs trs σ H2 fun ps H3 => R ((x, y) :: ps) H3) : tPairs ((tk, tv) :: trs) σ H R := h
theorem valV_ne {p : Key × V} {r : List (Key × V)} {k : Key} (e : ¬ p.1 = k) : valV (p :: r) k = valV r k := valV_neg e
theorem mergeK_go : ∀ (more acc : List (Key × V)), (acc.map (·.1) ++ more.map (·.1)).Nodup → mergeK acc more = acc ++ more
  | [], acc, _ => by simp [mergeK]
  | p :: r, acc, h => by
    have hp : valV acc p.1 = none := by
      cases e : valV acc p.1 with
      | none => rfl
      | some z =>
        have e2 := valV_any p.1 acc
        rw [e] at e2
        obtain ⟨q, hq, hq2⟩ := List.any_eq_true.mp (show (acc.any fun kv => decide (kv.1 = p.1)) = true from e2)
        have hq3 := of_decide_eq_true hq2
        have := (List.nodup_append.mp h).2.2 q.1 (List.mem_map.mpr ⟨q, hq, rfl⟩) p.1 (by simp)
        exact absurd hq3 this
    have e : mergeK acc (p :: r) = mergeK (putK acc p.1 p.2) r := rfl
    rw [e, putK_new _ hp, mergeK_go r (acc ++ [(p.1, p.2)]) (by simpa using h)]
    simp
theorem w_dspE {p : Addr} {ps : List (V × V)} (h : H p = some (.dK [])) (e : ps = (keysOf ps).map fun kv => (kV kv.1, kv.2)) (hl : (keysOf ps).length ≤ 15) (n : ((keysOf ps).map (·.1)).Nodup) (q : Q (.ref p) (upd H p (.dK (keysOf ps)))) : DspE p Q ps H := by
  refine ⟨h, keysOf ps, e, hl, ?_⟩
  rw [mergeK_go _ [] (by simpa using n)]
  exact q
theorem mem2a {a g : Addr} : a ∈ [a, g] := by simp
theorem mem2b {a g : Addr} : g ∈ [a, g] := by simp
theorem nn3 {b a g : Addr} (h1 : b ≠ a) (h2 : b ≠ g) : b ∉ [a, g] := by simp [h1, h2]
theorem _root_.Pg.Fr.loc2 {p q : Addr} (h : Fr S H H1) (n : H p = none) (m : H q = none) (h' : Fr [p, q] H1 H2) : Fr S H H2 := fun b o z e => by
  refine h' b o (nn3 ?_ ?_) (h b o z e)
  · intro q
    rw [q, n] at e
    cases e
  · intro q
    rw [q, m] at e
    cases e
/-! ### pop, repr, texts of ints -/
theorem w_pop0 {ns : List Int} {m : Int} (h : H a = some (.lst ((m :: ns).map V.int))) (q : Q (.int m) (upd H a (.lst (ns.map V.int)))) : rPopAt (.ref a) [.int 0] H Q := by
  refine ⟨a, _, 0, 0, .int m, rfl, rfl, h, by decide, by decide, ?_, rfl, q⟩
  simp [seqIndex?]
end
def rReprI : List V → Hp → VK → Prop := fun xs H Q => ∃ i, xs = [.int i] ∧ i.natAbs.log2 < 1920 ∧ Q (.str (toString i)) H
theorem call_reprI {X : Cx} : CallR X (.builtin "repr") rReprI := SkE.call_repr_int
theorem w_reprI {i : Int} {H : Hp} {Q : VK} (h : i.natAbs.log2 < 1920) (q : Q (.str (toString i)) H) : rReprI [.int i] H Q := ⟨i, rfl, h, q⟩
theorem log_lt {i : Int} (h : i.natAbs < 2 ^ 250) : i.natAbs.log2 < 1920 := Nat.lt_of_lt_of_le (PySem.Flt.log2_lt_of (by decide) h) (by decide)
theorem w_eqS {s t : Str} {H : Hp} {Q : VK} (q : Q (.bl (decide (s = t))) H) : rEq (.str s) (.str t) H Q := ⟨rfl, by
  have e : decide (V.str s = V.str t) = decide (s = t) := by
    by_cases z : s = t
    · subst z
      rw [decide_eq_true rfl, decide_eq_true rfl]
    · rw [decide_eq_false z, decide_eq_false fun q => z (V.str.inj q)]
  rw [e]
  exact q⟩
theorem w_neS {s t : Str} {H : Hp} {Q : VK} (q : Q (.bl (!decide (s = t))) H) : rNe (.str s) (.str t) H Q := ⟨rfl, by
  have e : decide (V.str s = V.str t) = decide (s = t) := by
    by_cases z : s = t
    · subst z
      rw [decide_eq_true rfl, decide_eq_true rfl]
    · rw [decide_eq_false z, decide_eq_false fun q => z (V.str.inj q)]
  rw [e]
  exact q⟩
/-! ### slices, counts, pops -/
def cutI (ns : List Int) (lo hi : Option Int) : List Int := (ns.drop (HT.sIx ns.length 0 lo)).take (HT.sIx ns.length ns.length hi - HT.sIx ns.length 0 lo)
theorem cutV_ints (ns : List Int) (lo hi : Option Int) : cutV (ns.map V.int) lo hi = (cutI ns lo hi).map V.int := by
  unfold cutV cutI
  rw [List.length_map, List.map_take, List.map_drop]
theorem cutI_mem {ns : List Int} {lo hi : Option Int} {x : Int} (h : x ∈ cutI ns lo hi) : x ∈ ns := List.mem_of_mem_drop (List.mem_of_mem_take h)
theorem cutI_len (ns : List Int) (lo hi : Option Int) : (cutI ns lo hi).length ≤ ns.length := by
  unfold cutI
  rw [List.length_take, List.length_drop]
  omega
theorem cutI_take (ns : List Int) (n : Nat) : cutI ns none (some (n : Int)) = ns.take n := by
  unfold cutI
  rw [HT.sIx_nat, HT.sIx_none, List.drop_zero, Nat.sub_zero]
  by_cases h : n ≤ ns.length
  · rw [Nat.min_eq_left h]
  · rw [Nat.min_eq_right (by omega), List.take_length, List.take_of_length_le (by omega)]
theorem cutI_drop (ns : List Int) (n : Nat) : cutI ns (some (n : Int)) none = ns.drop n := by
  unfold cutI
  rw [HT.sIx_nat, HT.sIx_none]
  by_cases h : n ≤ ns.length
  · rw [Nat.min_eq_left h, List.take_of_length_le (by rw [List.length_drop]; omega)]
  · rw [Nat.min_eq_right (by omega), List.drop_length, List.drop_of_length_le (by omega)]
    simp
def PartE (R : Option Int → Hp → Prop) : V → Hp → Prop := fun x H1 => ∃ i, x = .int i ∧ R (some i) H1
section
variable {K : PySem.W.Frag} {σ : L2.St} {H : Hp} {ta tb te : TE} {Q : VK} {a p : Addr} {ns ms : List Int} {xs ys : List V} {m n : Int} {v x y : V} {tl th : TO}
theorem w_sl {r : V → Option Int → Option Int → Hp → VK → Prop} (h : te σ H fun x H1 => tl σ H1 fun l H2 => th σ H2 fun u H3 => r x l u H3 Q) : tSl r te tl th σ H Q := h
theorem w_noPart {R : Option Int → Hp → Prop} (h : R none H) : tNoPart σ H R := h
theorem w_part {R : Option Int → Hp → Prop} (h : te σ H (PartE R)) : tPart te σ H R := h
theorem w_partE {R : Option Int → Hp → Prop} (h : R (some m) H) : PartE R (.int m) H := ⟨m, rfl, h⟩
theorem w_slI {lo hi : Option Int} (h : SqL K H a (ns.map V.int)) (q : ∀ p, H p = none → Q (.ref p) (upd H p (.lst ((cutI ns lo hi).map V.int)))) : rSlL K (.ref a) lo hi H Q := ⟨a, _, rfl, h, fun p hp => by rw [cutV_ints]; exact q p hp⟩
theorem w_lcount (h : SqL K H a (ns.map V.int)) (q : Q (.int (ns.count m : Nat)) H) : rCntI K (.ref a) [.int m] H Q := ⟨a, ns, m, rfl, rfl, h, q⟩
theorem w_popAt (h : H a = some (.lst (ns.map V.int))) (h0 : 0 ≤ m) (h1 : m < ns.length) (hz : ns.length ≤ 16777216) (q : ∀ n, ns[m.toNat]? = some n → Q (.int n) (upd H a (.lst ((ns.eraseIdx m.toNat).map V.int)))) : rPopAt (.ref a) [.int m] H Q := by
  obtain ⟨n, hn, e2, e3⟩ := atI_ints h0 h1
  refine ⟨a, _, m, m.toNat, .int n, rfl, rfl, h, by omega, by omega, ?_, by rw [List.getElem?_map, e3]; rfl, by rw [erase_mapI]; exact q n e3⟩
  have hneg : ¬ m < 0 := by omega
  simp only [seqIndex?, List.length_map, hneg, if_false]
  rw [if_pos]
  simp only [Bool.and_eq_true, decide_eq_true_eq]
  omega
theorem w_setLI {Q : Hp → Prop} (h : H p = some (.lst (ns.map V.int))) (h0 : 0 ≤ m) (h1 : m < ns.length) (q : Q (upd H p (.lst ((ns.set m.toNat n).map V.int)))) : rSetL (.ref p) (.int m) (.int n) H Q := by
  refine ⟨p, _, m, m.toNat, rfl, rfl, h, ?_, by rw [← List.map_set]; exact q⟩
  rw [List.length_map]
  have z : ((m.toNat : Nat) : Int) = m := Int.toNat_of_nonneg h0
  unfold ixN
  rw [if_pos h0, if_pos h1]
theorem w_catLL {q : Addr} (h1 : H p = some (.lst xs)) (h2 : H q = some (.lst ys)) (e : xs = (unV xs).map V.int) (e2 : ys = (unV ys).map V.int) (hz : (unV xs).length + (unV ys).length ≤ 16777216) (k : ∀ r, H r = none → Q (.ref r) (upd H r (.lst ((unV xs ++ unV ys).map V.int)))) : rCat (.ref p) (.ref q) H Q :=
  w_catI (by rw [← e]; exact h1) (by rw [← e2]; exact h2) hz k
theorem w_isN (q : Q (.bl (decide (x = .non))) H) : rIsN x .non H Q := ⟨rfl, q⟩
theorem w_notN (q : Q (.bl (!decide (x = .non))) H) : rNotN x .non H Q := ⟨rfl, q⟩
theorem w_isNN (q : Q (.bl true) H) : rIsN .non .non H Q := ⟨rfl, q⟩
theorem w_isNI (q : Q (.bl false) H) : rIsN (.int m) .non H Q := ⟨rfl, q⟩
theorem w_isNR (q : Q (.bl false) H) : rIsN (.ref a) .non H Q := ⟨rfl, q⟩
theorem w_notNN (q : Q (.bl false) H) : rNotN .non .non H Q := ⟨rfl, q⟩
theorem w_notNI (q : Q (.bl true) H) : rNotN (.int m) .non H Q := ⟨rfl, q⟩
theorem w_notNR (q : Q (.bl true) H) : rNotN (.ref a) .non H Q := ⟨rfl, q⟩
def OrE (K : PySem.W.Frag) (tb : TE) (σ : L2.St) (Q : VK) : V → Hp → Prop := fun x H1 => ∃ k, TruV K x H1 k ∧ if k = true then Q x H1 else tb σ H1 Q
theorem w_orT (h : ta σ H (OrE K tb σ Q)) : tOrT K ta tb σ H Q := h
theorem w_orN (h : tb σ H Q) : OrE K tb σ Q .non H := ⟨false, rfl, w_iteF h⟩
theorem w_orI (h0 : m ≠ 0) (h : Q (.int m) H) : OrE K tb σ Q (.int m) H := ⟨true, by show true = _; simp [h0], w_iteT h⟩
theorem w_appV (h : H p = some (.lst xs)) (hz : xs.length < 16777216) (q : Q .non (upd H p (.lst (xs ++ [y])))) : rAppend (.ref p) [y] H Q := w_append h (szlt hz) q
theorem w_rep3 (h : H a = some (.lst [v])) (q : ∀ r, H r = none → Q (.ref r) (upd H r (.lst [v, v, v]))) : rRep (.ref a) (.int 3) H Q :=
  ⟨a, 3, _, rfl, rfl, h, by decide, by decide, szle rfl, fun r hr => q r hr⟩
end
theorem cmulW {i j : Int} {a b : Nat} (ha : i.natAbs < 2 ^ a) (hb : j.natAbs < 2 ^ b) (h : a + b < 1000000) (ha0 : 0 < a) (hb0 : 0 < b) : CMulW i j := by
  have h1 := PySem.Flt.log2_lt_of ha0 ha
  have h2 := PySem.Flt.log2_lt_of hb0 hb
  show i.natAbs.log2 + j.natAbs.log2 < 1000000
  omega
section
variable {σ : L2.St} {H : Hp} {ta tb : TE} {Q : VK} {b : Bool}
theorem w_andV (h : ta σ H fun x H1 => ∃ c, x = .bl c ∧ if c = true then tb σ H1 Q else Q (.bl false) H1) : tAndV ta tb σ H Q := h
theorem w_orV (h : ta σ H fun x H1 => ∃ c, x = .bl c ∧ if c = true then Q (.bl true) H1 else tb σ H1 Q) : tOrV ta tb σ H Q := h
theorem w_notV (h : ta σ H fun x H1 => ∃ c, x = .bl c ∧ Q (.bl (!c)) H1) : tNotV ta σ H Q := h
end
/-! ### range(i, j, -1), slices with a step -/
def Rng3E (R : It → Hp → Prop) : List V → Hp → Prop := fun vs H1 => ∃ (i j c : Int) (n : Nat), vs = [.int i, .int j, .int c] ∧ RgC i j c n ∧ R (Itc i c n) H1
section
variable {K : PySem.W.Frag} {σ : L2.St} {H : Hp} {D : Ends} {ta : TA} {R : It → Hp → Prop} {g : TG} {tb : TS} {te : TE} {tl ts : TO} {Q : VK} {a : Addr} {ns : List Int} {n : Nat} {i c : Int} {lo st : Option Int} {x : V}
theorem w_rng3 (h : ta σ H (Rng3E R)) : iRng3 ta σ H R := h
theorem f_rangeC (Pv : Nat → L2.St → Hp → Prop) (h0 : Pv 0 σ H) (hs : ∀ k σ H, k < n → Pv k σ H → g (.int (i + (k : Nat) * c)) σ H fun σ2 H2 => tb { D with nx := Pv (k + 1), ct := Pv (k + 1), bk := D.nx } σ2 H2) (hd : ∀ σ H, Pv n σ H → D.nx σ H) :
    ForB g tb D σ (Itc i c n) H := for_rangeC Pv h0 hs hd
def SlsE (K : PySem.W.Frag) (Q : VK) (x : V) (lo : Option Int) : Option Int → Hp → Prop := fun st H3 => ∃ a xs, x = .ref a ∧ SqL K H3 a xs ∧ st ≠ some 0 ∧ (pickSl xs lo st).length ≤ sizeLine ∧ ∀ p, H3 p = none → Q (.ref p) (upd H3 p (.lst (pickSl xs lo st)))
theorem w_sls (h : te σ H fun x H1 => tl σ H1 fun lo H2 => ts σ H2 (SlsE K Q x lo)) : tSlStep K te tl ts σ H Q := h
theorem pickSl_map (ns : List Int) : pickSl (ns.map V.int) lo st = (pickSl ns lo st).map V.int := by
  unfold pickSl
  rw [List.length_map, List.map_filterMap]
  congr 1
  funext k
  rw [List.getElem?_map]
theorem w_slsE (h : SqL K H a (ns.map V.int)) (h0 : st ≠ some 0) (hz : (pickSl ns lo st).length ≤ 16777216) (q : ∀ p, H p = none → Q (.ref p) (upd H p (.lst ((pickSl ns lo st).map V.int)))) : SlsE K Q (.ref a) lo st H :=
  ⟨a, _, rfl, h, h0, by rw [pickSl_map, List.length_map]; exact szle' hz, fun p hp => by rw [pickSl_map]; exact q p hp⟩
end
theorem w_rng3N {H : Hp} {R : It → Hp → Prop} {i j : Int} (h : -(2 ^ 62) ≤ i ∧ i < 2 ^ 62 ∧ -(2 ^ 62) ≤ j ∧ j < 2 ^ 62) (q : R (Itc i (-1) (i - j).toNat) H) : Rng3E R [.int i, .int j, .int (-1)] H :=
  ⟨i, j, -1, _, rfl, RgC.neg h.1 h.2.1 h.2.2.1 h.2.2.2, q⟩
theorem w_appendR {H : Hp} {Q : VK} {p y : Addr} {ps : List Addr} (h : H p = some (.lst (ps.map V.ref))) (hz : ps.length < 16777216) (q : Q .non (upd H p (.lst ((ps ++ [y]).map V.ref)))) : rAppend (.ref p) [.ref y] H Q :=
  w_append h (by rw [List.length_map]; exact szlt hz) (by rw [show ps.map V.ref ++ [V.ref y] = (ps ++ [y]).map V.ref by simp]; exact q)
section
variable {K : PySem.W.Frag} {σ : L2.St} {H : Hp} {te : TE} {Q : VK} {a : Addr} {ns : List Int}
def RevE (K : PySem.W.Frag) (Q : VK) : V → Hp → Prop := fun x H1 => ∃ a xs, x = .ref a ∧ SqL K H1 a xs ∧ ∀ p, H1 p = none → Q (.ref p) (upd H1 p (.lst xs.reverse))
theorem w_revL (h : te σ H (RevE K Q)) : tRevL K te σ H Q := h
theorem w_revE (h : SqL K H a (ns.map V.int)) (q : ∀ p, H p = none → Q (.ref p) (upd H p (.lst (ns.reverse.map V.int)))) : RevE K Q (.ref a) H := ⟨a, _, rfl, h, fun p hp => by rw [← List.map_reverse]; exact q p hp⟩
end
theorem w_whileJ {c : TT} {tb : TS} {D : Ends} {σ : L2.St} {H : Hp} (I : L2.St → Hp → Prop) (h : ∀ N : L2.St → Hp → Prop, (∀ σ H, I σ H → N σ H) → tWhile c tb { D with nx := N } σ H) (k : ∀ σ H, I σ H → D.nx σ H) : tWhile c tb D σ H := h D.nx k
theorem w_appER {L R : Addr} {N : Hp → Prop} {rs : List Addr} {H : Hp} (h : H L = some (.lst (rs.map V.ref))) (hz : rs.length < 16777216) (q : N (upd H L (.lst ((rs ++ [R]).map V.ref)))) : AppE L N (.ref R) H := ⟨_, h, by rw [List.length_map]; exact szlt hz, by rw [show rs.map V.ref ++ [V.ref R] = (rs ++ [R]).map V.ref by simp]; exact q⟩
end Pg

namespace Pg
open PySem PySem.Spec PyProof.Rows L2
/-! ### defs that are run where no repr is under way -/
structure FnG (P : Program) (w : World) (K : PySem.W.Frag) (mg : Str → Option Value) (base : Heap) (k : Nat) (f : Addr) (fd : FuncData) (ps : List Str) (sp : Sp) : Prop where
  len : ∀ vs H Q E, sp vs H Q E → vs.length = ps.length
  run : ∀ (A : Around) (outer : List Env) (s : Shared) (H : Hp) (args : Args) (us : List Value) (vs : List V) (Q : VK) (E : XK), Room k A → A.guards = some [] → Env0 P w K mg base A outer s H →
    BindsTo s fd args (ps.zip us) → Vals vs us → sp vs H Q E → codeAny (model P w) A (.call (.ref f) args) (CR CX0 outer P w H s Q E) s
structure GefAt (P : Program) (w : World) (K : PySem.W.Frag) (mg : Str → Option Value) (base : Heap) (x : Str) (st : Stmt) (k : Nat) (ps : List Str) (sp : Sp) : Prop where
  ex : ∃ f fd, mg x = some (.ref f) ∧ Fun K x x st f fd ∧ FnG P w K mg base k f fd ps sp ∧ Binds K fd ps []
section
variable {P : Program} {w : World} {K : PySem.W.Frag} {mg : Str → Option Value} {base : Heap} {x : Str} {st : Stmt} {k : Nat} {ps N : List Str} {sp : Sp}
theorem CE.of_inv {qual : Str} {scope : Scope} {f : Addr} {cd : Value} {A : Around} {outer : List Env} {s s' : Shared} {H H' : Hp} {E : XK} {σ : L2.St} {v : V} {u : Value} {Q : VK}
    (J : Inv (cxOf CX0 P w K mg base N qual scope f cd A outer s H E) [] σ H' s') (r : RelV v u) (q : Q v H') : CE outer P w H s Q u s' := ⟨v, H', J.os, J.bare, J.base, J.hok, r, q⟩
/-- a def by its body, which may look at what is under way -/
theorem FunAt.okG (F : FunAt K mg x st) (S : FnScope N ps (defScope st)) (len : ∀ vs H Q E, sp vs H Q E → vs.length = ps.length)
    (hb : ∀ (kV doc pm : Value) (an : Option Addr) (cdv ct : Value) (us : List Value), us.length = ps.length → bindArgs (PySem.W.fnOf x x (defArgs st) (defBody st) (defScope st) .none kV doc pm an cdv ct) ⟨us, []⟩ = pure (ps.zip us))
    (hbody : ∀ (f : Addr) (cdv : Value) (A : Around) (outer : List Env) (s : Shared) (H : Hp) (vs : List V) (Q : VK) (E : XK), Room k (A.deeper (envOfC x (defScope st) s.heap.objs.size f cdv)) → (A.deeper (envOfC x (defScope st) s.heap.objs.size f cdv)).guards = some [] → sp vs H Q E →
      ∃ t, PSs (cxOf CX0 P w K mg base N x (defScope st) f cdv A outer s H E).nox (defBody st) t ∧ t { nx := fun _ H' => Q .non H', rt := Q } (start N vs) H) : GefAt P w K mg base x st (k + 1) ps sp := by
  obtain ⟨f, fd, hm, F⟩ := F.ex
  refine ⟨f, fd, hm, F, ⟨len, ?_⟩, F.binds hb⟩
  obtain ⟨oc, od, kV, doc, pm, an, cdv, ct, osl, rfl, lk, hcd⟩ := F.ex
  intro A outer s H args us vs Q E hr hg e0 bt rv hsp
  have there : ∀ b o, base.get? b = some o → s.heap.get? b = some o := fun b o e => (e0.bs b o e).1
  have hK := e0.mod.kin.keeps there
  have hlim := e0.mod.nolimit.keeps there
  have kinds : ∀ y ∈ ps.zip us, (defScope st).names.lookup y.1 = some .local ∨ ((defScope st).names.lookup y.1 = some .cell ∧ ((cellsFrom (s.heap.objs.size + 1) (defScope st).names []).lookup y.1).isSome = true) := by
    rintro ⟨n, v⟩ hy
    cases S.par n (List.of_mem_zip hy).1 with
    | inl q => exact .inl q
    | inr q => exact .inr ⟨q, PySem.W.cellsFrom_some _ _ _ (.inl q)⟩
  obtain ⟨t, ht, hq⟩ := hbody f cdv A outer s H vs Q E (hr.deeper _) hg hsp
  have ht := ht.nox
  apply codeAny_call_function hr.depth (hK _ _ lk) rfl S.co S.gen rfl (PySem.W.codeRec_of hK hcd)
  apply bt
  apply wpAny_newFunctionEnv_cells S.kind kinds
  rintro env rfl s1 ic
  refine ⟨hlim.keeps ic.toInCall.keep, codeAny_func ?_⟩
  have I := inv_start (CX := CX0) (P := P) (w := w) (K := K) (mg := mg) (base := base) (E := E) S hr.hd e0 (len _ _ _ _ hsp) rv ic
  refine wpAny_mono (ht.run [] s1 (start N vs) H _ I hq) ?_ (fun _ _ z => z)
  intro fl s' hs
  match fl, hs with
  | .ret u, ⟨v, σ', H', J, r, q⟩ => exact CE.of_inv J r q
  | .next, ⟨σ', H', J, q⟩ => exact CE.of_inv (v := V.non) (u := Value.none) J rfl q
  | .brk, ⟨_, _, _, q⟩ => exact q.elim
  | .cont, ⟨_, _, _, q⟩ => exact q.elim
end
section
variable {X : Cx} {x : Str} {st : Stmt} {k : Nat} {ps : List Str} {sp : Sp} {e : Expr} {es : List Expr} {t : TA} {p pos : Pos}
theorem pe_callG (D : GefAt X.prog X.w X.K X.mg X.base x st k ps sp) (hr : Room k X.A) (gu : X.A.guards = some []) (ha : PA X (e :: es) t) (hg : Gl X x := by rfl)
    (hdb : (x == ("__debug__" : Str)) = false := by decide) (he : starEach (e :: es) X.env = (false, eval e X.env) :: starEach es X.env := by rfl) (hpl : (backTo pos (starEach es X.env)).any (·.1) = false := by rfl) :
    PE X (.Call (.Name x p) (e :: es) [] pos) (tCall sp [] E0 t) := by
  obtain ⟨f, fd, hm, F, G, b⟩ := D.ex
  constructor
  intro pins s σ H Q I h
  apply wpAny_Call_Name_kw (ld_glob I hg hm ?_ hdb)
  apply PySem.W.callWith_K (h₀ := X.base) I.ok.mod.kin F.kp ?_ he hpl
  refine thn (ha.run pos pins s σ H _ I h) ?_
  rintro us s1 ⟨vs, H1, I1, r, q⟩
  refine ⟨I1.kIn, wpAny_call (codeAny_mono (G.run X.A X.stack s1 H1 ⟨us, []⟩ (us ++ []) (vs ++ []) Q E0 hr gu I1.env0 (b s1 us I1.kIn ?_) (r.append .nil) q) ?_)⟩
  · rw [← (r.append (Paired.nil : Vals [] [])).length]
    exact G.len _ _ _ _ q
  · intro rr s' hq
    match rr, hq with
    | .error e, hq => exact (pass0 (X := X) pins σ H1 s1 e s' I1 hq)
    | .ok (.ret u), hq => exact I1.after hq
    | .ok .next, hq => exact hq.elim
    | .ok .brk, hq => exact hq.elim
    | .ok .cont, hq => exact hq.elim
end
/-! ### repr of data -/
def rReprD (K : PySem.W.Frag) : List V → Hp → VK → Prop := fun xs H Q => ∃ (a : Addr) (d : PyData), xs = [.ref a] ∧ Dp K H (.ref a) d ∧ d.showable = true ∧ SeqAt.shaped d = true ∧ d.shown.length ≤ sizeLine ∧ Q (.str d.shown) H
theorem call_reprD {X : Cx} (hg : X.A.guards = some []) (hu : X.A.units + 100 < cLine) : CallR X (.builtin "repr") (rReprD X.K) := by
  intro pins s σ H xs us Q I r h
  obtain ⟨a, d, rfl, hd, hs, hsh, hz, q⟩ := h
  obtain ⟨u, rfl, ru⟩ := vals1 r
  obtain ⟨as, r1⟩ := Dp.reads I d _ u hd ru
  cases ru
  have hsh' : (PyData.canLay0 d && decide (PyData.depth d ≤ 64)) = true := hsh
  obtain ⟨c1, c2⟩ := Bool.and_eq_true_iff.mp hsh'
  have c3 := of_decide_eq_true c2
  refine repr_of_reads' r1 hs (PyData.noDict_hsm (PyData.hasDict_of_canLay d c1)) hg (by omega) (fun _ _ e => e) (fun h' u tk hk => ?_) hz
  exact ⟨.str _, H, I.kept (t' := tk) fun b o e => hk b o e, ⟨_, rfl⟩, q⟩
theorem gu_of {k : Nat} {A : Around} (r : Room k A) : A.units + 100 < cLine := by have := r.un; omega
/-! ### the end -/
def scr (K : PySem.W.Frag) (a : Addr) (ob : Obj) (xs : List V) : Hp := fun b => if b = a ∧ K.lookup a = none then some (.frz ob (.lst xs)) else none
theorem scr_cases (K : PySem.W.Frag) (a : Addr) (ob : Obj) (xs : List V) (b : Addr) : scr K a ob xs b = none ∨ (b = a ∧ K.lookup a = none ∧ scr K a ob xs b = some (.frz ob (.lst xs))) := by
  by_cases h : b = a ∧ K.lookup a = none
  · exact .inr ⟨h.1, h.2, if_pos h⟩
  · exact .inl (if_neg h)
theorem law_callG {P : Program} {w : World} {K : PySem.W.Frag} {mg mb : Str → Option Value} {k : Nat} {fa a : Addr} {fd : FuncData} {x : Str} {sp : Sp} {s₁ : Shared} {vs : List Value} {ns : List Int}
    (KX : K.In s₁.heap) (hns : s₁.heap.Ns mainGlobals mg) (hb : s₁.heap.Ns builtinsNs mb) (hbb : ∀ x : Str, x ≠ "__name__" → mb x = bootBuiltins x) (hlim : s₁.heap.NoLimit) (hg : s₁.gens = #[])
    (ha : s₁.heap.get? a = some { cls := .type "list", data := .seq vs.toArray }) (hi : IntsAre vs ns) (hl : ns.length ≤ sizeLine) (hr : Room k callerA)
    (F : ∀ base : Heap, K.In base → base.Ns mainGlobals mg → FnG P w K mg base k fa fd [x] sp) (hbind : ∀ (s : Shared) (u : Value), BindsTo s fd ⟨[u], []⟩ [(x, u)])
    (hsp : ∀ H : Hp, SqL K H a (ns.map V.int) → sp [.ref a] H (fun v _ => v = .bl true) fun _ _ _ => False) :
    codeAny (model P w) callerA (.call (.ref fa) ⟨[.ref a], []⟩) (fun r s' => r = .ok (.ret (.bool true)) ∧ OldK s₁.heap s'.heap ∧ s'.os = s₁.os ∧ AllBare s'.gens) s₁ := by
  have rv := vals_ints hi
  let ob : Obj := { cls := .type "list", data := .seq vs.toArray }
  let H : Hp := scr K a ob (ns.map V.int)
  have cs := scr_cases K a ob (ns.map V.int)
  have hok : HOk P w H s₁.heap := by
    intro b u z
    rcases cs b with q | ⟨rfl, _, q⟩
    · rw [show H b = none from q] at z
      cases z
    · rw [show H b = _ from q] at z
      cases z
      exact ⟨ha, by rw [List.length_map]; exact hl, vs, _, rv, ha⟩
  have hS : SqL K H a (ns.map V.int) := by
    cases hk : K.lookup a with
    | none => exact .inl (.inr ⟨ob, if_pos ⟨rfl, hk⟩⟩)
    | some o =>
      have e := (KX a o hk).symm.trans ha
      cases e
      exact .inr ⟨_, vs.toArray, _, hk, rfl, rfl, rfl, by rw [List.size_toArray, hi.length]; exact hl, by simpa using rv⟩
  have free : ∀ {b : Addr} {o : Obj}, s₁.heap.get? b = some o → (∀ q n, o.data ≠ .seq q n) → H b = none := by
    intro b o e n
    rcases cs b with q | ⟨rfl, _, _⟩
    · exact q
    · rw [ha] at e
      cases e
      exact absurd rfl (n _ _)
  have nsB : ∀ {b : Addr} {m : Str → Option Value}, s₁.heap.Ns b m → (hidT s₁.heap H).Ns b m := by
    rintro b m ⟨o, es, ep, e, d, r⟩
    exact ⟨o, es, ep, hidT_get e (free e fun q n z => by rw [d] at z; cases z), d, r⟩
  have kB : K.In (hidT s₁.heap H) := by
    intro b o e
    refine hidT_get (KX b o e) ?_
    rcases cs b with q | ⟨rfl, z, _⟩
    · exact q
    · rw [z] at e
      cases e
  obtain ⟨mc, l1, l2⟩ := hlim
  have e0 : Env0 P w K mg (hidT s₁.heap H) callerA [] s₁ H :=
    { frames := rfl, mod := ⟨kB, nsB hns, ⟨mb, nsB hb, hbb⟩, ⟨mc, nsB l1, l2⟩⟩, bs := fun b o e => of_hidT e, bsz := Nat.le_of_eq (hidT_size _ _), funs := trivial, frf := (fun b z => by cases z), hok := hok, bare := .of_eq hg }
  refine codeAny_mono ((F _ kB (nsB hns)).run callerA [] s₁ H ⟨[.ref a], []⟩ [.ref a] [.ref a] _ _ hr rfl e0 (hbind s₁ (.ref a)) (.cons rfl .nil) (hsp H hS)) ?_
  intro r s' h
  match r, h with
  | .error e, h => exact (show False from h).elim
  | .ok .next, h => exact h.elim
  | .ok .brk, h => exact h.elim
  | .ok .cont, h => exact h.elim
  | .ok (.ret u), ⟨v, H', os, bare, un, hok', r', q⟩ =>
    have q : v = .bl true := q
    subst q
    have r' : u = Value.bool true := r'
    subst r'
    refine ⟨rfl, OldK.of_keep ?_, os, bare⟩
    intro b o e
    rcases cs b with q | ⟨rfl, z, q⟩
    · exact un.keep b o e q (fun z => by cases z) (by simp)
    · obtain ⟨e2, _⟩ := hok' b _ (un.frzs b ob _ q)
      rw [ha] at e
      cases e
      exact e2
theorem walk_G {l : PySem.W.OpenLaw} {n k : Nat} {q : Program} {loose : List Str} {XP : (Str → Option Value) → Heap → Prop} {YP : World → Heap → Prop} {d : DefRec} {K : Params → PySem.W.Frag} {x : Str} {sp : World → Sp}
    (hn : l.most = some n) (hn2 : n ≤ sizeLine) (hdf : d.params.defaults = []) (hr : Room k callerA) (hY : ∀ (w : World) (h : Heap), YP w h → (K w.params).In h)
    (F : ∀ (w : World) (mg : Str → Option Value) (fa : Addr) (h : Heap), (K w.params).In h → h.Ns mainGlobals mg → mg d.name = some (.ref fa) →
      ∃ fd : FuncData, (∀ (s : Shared) (u : Value), BindsTo s fd ⟨[u], []⟩ [(x, u)]) ∧ ∀ base : Heap, (K w.params).In base → base.Ns mainGlobals mg → FnG l.prog w (K w.params) mg base k fa fd [x] (sp w))
    (hsp : ∀ (w : World) (H : Hp) (a : Addr) (ns : List Int), ns.length ≤ n → (∀ z ∈ ns, Builtin.Int.intBits z ≤ 1048576) → SqL (K w.params) H a (ns.map V.int) → sp w [.ref a] H (fun v _ => v = .bl true) fun _ _ _ => False) :
    PySem.W.WalkO q loose XP YP l.row.toRowW d [] (fun f vs => PySem.call f vs) := by
  refine Att.attach_callB hn hdf ?_
  intro w s₀ s₁ mg mb fa o pm cd doc a vs ns G Y ho hd hcd hmg hobj hints hlen hbits hg
  obtain ⟨fd, hb, hF⟩ := F w mg fa _ (hY w _ Y) G.T.g hmg
  exact law_callG (hY w _ Y) G.T.g G.T.b G.T.builtins G.T.nolimit hg hobj hints (Nat.le_trans hlen hn2) hr hF hb (fun H hS => hsp w H a ns hlen hbits hS)
/-! ### data that can be shown -/
structure Fine (d : PyData) : Prop where
  s : d.showable = true
  p : SeqAt.shaped d = true
  l : d.leavesShort 50 = true
  b : d.bulk ≤ 100000
theorem w_reprD {K : PySem.W.Frag} {H : Hp} {Q : VK} {a : Addr} {d : PyData} (h : Dp K H (.ref a) d) (f : Fine d) (q : Q (.str d.shown) H) : rReprD K [.ref a] H Q := by
  refine ⟨a, d, rfl, h, f.s, f.p, ?_, q⟩
  have h1 := PyData.shown_le_bulk 50 (by decide) d f.l
  have h2 := f.b
  rw [sizeLine_eq]
  omega
theorem showable_int {i : Int} (h : i.natAbs < 10 ^ 40) : (PyData.int i).showable = true := by
  have := log_lt (i := i) (Nat.lt_of_lt_of_le h (by decide))
  simp only [PyData.showable, this, decide_true]
theorem short_int {i : Int} (h : i.natAbs < 10 ^ 40) : (PyData.int i).leavesShort 50 = true := by
  have e := int_text_length_le10 (k := 40) (by decide) h
  have e2 : (PyData.shown (.int i)).length = (toString i).length := by
    simp only [PyData.shown]
    exact PySem.ofString_length (toString i)
  simp only [PyData.leavesShort, e2]
  exact decide_eq_true (by omega)
theorem showable_ints : ∀ {ns : List Int}, (∀ x ∈ ns, x.natAbs < 10 ^ 40) → PyData.showableAll (ns.map PyData.int) = true
  | [], _ => rfl
  | n :: ns, h => by
    have ih := showable_ints (ns := ns) fun x hx => h x (List.mem_cons_of_mem _ hx)
    have h1 := showable_int (h n List.mem_cons_self)
    simp only [List.map_cons, PyData.showableAll, ih, h1, Bool.and_self]
theorem short_ints : ∀ {ns : List Int}, (∀ x ∈ ns, x.natAbs < 10 ^ 40) → PyData.leavesShortAll 50 (ns.map PyData.int) = true
  | [], _ => rfl
  | n :: ns, h => by
    have ih := short_ints (ns := ns) fun x hx => h x (List.mem_cons_of_mem _ hx)
    have h1 := short_int (h n List.mem_cons_self)
    simp only [List.map_cons, PyData.leavesShortAll, ih, h1, Bool.and_self]
theorem bulk_ints : ∀ ns : List Int, PyData.bulkAll (ns.map PyData.int) = ns.length
  | [] => rfl
  | n :: ns => by
    have ih := bulk_ints ns
    simp only [List.map_cons, PyData.bulkAll, PyData.bulk, ih, List.length_cons]
    omega
def dI (ns : List Int) : PyData := .list (ns.map PyData.int)
theorem fine_ints {ns : List Int} (h : ∀ x ∈ ns, x.natAbs < 10 ^ 40) (hl : ns.length ≤ 10000) : Fine (dI ns) :=
  ⟨by simp only [dI, PyData.showable]; exact showable_ints h, shaped_ints ns, by simp only [dI, PyData.leavesShort]; exact short_ints h, by simp only [dI, PyData.bulk]; rw [bulk_ints]; omega⟩
structure FineAll (ds : List PyData) : Prop where
  s : PyData.showableAll ds = true
  c : PyData.canLayAll0 ds = true
  d : PyData.depthAll ds ≤ 40
  l : PyData.leavesShortAll 50 ds = true
theorem FineAll.nil : FineAll [] := ⟨rfl, rfl, by simp [PyData.depthAll], rfl⟩
theorem FineAll.cons {d : PyData} {ds : List PyData} (f : d.showable = true) (c : d.canLay0 = true) (dp : d.depth ≤ 40) (l : d.leavesShort 50 = true) (r : FineAll ds) : FineAll (d :: ds) :=
  ⟨by simp only [PyData.showableAll, f, r.s, Bool.and_self], by simp only [PyData.canLayAll0, c, r.c, Bool.and_self], by have := r.d; simp only [PyData.depthAll]; omega, by simp only [PyData.leavesShortAll, l, r.l, Bool.and_self]⟩
theorem FineAll.cons_ints {ns : List Int} {ds : List PyData} (h : ∀ x ∈ ns, x.natAbs < 10 ^ 40) (r : FineAll ds) : FineAll (dI ns :: ds) :=
  .cons (by simp only [dI, PyData.showable]; exact showable_ints h) (by simp only [dI, PyData.canLay0]; exact canLay_ints ns) (by have := depth_ints ns; simp only [dI, PyData.depth]; omega) (by simp only [dI, PyData.leavesShort]; exact short_ints h) r
theorem FineAll.cons_lst {xs ds : List PyData} (f : FineAll xs) (dp : PyData.depthAll xs ≤ 30) (r : FineAll ds) : FineAll (.list xs :: ds) :=
  .cons (by simp only [PyData.showable]; exact f.s) (by simp only [PyData.canLay0]; exact f.c) (by simp only [PyData.depth]; omega) (by simp only [PyData.leavesShort]; exact f.l) r
theorem FineAll.fine {ds : List PyData} (r : FineAll ds) (b : PyData.bulkAll ds ≤ 100000) : Fine (.list ds) :=
  ⟨by simp only [PyData.showable]; exact r.s, by
    unfold SeqAt.shaped
    have h1 : PyData.canLay0 (.list ds) = true := by simp only [PyData.canLay0]; exact r.c
    have h2 : PyData.depth (.list ds) ≤ 64 := by
      have := r.d
      simp only [PyData.depth]
      omega
    rw [h1, decide_eq_true h2]
    rfl, by simp only [PyData.leavesShort]; exact r.l, by simp only [PyData.bulk]; exact b⟩
/-! ### generators -/
structure GnAt (P : Program) (w : World) (K : PySem.W.Frag) (mg : Str → Option Value) (base : Heap) (x : Str) (st : Stmt) (k : Nat) (ps : List Str) (sp : SpG) : Prop where
  ex : ∃ f fd, mg x = some (.ref f) ∧ Fun K x x st f fd ∧ GFn P w K mg base k f fd ps sp ∧ Binds K fd ps []
theorem FunAt.okGn {P : Program} {w : World} {K : PySem.W.Frag} {mg : Str → Option Value} {base : Heap} {x : Str} {st : Stmt} {k : Nat} {ps N : List Str} {sp : SpG} (F : FunAt K mg x st) (S : GScope N ps (defScope st)) (len : ∀ vs H Q E, sp vs H Q E → vs.length = ps.length)
    (hb : ∀ (kV doc pm : Value) (an : Option Addr) (cdv ct : Value) (us : List Value), us.length = ps.length → bindArgs (PySem.W.fnOf x x (defArgs st) (defBody st) (defScope st) .none kV doc pm an cdv ct) ⟨us, []⟩ = pure (ps.zip us))
    (hbody : ∀ (f : Addr) (cdv : Value) (A : Around) (outer : List Env) (s : Shared) (H : Hp) (vs : List V) (Q : List V → Hp → Prop) (E : XK) (pn : List (Addr × Obj)), Room k (A.deeper (envOfC x (defScope st) s.heap.objs.size f cdv)) → sp vs H Q E →
      ∃ t, GSs (gcxOf P w K mg base N x (defScope st) f cdv A outer s H E pn) (defBody st) t ∧ t { nx := fun ys _ H' => Q ys H', rt := fun ys v H' => v = .non ∧ Q ys H' } [] (start N vs) H) : GnAt P w K mg base x st (k + 1) ps sp := by
  obtain ⟨f, fd, hm, F⟩ := F.ex
  refine ⟨f, fd, hm, F, ?_, F.binds hb⟩
  obtain ⟨oc, od, kV, doc, pm, an, cdv, ct, osl, rfl, lk, hcd⟩ := F.ex
  exact gfn_of lk hcd S len fun A outer s H vs Q E pn hr h => hbody f cdv A outer s H vs Q E pn hr h
theorem pe_listGD {X : Cx} {x : Str} {st : Stmt} {k : Nat} {ps : List Str} {sp : SpG} {e : Expr} {es : List Expr} {t : TA} {p p0 p1 pos : Pos} (D : GnAt X.prog X.w X.K X.mg X.base x st k ps sp) (hr : Room (k + 3) X.A) (hgl : Gl X "list") (hml : X.mg "list" = none) (ha : PA X (e :: es) t) (hg : Gl X x := by rfl)
    (hdb : (x == ("__debug__" : Str)) = false := by decide) (he : starEach (e :: es) X.env = (false, eval e X.env) :: starEach es X.env := by rfl) (hpl : (backTo p1 (starEach es X.env)).any (·.1) = false := by rfl)
    (he2 : starEach [.Call (.Name x p) (e :: es) [] p1] X.env = (false, eval (.Call (.Name x p) (e :: es) [] p1) X.env) :: starEach [] X.env := by rfl) :
    PE X (.Call (.Name "list" p0) [.Call (.Name x p) (e :: es) [] p1] [] pos) (tListG (tCallG sp [] E0 t)) := by
  obtain ⟨f, fd, hm, F, G, b⟩ := D.ex
  exact pe_listG (pgen_call G (hr.mono (by omega)) hg hm F.kp b .nil ha hdb he hpl) (fun _ _ _ _ _ _ _ z => by
    obtain ⟨_, _, _, _, _, _, _, _, _, _, _, _, q⟩ := z
    exact q.elim) (fun _ _ _ z => z.elim) hr hgl hml boot_list (by decide) (by decide) he2
section
variable {D : GEnds} {ys : List V} {σ : L2.St} {H : Hp} {t u : TGn} {te : TE} {c : TT} {tb : TGn} {ts : TS}
theorem w_gStart {N : List Str} {vs : List V} {σ' : L2.St} (e : L2.start N vs = σ') (h : t D ys σ' H) : t D ys (L2.start N vs) H := e ▸ h
theorem w_gThen (h : t { D with nx := fun ys' σ' H' => u D ys' σ' H' } ys σ H) : tGThen t u D ys σ H := h
theorem w_gPlain (h : ts (D.at ys) σ H) : tPlain ts D ys σ H := h
theorem w_gYield (hz : ys.length < 16777216) (h : te σ H fun x H1 => D.nx (ys ++ [x]) σ H1) : tGYield te D ys σ H := ⟨szlt hz, h⟩
theorem w_g0 (h : D.nx ys σ H) : tG0 D ys σ H := h
theorem w_at (h : D.nx ys σ H) : (D.at ys).nx σ H := h
end
section
variable {D : GEnds} {ys : List V} {σ : L2.St} {H : Hp} {c : TT} {tb : TGn}
def GWh (W : Nat → List V → L2.St → Hp → Prop) (m : Nat) (tb : TGn) (D : GEnds) (ys : List V) (σ : L2.St) (H1 : Hp) : Prop := ∃ N : List V → L2.St → Hp → Prop, (∀ ys' σ' H', N ys' σ' H' → ∃ m', m' < m ∧ W m' ys' σ' H') ∧ tb { D with nx := N, ct := N, bk := D.nx } ys σ H1
theorem w_gWhile (W : Nat → List V → L2.St → Hp → Prop) (m0 : Nat) (h0 : W m0 ys σ H) (hs : ∀ m ys σ H, W m ys σ H → c σ H fun b H1 => if b = true then GWh W m tb D ys σ H1 else D.nx ys σ H1) : tGWhile c tb D ys σ H := ⟨W, ⟨m0, h0⟩, hs⟩
theorem w_gWh {W : Nat → List V → L2.St → Hp → Prop} {m : Nat} (q : tb { D with nx := fun ys' σ' H' => ∃ m', m' < m ∧ W m' ys' σ' H', ct := fun ys' σ' H' => ∃ m', m' < m ∧ W m' ys' σ' H', bk := D.nx } ys σ H) : GWh W m tb D ys σ H := ⟨_, fun _ _ _ h => h, q⟩
def ListGE (Q : VK) : List V → Hp → Prop := fun out H2 => ∀ p, H2 p = none → Q (.ref p) (upd H2 p (.lst out))
theorem w_listG {tg : TGen} {Q : VK} (h : tg σ H (ListGE Q)) : tListG tg σ H Q := h
theorem w_callG {sp : SpG} {dvs : List V} {E : XK} {t : TA} {cont : List V → Hp → Prop} (h : t σ H fun vs H1 => sp (vs ++ dvs) H1 cont E) : tCallG sp dvs E t σ H cont := h
theorem w_listGE {Q : VK} {out : List V} (h : ∀ p, H p = none → Q (.ref p) (upd H p (.lst out))) : ListGE Q out H := h
end
end Pg

namespace Pg
open PySem PySem.Spec PyProof.Rows L2
/-! ### truths compared; None or a number compared -/
theorem dec_bl {a b : Bool} : decide (V.bl a = V.bl b) = (a == b) := by
  cases a <;> cases b <;> rfl
theorem w_eqB {a b : Bool} {H : Hp} {Q : VK} (q : Q (.bl (a == b)) H) : rEq (.bl a) (.bl b) H Q := ⟨rfl, by rw [dec_bl]; exact q⟩
theorem w_neB {a b : Bool} {H : Hp} {Q : VK} (q : Q (.bl (a != b)) H) : rNe (.bl a) (.bl b) H Q := ⟨rfl, by rw [dec_bl]; exact q⟩
theorem beq_iff {p q : Prop} [Decidable p] [Decidable q] (h : p ↔ q) : (decide p == decide q) = true := by
  by_cases z : p
  · rw [decide_eq_true z, decide_eq_true (h.mp z)]; rfl
  · rw [decide_eq_false z, decide_eq_false fun y => z (h.mpr y)]; rfl
theorem bne_iff {p q : Prop} [Decidable p] [Decidable q] (h : p ↔ q) : (decide p != decide q) = false := by
  by_cases z : p
  · rw [decide_eq_true z, decide_eq_true (h.mp z)]; rfl
  · rw [decide_eq_false z, decide_eq_false fun y => z (h.mpr y)]; rfl
theorem w_iteV {b : Bool} {A B : Prop} (e : b = true) (h : A) : if b = true then A else B := by rw [if_pos e]; exact h
theorem w_iteW {b : Bool} {A B : Prop} (e : b = false) (h : B) : if b = true then A else B := by rw [e]; exact h
/-- None or a number -/
def NonInt (v : V) : Prop := v = .non ∨ ∃ i, v = .int i
theorem NonInt.dp {K : PySem.W.Frag} {H : Hp} {v : V} (h : NonInt v) : ∃ d, Dp K H v d ∧ SeqAt.shaped d = true ∧ PyData.eqv d d = true := by
  rcases h with rfl | ⟨i, rfl⟩
  · exact ⟨.none, .non, by decide, by simp [PyData.eqv]⟩
  · exact ⟨.int i, .int i, by rfl, by simp [PyData.eqv]⟩
theorem w_eqSame {K : PySem.W.Frag} {H : Hp} {Q : VK} {v : V} (h : NonInt v) (q : Q (.bl true) H) : rEqD K v v H Q := by
  obtain ⟨d, h1, h2, h3⟩ := h.dp (K := K) (H := H)
  exact ⟨d, d, h1, h1, h2, h2, by rw [h3]; exact q⟩
theorem w_neSame {K : PySem.W.Frag} {H : Hp} {Q : VK} {v : V} (h : NonInt v) (q : Q (.bl false) H) : rNeD K v v H Q := by
  obtain ⟨d, h1, h2, h3⟩ := h.dp (K := K) (H := H)
  exact ⟨d, d, h1, h1, h2, h2, by rw [h3]; exact q⟩
/-! ### steps that go up, comprehensions over any walk -/
section
variable {σ : L2.St} {H : Hp} {g : TG} {tt : TT} {te : TE} {vs : List Nat} {Q : VK}
theorem l_it {J : It} {n : Nat} {G : Hp → Prop} {Y : Nat → Hp → V → Hp → Prop} (w : Walk J n G Y) (Pv : Addr → Nat → Hp → Prop) (h0 : ∀ L, H L = none → Pv L 0 (upd H L (.lst []))) (hG : ∀ L i H', H L = none → i ≤ n → Pv L i H' → G H')
    (hs : ∀ L i x H' H'', H L = none → i < n → Pv L i H' → Y i H' x H'' → g x (wipe σ vs) H'' fun σ2 H2 => wipe σ2 vs = wipe σ vs ∧ tt σ2 H2 fun b H3 => if b = true then te σ2 H3 (AppE L (Pv L (i + 1))) else Pv L (i + 1) H3)
    (hd : ∀ L H', H L = none → Pv L n H' → Q (.ref L) H') : LcB g tt te vs σ Q J H := fun L hL => lc_it w (Pv L) (h0 L hL) (fun i H' => hG L i H' hL) (fun i x H' H'' => hs L i x H' H'' hL) (fun H' => hd L H' hL)
theorem l_rangeC {lo c : Int} {n : Nat} (Pv : Addr → Nat → Hp → Prop) (h0 : ∀ L, H L = none → Pv L 0 (upd H L (.lst [])))
    (hs : ∀ L i H', H L = none → i < n → Pv L i H' → g (.int (lo + (i : Nat) * c)) (wipe σ vs) H' fun σ2 H2 => wipe σ2 vs = wipe σ vs ∧ tt σ2 H2 fun b H3 => if b = true then te σ2 H3 (AppE L (Pv L (i + 1))) else Pv L (i + 1) H3)
    (hd : ∀ L H', H L = none → Pv L n H' → Q (.ref L) H') : LcB g tt te vs σ Q (Itc lo c n) H :=
  l_it walk_rangeC Pv h0 (fun _ _ _ _ _ _ => trivial) (fun L i x H' H'' hL hi p y => by
    obtain ⟨e1, e2⟩ := y
    subst e1 e2
    exact hs L i _ hL hi p) hd
theorem l_enum {K : PySem.W.Frag} {a : Addr} (xs : List V) (Pv : Addr → Nat → Hp → Prop) (h0 : ∀ L, H L = none → Pv L 0 (upd H L (.lst []))) (hl : ∀ L i H', H L = none → i ≤ xs.length → Pv L i H' → SqL K H' a xs)
    (hs : ∀ L i x T H', H L = none → xs[i]? = some x → Pv L i H' → H' T = none → g (.ref T) (wipe σ vs) (upd H' T (.tup [.int (i : Nat), x])) fun σ2 H2 => wipe σ2 vs = wipe σ vs ∧ tt σ2 H2 fun b H3 => if b = true then te σ2 H3 (AppE L (Pv L (i + 1))) else Pv L (i + 1) H3)
    (hd : ∀ L H', H L = none → Pv L xs.length H' → Q (.ref L) H') : LcB g tt te vs σ Q (Ite K a) H :=
  l_it walk_enum Pv h0 hl (fun L i x H' H'' hL hi p y => by
    obtain ⟨T, u, v, h1, h2, h3, h4, h5⟩ := y
    subst h1 h3
    have h4 := Option.some.inj h4
    subst h4
    exact hs L i v T H' hL h5 p h2) hd
end
theorem RgC.pos {i j c : Int} (hi : 0 ≤ i) (hj : i ≤ j) (hj2 : j < 2 ^ 30) (hc : 1 ≤ c) (hc2 : c < 2 ^ 30) : RgC i j c ((j - i + c - 1) / c).toNat := by
  have e : Builtin.Range.rangeSize i j c = (((j - i + c - 1) / c).toNat : Int) := by
    unfold Builtin.Range.rangeSize
    rw [if_pos (by omega)]
    have h0 : 0 ≤ (j - i + c - 1) / c := Int.ediv_nonneg (by omega) (by omega)
    rw [Int.toNat_of_nonneg h0]
    by_cases h : i < j
    · rw [if_pos h, show j - i + c - 1 = (j - i - 1) + c by omega, Int.add_ediv_of_dvd_right (Int.dvd_refl c), Int.ediv_self (by omega)]
    · rw [if_neg h, show j - i + c - 1 = c - 1 by omega, Int.ediv_eq_zero_of_lt (by omega) (by omega)]
  have hb : ((j - i + c - 1) / c).toNat < 2 ^ 31 := by
    have h1 : (j - i + c - 1) / c ≤ j - i + c - 1 := Int.ediv_le_self _ (by omega)
    omega
  refine ⟨by omega, by omega, ?_, e⟩
  unfold Builtin.Range.small
  rw [e]
  simp only [Builtin.Range.rangeFitsLong, Bool.and_eq_true, Bool.or_eq_true, decide_eq_true_eq, beq_iff_eq]
  rw [if_pos (by omega)]
  simp only [Bool.and_eq_true, decide_eq_true_eq]
  omega
theorem w_rng3P {H : Hp} {R : It → Hp → Prop} {i j c : Int} (h : 0 ≤ i ∧ i ≤ j ∧ j < 2 ^ 30 ∧ 1 ≤ c ∧ c < 2 ^ 30) (q : R (Itc i c ((j - i + c - 1) / c).toNat) H) : Rng3E R [.int i, .int j, .int c] H :=
  ⟨i, j, c, _, rfl, RgC.pos h.1 h.2.1 h.2.2.1 h.2.2.2.1 h.2.2.2.2, q⟩
theorem kc_pi {X : Cx} {K : PySem.W.Frag} {tg e : Expr} {t : TE} (h : PI X tg e (iList X.K t)) (q : X.K = K) : PI X tg e (iList K t) := q ▸ h
theorem w_extendR {H : Hp} {Q : VK} {a q : Addr} {ps qs : List Addr} (h1 : H a = some (.lst (ps.map V.ref))) (h2 : H q = some (.lst (qs.map V.ref))) (hz : ps.length + qs.length ≤ 16777216) (k : Q .non (upd H a (.lst ((ps ++ qs).map V.ref)))) : rExtend (.ref a) [.ref q] H Q :=
  ⟨a, q, _, _, rfl, rfl, h1, h2, szle' (by rw [List.length_map, List.length_map]; exact hz), by rw [← List.map_append]; exact k⟩
/-! ### lists of pairs of numbers -/
def dP (l : Int × Int) : PyData := .tuple [.int l.1, .int l.2]
theorem canLay_pairs : ∀ ls : List (Int × Int), PyData.canLayAll0 (ls.map dP) = true
  | [] => rfl
  | l :: ls => by
    have ih := canLay_pairs ls
    simp only [List.map_cons, dP, PyData.canLayAll0, PyData.canLay0, Bool.and_self, Bool.true_and]
    exact ih
theorem depth_pairs : ∀ ls : List (Int × Int), PyData.depthAll (ls.map dP) ≤ 3
  | [] => by simp [PyData.depthAll]
  | l :: ls => by
    have ih := depth_pairs ls
    have e : PyData.depth (dP l) ≤ 2 := by simp [dP, PyData.depthAll, PyData.depth]
    simp only [List.map_cons, PyData.depthAll]
    omega
theorem shaped_pairs (ls : List (Int × Int)) : SeqAt.shaped (.list (ls.map dP)) = true := by
  unfold SeqAt.shaped
  have h1 : PyData.canLay0 (.list (ls.map dP)) = true := by simp only [PyData.canLay0]; exact canLay_pairs ls
  have h2 : PyData.depth (.list (ls.map dP)) ≤ 64 := by
    have := depth_pairs ls
    simp only [PyData.depth]
    omega
  rw [h1, decide_eq_true h2]
  rfl
theorem eqvAll_pairs : ∀ ls ms : List (Int × Int), PyData.eqvAll (ls.map dP) (ms.map dP) = decide (ls = ms)
  | [], [] => by simp [PyData.eqvAll]
  | [], m :: ms => by simp [PyData.eqvAll]
  | n :: ns, [] => by simp [PyData.eqvAll]
  | n :: ns, m :: ms => by
    have ih := eqvAll_pairs ns ms
    simp only [List.map_cons, PyData.eqvAll, ih]
    have e : PyData.eqv (dP n) (dP m) = decide (n = m) := by
      obtain ⟨n1, n2⟩ := n
      obtain ⟨m1, m2⟩ := m
      simp only [dP, PyData.eqv, PyData.eqvAll, Prod.mk.injEq]
      by_cases h : n1 = m1 <;> by_cases h2 : n2 = m2 <;> simp [h, h2]
    rw [e]
    by_cases h : n = m
    · subst h
      by_cases h2 : ns = ms <;> simp [h2]
    · simp [h]
/-! ### repr of None or of data -/
def rReprA (K : PySem.W.Frag) : List V → Hp → VK → Prop := fun xs H Q => (xs = [.non] ∧ Q (.str "None") H) ∨ rReprD K xs H Q
theorem call_reprA {X : Cx} (hg : X.A.guards = some []) (hu : X.A.units + 100 < cLine) : CallR X (.builtin "repr") (rReprA X.K) := by
  intro pins s σ H xs us Q I r h
  rcases h with ⟨rfl, q⟩ | h
  · obtain ⟨u, rfl, ru⟩ := vals1 r
    cases ru
    exact PySem.P.repr_of_none ⟨.str "None", H, I.tok _, ⟨_, rfl⟩, q⟩
  · exact call_reprD hg hu pins s σ H xs us Q I r h
theorem w_reprA0 {K : PySem.W.Frag} {H : Hp} {Q : VK} (q : Q (.str "None") H) : rReprA K [.non] H Q := .inl ⟨rfl, q⟩
theorem w_reprA {K : PySem.W.Frag} {H : Hp} {Q : VK} {a : Addr} {d : PyData} (h : Dp K H (.ref a) d) (f : Fine d) (q : Q (.str d.shown) H) : rReprA K [.ref a] H Q := .inr (w_reprD h f q)
theorem w_all {K : PySem.W.Frag} {H : Hp} {Q : VK} {a : Addr} {bs : List Bool} (h : H a = some (.lst (bs.map V.bl))) (q : Q (.bl (bs.all id)) H) : rAll K [.ref a] H Q := ⟨a, bs, rfl, SqL.of h, q⟩
/-! ### slices of lists of objects, loops over tuples -/
theorem cutV_take (xs : List V) (n : Nat) : cutV xs none (some (n : Int)) = xs.take n := by
  show (xs.drop (HT.sIx xs.length 0 none)).take (HT.sIx xs.length xs.length (some (n : Int)) - HT.sIx xs.length 0 none) = xs.take n
  have e1 : HT.sIx xs.length 0 none = 0 := rfl
  have e2 : HT.sIx xs.length xs.length (some (n : Int)) = min n xs.length := by
    simp only [HT.sIx]
    rw [if_neg (by omega)]
    omega
  rw [e1, e2, List.drop_zero, Nat.sub_zero]
  by_cases h : n ≤ xs.length
  · rw [Nat.min_eq_left h]
  · rw [Nat.min_eq_right (by omega), List.take_length, List.take_of_length_le (by omega)]
theorem w_slTake {K : PySem.W.Frag} {H : Hp} {Q : VK} {a : Addr} {ps : List Addr} {n : Nat} (h : H a = some (.lst (ps.map V.ref))) (q : ∀ p, H p = none → Q (.ref p) (upd H p (.lst ((ps.take n).map V.ref)))) : rSlL K (.ref a) none (some (n : Int)) H Q :=
  ⟨a, _, rfl, SqL.of h, fun p hp => by rw [cutV_take, ← List.map_take]; exact q p hp⟩
def TupE (K : PySem.W.Frag) (R : It → Hp → Prop) : V → Hp → Prop := fun x H1 => ∃ a, x = .ref a ∧ (∃ xs, SqT K H1 a xs) ∧ R (Itt K a) H1
theorem w_iTup {K : PySem.W.Frag} {tl : TE} {σ : L2.St} {H : Hp} {R : It → Hp → Prop} (h : tl σ H (TupE K R)) : iTup K tl σ H R := h
theorem w_iTupE {K : PySem.W.Frag} {a : Addr} {xs : List V} {H : Hp} {R : It → Hp → Prop} (h : SqT K H a xs) (q : R (Itt K a) H) : TupE K R (.ref a) H := ⟨a, rfl, ⟨xs, h⟩, q⟩
theorem kc_pg {X : Cx} {K : PySem.W.Frag} {tg : Expr} {k : Nat} {t : TGs} (h : PG X tg (gTup X.K k t)) (q : X.K = K) : PG X tg (gTup K k t) := q ▸ h
/-! ### x *= y -/
def ipM : TIp := fun x y H Q => ∃ i j, x = .int i ∧ y = .int j ∧ CMulW i j ∧ Q (.int (i * j)) H
theorem ip_mul {X : Cx} : PIp X .Mult ipM := by
  intro pins s σ H x y v u Q I r1 r2 h
  obtain ⟨i, j, e1, e2, c, q⟩ := h
  subst e1; subst e2
  obtain ⟨t, rfl⟩ := r1
  obtain ⟨t', rfl⟩ := r2
  exact imul_int ⟨.int _, H, I.tok _, ⟨_, rfl⟩, q⟩ c.ok
theorem w_ipM {m n : Int} {H : Hp} {Q : VK} (c : CMulW m n) (q : Q (.int (m * n)) H) : ipM (.int m) (.int n) H Q := ⟨m, n, rfl, rfl, c, q⟩
theorem FineAll.tup {ds : List PyData} (r : FineAll ds) (b : PyData.bulkAll ds ≤ 100000) : Fine (.tuple ds) :=
  ⟨by simp only [PyData.showable]; exact r.s, by
    unfold SeqAt.shaped
    have h1 : PyData.canLay0 (.tuple ds) = true := by simp only [PyData.canLay0]; exact r.c
    have h2 : PyData.depth (.tuple ds) ≤ 64 := by
      have := r.d
      simp only [PyData.depth]
      omega
    rw [h1, decide_eq_true h2]
    rfl, by simp only [PyData.leavesShort]; exact r.l, by simp only [PyData.bulk]; exact b⟩
theorem FineAll.cons_int {i : Int} {ds : List PyData} (h : i.natAbs < 10 ^ 40) (r : FineAll ds) : FineAll (.int i :: ds) :=
  .cons (showable_int h) (by simp only [PyData.canLay0]) (by simp [PyData.depth]) (short_int h) r
theorem fine_pair {i j : Int} (hi : i.natAbs < 10 ^ 40) (hj : j.natAbs < 10 ^ 40) : Fine (dP (i, j)) := (FineAll.cons_int hi (.cons_int hj .nil)).tup (by simp [PyData.bulkAll, PyData.bulk])
theorem w_ixLR {K : PySem.W.Frag} {H : Hp} {Q : VK} {p : Addr} {ps : List Addr} {m : Int} (h : H p = some (.lst (ps.map V.ref))) (h0 : 0 ≤ m) (h1 : m < ps.length) (q : ∀ t, ps[m.toNat]? = some t → Q (.ref t) H) : rIxL K (.ref p) (.int m) H Q := by
  obtain ⟨v, hv, e, e2⟩ := atI_lt (xs := ps.map V.ref) h0 (by rw [List.length_map]; exact h1)
  rw [List.getElem?_map] at e2
  cases z : ps[m.toNat]? with
  | none =>
    rw [z] at e2
    cases e2
  | some t =>
    rw [z] at e2
    have e3 : v = .ref t := (Option.some.inj e2).symm
    subst e3
    exact w_ixL (SqL.of h) e (q t z)
theorem w_setLR {H : Hp} {p t : Addr} {ps : List Addr} {m : Int} {Q : Hp → Prop} (h : H p = some (.lst (ps.map V.ref))) (h0 : 0 ≤ m) (h1 : m < ps.length) (q : Q (upd H p (.lst ((ps.set m.toNat t).map V.ref)))) : rSetL (.ref p) (.int m) (.ref t) H Q := by
  refine ⟨p, _, m, m.toNat, rfl, rfl, h, ?_, by rw [← List.map_set]; exact q⟩
  rw [List.length_map]
  have z : ((m.toNat : Nat) : Int) = m := Int.toNat_of_nonneg h0
  unfold ixN
  rw [if_pos h0, if_pos h1]
theorem w_catR {H : Hp} {Q : VK} {p q : Addr} {ps qs : List Addr} (h1 : H p = some (.lst (ps.map V.ref))) (h2 : H q = some (.lst (qs.map V.ref))) (hz : ps.length + qs.length ≤ 16777216) (k : ∀ r, H r = none → Q (.ref r) (upd H r (.lst ((ps ++ qs).map V.ref)))) : rCat (.ref p) (.ref q) H Q :=
  ⟨p, q, _, _, rfl, rfl, h1, h2, szle' (by rw [List.length_map, List.length_map]; exact hz), fun r hr => by rw [← List.map_append]; exact k r hr⟩
def Par3E (i j l : Nat) (R : L2.St → Hp → Prop) (σ : L2.St) : List V → Hp → Prop := fun vs H1 => ∃ u v w, vs = [u, v, w] ∧ R (((σ.set i (some u)).set j (some v)).set l (some w)) H1
theorem w_par3 {i j l : Nat} {tA : TA} {D : Ends} {σ : L2.St} {H : Hp} (h : tA σ H (Par3E i j l (D.nx) σ)) : tPar3 i j l tA D σ H := h
theorem w_par3E {i j l : Nat} {R : L2.St → Hp → Prop} {σ : L2.St} {H : Hp} {x y z : V} (q : R (((σ.set i (some x)).set j (some y)).set l (some z)) H) : Par3E i j l R σ [x, y, z] H := ⟨x, y, z, rfl, q⟩
/-! ### defs that call themselves -/
def spNo : Sp := fun _ _ _ _ => False
theorem FunAt.never {P : Program} {w : World} {K : PySem.W.Frag} {mg : Str → Option Value} {base : Heap} {x : Str} {st : Stmt} {k : Nat} {ps : List Str} (F : FunAt K mg x st)
    (hb : ∀ (kV doc pm : Value) (an : Option Addr) (cdv ct : Value) (us : List Value), us.length = ps.length → bindArgs (PySem.W.fnOf x x (defArgs st) (defBody st) (defScope st) .none kV doc pm an cdv ct) ⟨us, []⟩ = pure (ps.zip us)) : DefAt P w K mg base x st k ps spNo := by
  obtain ⟨f, fd, hm, F⟩ := F.ex
  exact ⟨f, fd, hm, F, ⟨fun _ _ _ _ h => h.elim, fun _ _ _ _ _ _ _ _ _ _ _ _ _ h => h.elim⟩, F.binds hb⟩
/-! ### lists of lists of numbers -/
structure ListsAt (H : Hp) (ps : List Addr) (xss : List (List Int)) : Prop where
  len : ps.length = xss.length
  at_ : ∀ (i : Nat) (p : Addr) (xs : List Int), ps[i]? = some p → xss[i]? = some xs → H p = some (.lst (xs.map V.int))
theorem ListsAt.nil {H : Hp} : ListsAt H [] [] := ⟨rfl, by simp⟩
theorem ListsAt.fr {H H' : Hp} {ps : List Addr} {xss : List (List Int)} (h : ListsAt H ps xss) (f : Fr [] H H') : ListsAt H' ps xss := ⟨h.len, fun i p l h1 h2 => f.at0 (h.at_ i p l h1 h2)⟩
theorem ListsAt.app {H : Hp} {ps qs : List Addr} {xss yss : List (List Int)} (h : ListsAt H ps xss) (k : ListsAt H qs yss) : ListsAt H (ps ++ qs) (xss ++ yss) := by
  refine ⟨by simp [h.len, k.len], fun i q m h1 h2 => ?_⟩
  have hl := h.len
  by_cases hi : i < ps.length
  · rw [List.getElem?_append_left hi] at h1
    rw [List.getElem?_append_left (by omega)] at h2
    exact h.at_ i q m h1 h2
  · rw [List.getElem?_append_right (by omega)] at h1
    rw [List.getElem?_append_right (by omega), ← hl] at h2
    exact k.at_ _ q m h1 h2
theorem ListsAt.one {H : Hp} {p : Addr} {xs : List Int} (h : H p = some (.lst (xs.map V.int))) : ListsAt H [p] [xs] := ⟨rfl, fun i q m h1 h2 => by
  match i, h1, h2 with
  | 0, h1, h2 =>
    have e1 : p = q := by simpa using h1
    have e2 : xs = m := by simpa using h2
    subst e1 e2
    exact h
  | i + 1, h1, h2 => simp at h1⟩
theorem ListsAt.put {H : Hp} {a : Addr} {o : HO} {ps : List Addr} {xss : List (List Int)} (h : ListsAt H ps xss) (ha : a ∉ ps) : ListsAt (upd H a o) ps xss :=
  ⟨h.len, fun i q m h1 h2 => by
    have hne : q ≠ a := fun e => ha (e ▸ List.mem_of_getElem? h1)
    rw [upd_ne hne]
    exact h.at_ i q m h1 h2⟩
theorem dpAll_lists {K : PySem.W.Frag} {H : Hp} : ∀ {ps : List Addr} {xss : List (List Int)}, ListsAt H ps xss → DpAll K H (ps.map V.ref) (xss.map dI)
  | [], [], _ => .nil
  | [], _ :: _, h => by cases h.len
  | _ :: _, [], h => by cases h.len
  | p :: ps, l :: ls, h => .cons (dp_ints (SqL.of (h.at_ 0 p l rfl rfl))) (dpAll_lists ⟨by simpa using h.len, fun i q m h1 h2 => h.at_ (i + 1) q m (by simpa using h1) (by simpa using h2)⟩)
theorem canLay_lists : ∀ ls : List (List Int), PyData.canLayAll0 (ls.map dI) = true
  | [] => rfl
  | l :: ls => by
    have ih := canLay_lists ls
    have h1 : PyData.canLay0 (dI l) = true := by simp only [dI, PyData.canLay0]; exact canLay_ints l
    simp only [List.map_cons, PyData.canLayAll0, h1, ih, Bool.and_self]
theorem depth_lists : ∀ ls : List (List Int), PyData.depthAll (ls.map dI) ≤ 3
  | [] => by simp [PyData.depthAll]
  | l :: ls => by
    have ih := depth_lists ls
    have h1 : PyData.depth (dI l) ≤ 2 := by
      have := depth_ints l
      simp only [dI, PyData.depth]
      omega
    simp only [List.map_cons, PyData.depthAll]
    omega
theorem shaped_lists (ls : List (List Int)) : SeqAt.shaped (.list (ls.map dI)) = true := by
  unfold SeqAt.shaped
  have h1 : PyData.canLay0 (.list (ls.map dI)) = true := by simp only [PyData.canLay0]; exact canLay_lists ls
  have h2 : PyData.depth (.list (ls.map dI)) ≤ 64 := by
    have := depth_lists ls
    simp only [PyData.depth]
    omega
  rw [h1, decide_eq_true h2]
  rfl
theorem w_neNilL {K : PySem.W.Frag} {H : Hp} {Q : VK} {a b : Addr} {ps : List Addr} {xss : List (List Int)} (ha : H a = some (.lst (ps.map V.ref))) (hb : H b = some (.lst [])) (h1 : ListsAt H ps xss) (k : Q (.bl (!decide (xss = []))) H) : rNeD K (.ref a) (.ref b) H Q :=
  ⟨_, _, .lst (SqL.of ha) (dpAll_lists h1), .lst (SqL.of hb) (dpAll_lists (ps := []) (xss := []) .nil), shaped_lists _, shaped_lists _, by
    have e : PyData.eqv (.list (xss.map dI)) (.list (([] : List (List Int)).map dI)) = decide (xss = []) := by
      simp only [PyData.eqv]
      cases xss with
      | nil => simp [PyData.eqvAll]
      | cons x xs => simp [PyData.eqvAll]
    rw [e]
    exact k⟩
theorem FineAll.cons_pair {l : Int × Int} {ds : List PyData} (hi : l.1.natAbs < 10 ^ 40) (hj : l.2.natAbs < 10 ^ 40) (r : FineAll ds) : FineAll (dP l :: ds) := by
  have f : FineAll [PyData.int l.1, PyData.int l.2] := FineAll.cons_int hi (.cons_int hj .nil)
  exact .cons (by simp only [dP, PyData.showable]; exact f.s) (by simp only [dP, PyData.canLay0]; exact f.c) (by simp [dP, PyData.depth, PyData.depthAll]) (by simp only [dP, PyData.leavesShort]; exact f.l) r
theorem fineAll_pairs : ∀ {ls : List (Int × Int)}, (∀ l ∈ ls, l.1.natAbs < 10 ^ 40 ∧ l.2.natAbs < 10 ^ 40) → FineAll (ls.map dP)
  | [], _ => .nil
  | l :: ls, h => .cons_pair (h l List.mem_cons_self).1 (h l List.mem_cons_self).2 (fineAll_pairs fun m hm => h m (List.mem_cons_of_mem _ hm))
theorem bulk_pairs : ∀ ls : List (Int × Int), PyData.bulkAll (ls.map dP) ≤ 10 * ls.length
  | [] => by simp [PyData.bulkAll]
  | l :: ls => by
    have ih := bulk_pairs ls
    have h1 : PyData.bulk (dP l) ≤ 5 := by simp [dP, PyData.bulk, PyData.bulkAll]
    simp only [List.map_cons, PyData.bulkAll, List.length_cons]
    omega
theorem fine_pairs {ls : List (Int × Int)} (h : ∀ l ∈ ls, l.1.natAbs < 10 ^ 40 ∧ l.2.natAbs < 10 ^ 40) (hl : ls.length ≤ 1000) : Fine (.list (ls.map dP)) :=
  (fineAll_pairs h).fine (by have := bulk_pairs ls; omega)
/-! ### repr of a great number, where no limit of digits was set -/
def rReprBig : List V → Hp → VK → Prop := fun xs H Q => ∃ i : Int, xs = [.int i] ∧ i.natAbs < 10 ^ 4300 ∧ Q (.str (toString i)) H
theorem nodigits_of {K : PySem.W.Frag} {h : Heap} (X : K.In h) (hl : h.NoLimit) (nd : PySem.W.nsIn K cStatics "sys.int_max_str_digits" = some none) : h.NoDigits := by
  obtain ⟨mc, hn, _⟩ := hl
  exact ⟨mc, hn, PySem.W.ns_none_of X hn nd⟩
theorem call_reprBig {X : Cx} (nd : PySem.W.nsIn X.K cStatics "sys.int_max_str_digits" = some none) (hu : X.A.units + 100 < cLine) (hc : X.calm = true := by rfl) : CallR X (.builtin "repr") rReprBig := by
  intro pins s σ H xs us Q I r h
  obtain ⟨i, rfl, hz, q⟩ := h
  obtain ⟨u, rfl, t, rfl⟩ := vals1 r
  exact call_repr_slot (by omega) (typeIs_int s i t) PySem.F.slot_int_repr.toG (PyProof.Rows.call_int_repr_or (A := X.A.in1) (I.ok.hd hc) (nodigits_of I.kIn I.nolimit nd) (fun _ => ⟨_, _, rfl, .str _, H, I.tok _, ⟨_, rfl⟩, q⟩) fun hge => absurd hz (Nat.not_lt.mpr hge))
theorem w_reprBig {i : Int} {H : Hp} {Q : VK} (h : i.natAbs < 10 ^ 4300) (q : Q (.str (toString i)) H) : rReprBig [.int i] H Q := ⟨i, rfl, h, q⟩
/-! ### dicts with int keys -/
section
variable {K : PySem.W.Frag} {σ : L2.St} {H : Hp} {td ty : TE} {Q : VK} {a : Addr} {kvs kvs' : List (Key × V)} {k : Int} {v x : V} {R : Hp → Prop}
theorem w_dnewK (q : ∀ p, H p = none → Q (.ref p) (upd H p (.dK []))) : tDNewK σ H Q := q
theorem w_dgetI (h : H a = some (.dK kvs)) (e : valV kvs (.inl k) = some v) (q : Q v H) : DGE (.ref a) Q (.int k) H := ⟨a, v, rfl, by rw [← e]; exact DGet.k (k := .inl k) h, q⟩
theorem w_dputI (h : H a = some (.dK kvs)) (hl : kvs.length < 16777216) (q : R (upd H a (.dK (putK kvs (.inl k) v)))) : DPE (.ref a) v R (.int k) H := ⟨a, _, rfl, DPut.k (k := .inl k) h (szlt hl), q⟩
def DNE (Q : VK) (y : V) : V → Hp → Prop := fun x H2 => ∃ a o, x = .ref a ∧ DGet H2 a y o ∧ Q (.bl (!o.isSome)) H2
theorem w_dnotIn (h : ty σ H fun y H1 => td σ H1 (DNE Q y)) : tDNotIn ty td σ H Q := h
theorem w_dnotInE (h : H a = some (.dK kvs)) (q : Q (.bl (!(valV kvs (.inl k)).isSome)) H) : DNE Q (.int k) (.ref a) H := ⟨a, _, rfl, DGet.k (k := .inl k) h, q⟩
end
end Pg

namespace Pg
open PySem PySem.Spec PyProof.Rows L2
/-! ### an exception that was caught, as a thing of the heap -/
def exh (a : Addr) (cls : Value) (d : Option Addr) : HO := .ext fun h => ∃ oe vs, h.get? a = some oe ∧ Zc cls d oe ∧ oe.data = .fields vs
theorem exh_ok {P : Program} {w : World} {H : Hp} {h : Heap} {a : Addr} {cls : Value} {d : Option Addr} {oe : Obj} {vs : Array Value} (e : h.get? a = some oe) (z : Zc cls d oe) (f : oe.data = .fields vs) : ObjOk P w H h a (exh a cls d) :=
  ⟨⟨oe, vs, e, z, f⟩, ⟨oe, e⟩, fun h1 h2 ⟨o, v, e1, z1, f1⟩ k => ⟨o, v, k _ e1, z1, f1⟩⟩
theorem exh_at {P : Program} {w : World} {H : Hp} {h : Heap} {a : Addr} {cls : Value} {d : Option Addr} (hok : HOk P w H h) (e : H a = some (exh a cls d)) : ∃ oe vs, h.get? a = some oe ∧ Zc cls d oe ∧ oe.data = .fields vs := by
  have x : ObjOk P w H h a (.ext fun h => ∃ oe vs, h.get? a = some oe ∧ Zc cls d oe ∧ oe.data = .fields vs) := hok a _ e
  exact x.1
section
variable {X : Cx} {pins : List (Addr × Obj)} {σ : L2.St} {H : Hp} {s : Shared} {a : Addr} {oe : Obj} {vs : Array Value} {cls : Value} {d : Option Addr}
/-- the exception is tracked from here on -/
theorem Inv.hold (I : Inv X pins σ H s) (ha : s.heap.get? a = some oe) (hz : Zc cls d oe) (hd : oe.data = .fields vs) (na : H a = none) (n0 : X.s_0.heap.get? a = none) (nL : a ≠ X.env.locals) (np : ∀ p ∈ X.pn ++ pins, p.1 ≠ a) :
    Inv X pins σ (upd H a (exh a cls d)) s := by
  have ne : ∀ {b : Addr} {o : HO}, H b = some o → b ≠ a := fun {b o} e z => by
    rw [z, na] at e
    cases e
  have n0' : ∀ b o, X.s_0.heap.get? b = some o → b ≠ a := fun b o e z => by
    rw [z, n0] at e
    cases e
  refine ⟨I.ok, I.os, I.bare, ⟨I.base.keep, I.base.slot, fun b o e n hx => ?_, I.base.there, fun b xs e => ?_, fun b o u e => ?_, fun b ps e => ?_⟩, I.loc, I.cell, ?_, fun x c e => ?_, fun p hp => ?_, fun b o e => ?_, I.len⟩
  · rw [upd_ne (n0' b o e)]
    exact I.base.free b o e n hx
  · have z := I.base.tups b xs e
    rw [upd_ne (ne z)]
    exact z
  · have z := I.base.frzs b o u e
    rw [upd_ne (ne z)]
    exact z
  · obtain ⟨more, z⟩ := I.base.tbls b ps e
    exact ⟨more, by rw [upd_ne (ne z)]; exact z⟩
  · rw [upd_ne nL.symm]
    exact I.free
  · have hc : c ≠ a := fun z => by
      obtain ⟨v, o, e1, e2⟩ := I.cell x c e
      rw [z, ha] at e1
      cases e1
      rw [hd] at e2
      cases e2
    rw [upd_ne hc]
    exact I.freeC x c e
  · obtain ⟨z1, z2, z3⟩ := I.pin p hp
    exact ⟨z1, by rw [upd_ne (np p hp)]; exact z2, z3⟩
  · by_cases hb : b = a
    · subst hb
      rw [upd_same] at e
      cases e
      exact exh_ok ha hz hd
    · rw [upd_ne hb] at e
      exact (I.hok b o e).stay (fun _ _ _ q => q) (fun c hc => by rw [upd_ne (ne hc)]; exact hc) (fun c xs hc => by rw [upd_ne (ne hc)]; exact hc)
theorem Inv.toSuite (I : Inv X pins σ H s) (a : Addr) : Inv (X.suite a (X.pn ++ pins)) [] σ H s :=
  ⟨I.ok.suite _ _, I.os, I.bare, I.base, I.loc, I.cell, I.free, I.freeC, fun p hp => I.pin p (by rw [List.append_nil] at hp; exact hp), I.hok, I.len⟩
theorem Inv.ofSuite {pn' : List (Addr × Obj)} (I : Inv (X.suite a (X.pn ++ pins)) pn' σ H s) (ok : X.Ok) : Inv X pins σ H s :=
  ⟨ok, I.os, I.bare, I.base, I.loc, I.cell, I.free, I.freeC, fun p hp => I.pin p (List.mem_append_left _ hp), I.hok, I.len⟩
end
/-- what 'except x as n' wishes of an exception of the body: slot i is n's; the suite finds the exception in the heap -/
def wCau (K : PySem.W.Frag) (c : Value) (i : Nat) (ts : TS) (Wout : WX) (D : Ends) : WX := fun cls d σ H =>
  ∃ b, PySem.W.exmOne K cls c = some b ∧ (b = true → ∀ a, H a = none → ts { nx := fun σ' H' => D.nx (σ'.set i none) H', rt := D.rt, bk := fun σ' H' => D.bk (σ'.set i none) H', ct := fun σ' H' => D.ct (σ'.set i none) H' } (σ.set i (some (.ref a))) (upd H a (exh a cls d))) ∧
    (b = false → Wout cls d σ H)
/-- its reading -/
def tTryH (K : PySem.W.Frag) (c : Value) (i : Nat) (tb : WX → TS) (ts : TS) (Wout : WX) : TS := fun D σ H => tb (wCau K c i ts Wout D) D σ H
section
variable {X : Cx} {x n : Str} {c : Value} {i : Nat} {body suite : List Stmt} {b₀ : Stmt} {np pos pos' : Pos} {tb : WX → TS} {ts : TS} {Wout : WX}
theorem ps_tryH (hs : X.stack = X.env :: X.outer) (hf : X.env.frame = some X.env.locals) (hex : X.ex = []) (hN : X.N.Nodup) (hi : X.N[i]? = some n) (hln : X.env.kindOf n = some .local) (hc : Names X x c) (tk : Takes X Wout)
    (hb : ∀ (W : WX) (pn : List (Addr × Obj)) (xe : Value → Shared → Prop), Takes (X.tr pn xe) W → PassesOwn (model X.prog X.w) X.A X.env xe → PSs (X.tr pn xe) body (tb W))
    (hsu : ∀ (a : Addr) (pn : List (Addr × Obj)), PSs (X.suite a pn) (b₀ :: suite) ts) :
    PS X (.Try body [.ExceptHandler (some (.Name x np)) (some n) (b₀ :: suite) pos'] [] [] pos) (tTryH X.K c i tb ts Wout) := by
  refine ⟨fun pins s σ H D I h => ?_⟩
  have ok := I.ok
  have hfr : X.A.frames = some (X.env :: X.outer) := by rw [ok.frames, hs]
  refine wpAny_Try_except (wpAny_mono ((hb (wCau X.K c i ts Wout D) (X.pn ++ pins) _ (fun u s' xx => ?_) PassesOwn.looking).run [] s σ H D (I.toTry _) h) (fun f s1 hsp => ?_) (fun e s1 he => he))
  · obtain ⟨a, B, sI, pins', σ', H', cls, d, rfl, J', nb, up, sky, na, os, ag, b, hb1, hyes, hno⟩ := xx
    have J : Inv X pins σ' H' sI := J'.ofTry ok
    have sky' : Sky B (X.env :: X.outer) a (Zc cls d) X.env.locals s'.heap := by rw [← hs]; exact sky
    show wpAny (model X.prog X.w) X.A (noteFrame (.ref a) X.env) _ _ _
    refine Sky.land Zc.steady hfr hf sky' fun h3 fl3 up3 => ?_
    have J3 : Inv X pins σ' H' { s' with heap := h3 } := J.landed nb fl3.1 (up.trans up3) os ag
    obtain ⟨oe3, vs3, he3, hz3, hd3⟩ := fl3.there
    have nfr : a ∉ frs (X.env :: X.outer) := fun hm => by
      obtain ⟨_, o', e', hnf⟩ := fl3.2.2.1.mem hm
      rw [he3] at e'
      cases e'
      exact hnf _ hd3
    have nL : a ≠ X.env.locals := fun z => nfr (List.mem_filterMap.mpr ⟨X.env, List.mem_cons_self, by rw [hf, z]⟩)
    -- where the exception stands nothing stood
    have nI : sI.heap.get? a = none := by
      cases q : sI.heap.get? a with
      | none => rfl
      | some o =>
        have z := nb a o q (by rw [hs]; exact nfr)
        have z2 := fl3.2.1
        rw [z] at z2
        cases z2
    have n0 : X.s_0.heap.get? a = none := by
      cases q : X.s_0.heap.get? a with
      | none => rfl
      | some o =>
        obtain ⟨o', z⟩ := J.base.there a o q (by rw [hex]; simp)
        rw [nI] at z
        cases z
    have npn : ∀ p ∈ X.pn ++ pins, p.1 ≠ a := fun p hp z => by
      have z1 := (J.pin p hp).1
      rw [z, nI] at z1
      cases z1
    refine wpAny_handleBy_cons (codeAny_handlers_test ?_) (by intro q; cases q)
    have S3 := Inv.toSuite J3 a
    have LT : PySem.W.Looks (model X.prog X.w) h3 (typeOf (.ref a)) cls := fun A Q E s k q => wpAny_typeOf_ref (k _ _ he3) (by rw [hz3.1]; exact q)
    have LM := PySem.W.exm_one (M := model X.prog X.w) (J3.kIn) LT hb1
    have test : ∀ {Q : Value → Shared → Prop} {E : Value → Shared → Prop}, Q c { s' with heap := h3 } → wpAny (model X.prog X.w) (X.A.mark (some (.ref a))) (eval (.Name x np) X.env) Q E { s' with heap := h3 } := fun {Q E} q => by
      obtain ⟨hg, hdbg, hm | ⟨hm, hv, hnn⟩⟩ := hc
      · exact ld_glob (X := X.suite a (X.pn ++ pins)) S3 hg hm q hdbg
      · exact ld_blt (X := X.suite a (X.pn ++ pins)) S3 hg hm hv q hnn hdbg
    refine test (LM.here ?_)
    cases b with
    | true =>
      refine codeAny_handlers_suite_as ?_
      refine HandSPX.lands_againZ fl3 fun h4 fl4 up4 => ?_
      have J4 : Inv X pins σ' H' { s' with heap := h4 } := J.landed nb fl4.1 ((up.trans up3).trans up4) os ag
      obtain ⟨oe4, vs4, he4, hz4, hd4⟩ := fl4.there
      have S4 := Inv.toSuite (Inv.hold J4 he4 hz4 hd4 na n0 nL npn) a
      refine store_ok (X := X.suite a (X.pn ++ pins)) (v := .ref a) S4 hN hi (.inl hln) rfl (fun s5 S5 => ?_) (.inr hln)
      refine wpAny_mono ((hsu a (X.pn ++ pins)).run [] s5 _ _ _ S5 (hyes rfl a na)) (fun f s6 hsp => ?_) (fun _ _ z => False.elim z)
      have end_ : ∀ {σ6 : L2.St} {H6 : Hp} {Q : Shared → Prop}, Inv (X.suite a (X.pn ++ pins)) [] σ6 H6 s6 → (∀ s7, Inv X pins (σ6.set i none) H6 s7 → Q s7) →
          wpAny (model X.prog X.w) X.A (do bindName X.env n .none; unbindBehindTheSuite X.env n pos') (fun _ s7 => Q s7) X.xe s6 := fun {σ6 H6 Q} S6 hq => gone_ok (Inv.ofSuite S6 ok) hN hi hln hq
      cases f with
      | next =>
        obtain ⟨σ6, H6, S6, q6⟩ := hsp
        exact end_ S6 fun s7 J7 => ⟨_, _, J7, q6⟩
      | brk =>
        obtain ⟨σ6, H6, S6, q6⟩ := hsp
        exact end_ S6 fun s7 J7 => ⟨_, _, J7, q6⟩
      | cont =>
        obtain ⟨σ6, H6, S6, q6⟩ := hsp
        exact end_ S6 fun s7 J7 => ⟨_, _, J7, q6⟩
      | ret u =>
        obtain ⟨v6, σ6, H6, S6, r6, q6⟩ := hsp
        exact end_ S6 fun s7 J7 => ⟨_, _, _, J7, r6, q6⟩
    | false =>
      show wpAny _ X.A (handleBy (.ref a) X.env []) _ _ _
      refine wpAny_handleBy_nil ?_
      obtain ⟨k1, k2, k3, oe, vs, T, oT, ts', he, hz, hd, h1, hr⟩ := id fl3
      unfold PySem.passOn
      refine wpAny_bind (wpAny_field he hd h1 ?_)
      rw [if_neg (show ¬ ((Value.ref T == Value.none) = true) from by simp)]
      have fin : wpAny (model X.prog X.w) X.A (setFlight (.ref a) X.env.frame) (fun _ s4 => wpAny (model X.prog X.w) X.A (throw (.ref a) : Sem Flow) (SP X pins D) X.xe s4) X.xe { s' with heap := h3 } := by
        rw [hf]
        refine HandSPX.setFlight_upZ fl3 fun h4 hh4 up4 => wpAny_throw (tk _ _ ?_)
        exact ⟨a, B, sI, pins, σ', H', cls, d, rfl, J, nb, (up.trans up3).trans up4, .inr (.inr (by rw [hs]; exact hh4)), na, os, ag, hno rfl⟩
      first
        | exact wpAny_bind (wpAny_pure (wpAny_bind fin))
        | exact wpAny_bind fin
  · cases f with
    | next =>
      obtain ⟨σ', H', J', q⟩ := hsp
      exact wpAny_execs_nil ⟨σ', H', J'.ofTry ok, q⟩
    | brk =>
      obtain ⟨σ', H', J', q⟩ := hsp
      exact ⟨σ', H', J'.ofTry ok, q⟩
    | cont =>
      obtain ⟨σ', H', J', q⟩ := hsp
      exact ⟨σ', H', J'.ofTry ok, q⟩
    | ret u =>
      obtain ⟨v, σ', H', J', r, q⟩ := hsp
      exact ⟨v, σ', H', J'.ofTry ok, r, q⟩
end
/-! ### defs that may raise -/
structure DefAtX (P : Program) (w : World) (K : PySem.W.Frag) (mg : Str → Option Value) (base : Heap) (x : Str) (st : Stmt) (k : Nat) (ps : List Str) (sp : Sp) : Prop where
  ex : ∃ f fd, mg x = some (.ref f) ∧ Fun K x x st f fd ∧ FnOk P w K mg base (L2.CX P w) k f fd ps sp ∧ Binds K fd ps []
structure MDefAtX (P : Program) (w : World) (K : PySem.W.Frag) (mg : Str → Option Value) (base : Heap) (C : Addr) (m qual : Str) (st : Stmt) (k : Nat) (ps : List Str) (sp : Sp) : Prop where
  ex : ∃ f fd, Meth K C m f ∧ Fun K m qual st f fd ∧ FnOk P w K mg base (L2.CX P w) k f fd ps sp ∧ Binds K fd ps []
section
variable {P : Program} {w : World} {K : PySem.W.Frag} {mg : Str → Option Value} {base : Heap} {x m qual : Str} {st : Stmt} {k : Nat} {ps N : List Str} {sp : Sp} {C : Addr}
theorem FunAt.okX (F : FunAt K mg x st) (S : FnScope N ps (defScope st)) (len : ∀ vs H Q E, sp vs H Q E → vs.length = ps.length)
    (hb : ∀ (kV doc pm : Value) (an : Option Addr) (cdv ct : Value) (us : List Value), us.length = ps.length → bindArgs (PySem.W.fnOf x x (defArgs st) (defBody st) (defScope st) .none kV doc pm an cdv ct) ⟨us, []⟩ = pure (ps.zip us))
    (hbody : ∀ (f : Addr) (cdv : Value) (A : Around) (outer : List Env) (s : Shared) (H : Hp) (vs : List V) (Q : VK) (E : XK), Room k (A.deeper (envOfC x (defScope st) s.heap.objs.size f cdv)) → sp vs H Q E →
      ∃ t, PSs (cxOf (L2.CX P w) P w K mg base N x (defScope st) f cdv A outer s H E) (defBody st) t ∧ t { nx := fun _ H' => Q .non H', rt := Q } (start N vs) H) : DefAtX P w K mg base x st (k + 1) ps sp := by
  obtain ⟨f, fd, hm, F⟩ := F.ex
  exact ⟨f, fd, hm, F, F.okX S len (fun cdv A outer s H vs Q E hr h => hbody f cdv A outer s H vs Q E hr h), F.binds hb⟩
theorem MethAt.okX (F : MethAt K C m qual st) (S : FnScope N ps (defScope st)) (len : ∀ vs H Q E, sp vs H Q E → vs.length = ps.length)
    (hb : ∀ (kV doc pm : Value) (an : Option Addr) (cdv ct : Value) (us : List Value), us.length = ps.length → bindArgs (PySem.W.fnOf m qual (defArgs st) (defBody st) (defScope st) .none kV doc pm an cdv ct) ⟨us, []⟩ = pure (ps.zip us))
    (hbody : ∀ (f : Addr) (cdv : Value) (A : Around) (outer : List Env) (s : Shared) (H : Hp) (vs : List V) (Q : VK) (E : XK), Room k (A.deeper (envOfC qual (defScope st) s.heap.objs.size f cdv)) → sp vs H Q E →
      ∃ t, PSs (cxOf (L2.CX P w) P w K mg base N qual (defScope st) f cdv A outer s H E) (defBody st) t ∧ t { nx := fun _ H' => Q .non H', rt := Q } (start N vs) H) : MDefAtX P w K mg base C m qual st (k + 1) ps sp := by
  obtain ⟨f, fd, hm, F⟩ := F.ex
  exact ⟨f, fd, hm, F, F.okX S len (fun cdv A outer s H vs Q E hr h => hbody f cdv A outer s H vs Q E hr h), F.binds hb⟩
end
/-! ### .. called -/
abbrev wAt (W : WX) (σ : L2.St) : XK := fun cls d H => W cls d σ H
def tCallX (sp : Sp) (W : WX) (t : TA) : TE := fun σ H Q => t σ H fun vs H1 => sp vs H1 Q (wAt W σ)
def tCallXK (n : Nat) (ix : List Nat) (sp : Sp) (W : WX) (tk : TA) : TE := fun σ H Q => tk σ H fun zs H2 => zs.length = n ∧ sp (pick ix zs) H2 Q (wAt W σ)
def tMethX (C : Addr) (m : Str) (sp : Sp) (W : WX) (ta : TE) (t : TA) : TE := fun σ H Q => ta σ H fun x H1 => ∃ a dx fs, x = .ref a ∧ H1 a = some (.ins C dx fs) ∧ fs.lookup m = none ∧ t σ H1 fun vs H2 => sp (x :: vs) H2 Q (wAt W σ)
def tMethXK (C : Addr) (m : Str) (n : Nat) (ix : List Nat) (sp : Sp) (W : WX) (ta : TE) (tk : TA) : TE := fun σ H Q => ta σ H fun x H1 => ∃ a dx fs, x = .ref a ∧ H1 a = some (.ins C dx fs) ∧ fs.lookup m = none ∧ tk σ H1 fun zs H2 => zs.length = n ∧ sp (x :: pick ix zs) H2 Q (wAt W σ)
def tMakeX (C : Addr) (sp : Sp) (W : WX) (t : TA) : TE := fun σ H Q => t σ H fun vs H1 => ∀ x dx, H1 x = none → H1 dx = none → dx ≠ x →
  sp (.ref x :: vs) (upd (upd H1 dx (.own x)) x (.ins C dx [])) (fun v H3 => v = .non ∧ Q (.ref x) H3) (wAt W σ)
def tMakeXK (C : Addr) (n : Nat) (ix : List Nat) (sp : Sp) (W : WX) (tk : TA) : TE := fun σ H Q => tk σ H fun zs H1 => zs.length = n ∧ ∀ x dx, H1 x = none → H1 dx = none → dx ≠ x →
  sp (.ref x :: pick ix zs) (upd (upd H1 dx (.own x)) x (.ins C dx [])) (fun v H3 => v = .non ∧ Q (.ref x) H3) (wAt W σ)
section
variable {X : Cx} {x m qual : Str} {st : Stmt} {k n : Nat} {ps ks : List Str} {sp : Sp} {C : Addr} {e o : Expr} {es : List Expr} {kws : List Keyword} {t tk : TA} {ta : TE} {p pos apos : Pos} {W : WX} {ix : List Nat} {CX : CXT} {f : Addr} {fd : FuncData}
/-- the callee runs; what it lets out is taken at these slots -/
theorem run_at {pins : List (Addr × Obj)} {σ : L2.St} {H : Hp} {s : Shared} {Q : VK} {E : XK} {us us' : List Value} {kw : List (Str × Value)} {vs : List V} (F : FnOk X.prog X.w X.K X.mg X.base CX k f fd ps sp) (hr : Room k X.A) (hx : PassesAt CX X σ E)
    (I : Inv X pins σ H s) (b : BindsTo s fd ⟨us, kw⟩ (ps.zip us')) (r : Vals vs us') (h : sp vs H Q E) : wpAny (model X.prog X.w) X.A (call (.ref f) us kw) (EP X pins σ Q) X.xe s := by
  refine wpAny_call (codeAny_mono (F.run X.A X.stack s H ⟨us, kw⟩ us' vs Q E hr I.env0 b r h) fun q s' hq => ?_)
  cases q with
  | error e => exact hx pins H s e s' I hq
  | ok fl =>
    cases fl with
    | ret u => exact I.after hq
    | next => exact False.elim hq
    | brk => exact False.elim hq
    | cont => exact False.elim hq
theorem run_makeAt {pins : List (Addr × Obj)} {σ : L2.St} {H : Hp} {s : Shared} {Q : VK} {E : XK} {us us' : List Value} {kw : List (Str × Value)} {vs : List V} (M : Mk X.K C f) (F : FnOk X.prog X.w X.K X.mg X.base CX k f fd ps sp) (hr : Room (k + 1) X.A) (hx : PassesAt CX X σ E)
    (I : Inv X pins σ H s) (b : ∀ (s' : Shared) (a : Addr), vs.length + 1 = ps.length → X.K.In s'.heap → BindsTo s' fd ⟨.ref a :: us, kw⟩ (ps.zip (.ref a :: us'))) (r : Vals vs us')
    (h : ∀ x dx, H x = none → H dx = none → dx ≠ x → sp (.ref x :: vs) (upd (upd H dx (.own x)) x (.ins C dx [])) (fun v H2 => v = .non ∧ Q (.ref x) H2) E) :
    wpAny (model X.prog X.w) X.A (call (.ref C) us kw) (EP X pins σ Q) X.xe s := by
  have hq := h (s.heap.objs.size + 1) s.heap.objs.size (I.hok.fresh (Nat.le_succ _)) (I.hok.fresh (Nat.le_refl _)) (Nat.ne_of_lt (Nat.lt_succ_self _))
  have I2 := Inv.made (C := C) I
  have r2 : Vals (V.ref (s.heap.objs.size + 1) :: vs) (Value.ref (s.heap.objs.size + 1) :: us') := .cons rfl r
  refine wpAny_call (make_map (f := f) I.kIn M.makes M.init (beq_iff_eq.mp M.fn) (codeAny_mono (F.run _ X.stack _ _ ⟨Value.ref (s.heap.objs.size + 1) :: us, kw⟩ _ _ _ E (hr.make C us kw) (I2.env0.make C us kw) (b _ _ (F.len _ _ _ _ hq) I2.kIn) r2 hq) fun q s' hq' => ?_))
  cases q with
  | error e => exact hx pins _ _ e s' I2 hq'
  | ok fl =>
    cases fl with
    | ret u =>
      obtain ⟨v, H', I3, rv, ev, q3⟩ := I2.after hq'
      subst ev
      exact ⟨rv, ⟨V.ref (s.heap.objs.size + 1), H', I3, rfl, q3⟩⟩
    | next => exact False.elim hq'
    | brk => exact False.elim hq'
    | cont => exact False.elim hq'
theorem binds0 {K : PySem.W.Frag} {s : Shared} {us : List Value} {vs : List V} (hb : Binds K fd ps []) (r : Vals vs us) (hl : vs.length = ps.length) (k : K.In s.heap) : BindsTo s fd ⟨us, []⟩ (ps.zip us) := by
  have b := hb s us k (by rw [List.append_nil, ← r.length]; exact hl)
  rw [List.append_nil] at b
  exact b
theorem pe_callX (D : DefAtX X.prog X.w X.K X.mg X.base x st k ps sp) (hr : Room k X.A) (tkn : Takes X W) (ha : PA X (e :: es) t) (hg : Gl X x := by rfl)
    (hdb : (x == ("__debug__" : Str)) = false := by decide) (he : starEach (e :: es) X.env = (false, eval e X.env) :: starEach es X.env := by rfl) (hpl : (backTo pos (starEach es X.env)).any (·.1) = false := by rfl) :
    PE X (.Call (.Name x p) (e :: es) [] pos) (tCallX sp W t) := by
  obtain ⟨f, fd, hm, F, G, b⟩ := D.ex
  refine ⟨fun pins s σ H Q I h => ?_⟩
  refine wpAny_Call_Name_kw (ld_glob I hg hm ?_ hdb)
  refine PySem.W.callWith_K (h₀ := X.base) I.ok.mod.kin F.kp (thn (ha.run pos pins s σ H _ I h) fun us s1 ⟨vs, H1, I1, r, q⟩ => ⟨I1.kIn, ?_⟩) he hpl
  exact run_at (us := us) G hr (L2.passAt tkn σ) I1 (binds0 b r (G.len _ _ _ _ q) I1.kIn) r q
theorem pe_callXK (D : DefAtX X.prog X.w X.K X.mg X.base x st k ps sp) (hr : Room k X.A) (tkn : Takes X W) (hkw : PK X kws tk) (B : KB0 x x st ps ks 0 ix) (hg : Gl X x := by rfl)
    (hall : (backToKw pos (keywordEach kws X.env)).all (·.1.isSome) = true := by rfl) (hks : (backToKw pos (keywordEach kws X.env)).filterMap (·.1) = ks := by rfl) (hdb : (x == ("__debug__" : Str)) = false := by decide)
    (hpl : ((backTo pos (starEach [] X.env)).any (·.1) || (backToKw pos (keywordEach kws X.env)).any (·.1.isNone)) = false := by rfl) :
    PE X (.Call (.Name x p) [] kws pos) (tCallXK ks.length ix sp W tk) := by
  obtain ⟨f, fd, hm, F, G, b⟩ := D.ex
  refine ⟨fun pins s σ H Q I h => ?_⟩
  refine wpAny_Call_Name_kw (ld_glob I hg hm ?_ hdb)
  refine PySem.W.callWith_KW0 (h₀ := X.base) I.ok.mod.kin F.kp hall ?_ hpl
  refine thn (hkw.run pos pins s σ H _ I h) fun ws s2 ⟨zs, H2, I2, rz, l2, q2⟩ => ⟨I2.kIn, ?_⟩
  rw [hks]
  exact run_at (us := []) G hr (L2.passAt tkn σ) I2 ((B.kbn F).to s2 [] ws I2.kIn rfl (rz.length.symm.trans l2)) (pick_vals rz ix) q2
theorem pe_methX {pl : Sem Bool} (he : PE X o ta) (T : Cls X.K C) (D : MDefAtX X.prog X.w X.K X.mg X.base C m qual st k ps sp) (hr : Room k X.A) (tkn : Takes X W) (ha : PA X (e :: es) t)
    (hst : starEach (e :: es) X.env = (false, eval e X.env) :: starEach es X.env := by rfl) (hpl : (backTo pos (starEach es X.env)).any (·.1) = false := by rfl)
    (ht : eval (.Call (.Attribute o m apos) (e :: es) [] pos) X.env = (do
      let ov ← eval o X.env
      standAt apos.atName
      let (f, first) ← holding [ov] (getMethod ov m pl)
      callWith pos f first (backTo pos (starEach (e :: es) X.env)) (backToKw pos (keywordEach [] X.env))) := by rfl) :
    PE X (.Call (.Attribute o m apos) (e :: es) [] pos) (tMethX C m sp W ta t) := by
  obtain ⟨f, fd, hm, F, G, b⟩ := D.ex
  refine ⟨fun pins s σ H Q I h => ?_⟩
  refine PySem.W.methodCall_KW (pl := pl) (thn (he.run pins s σ H _ I h) fun u s1 ⟨x, H1, I1, rx, a, dx, fs, ex, ea, l, q⟩ => ?_) ht
  subst ex
  obtain rfl : u = Value.ref a := rx
  refine getmeth_ok I1 ea T hm l ?_
  refine PySem.W.callWith_K (first := [.ref a]) (h₀ := X.base) I.ok.mod.kin hm.kp (thn (ha.run pos pins s1 σ H1 _ I1 q) fun us s2 ⟨vs, H2, I2, r, q2⟩ => ⟨I2.kIn, ?_⟩) hst hpl
  have r2 : Vals (V.ref a :: vs) (Value.ref a :: us) := .cons rfl r
  exact run_at (us := .ref a :: us) G hr (L2.passAt tkn σ) I2 (binds0 b r2 (G.len _ _ _ _ q2) I2.kIn) r2 q2
theorem pe_methX0 {pl : Sem Bool} (he : PE X o ta) (T : Cls X.K C) (D : MDefAtX X.prog X.w X.K X.mg X.base C m qual st k ps sp) (hr : Room k X.A) (tkn : Takes X W)
    (ht : eval (.Call (.Attribute o m apos) [] [] pos) X.env = (do
      let ov ← eval o X.env
      standAt apos.atName
      let (f, first) ← holding [ov] (getMethod ov m pl)
      callWith pos f first (backTo pos (starEach [] X.env)) (backToKw pos (keywordEach [] X.env))) := by rfl) :
    PE X (.Call (.Attribute o m apos) [] [] pos) (tMethX C m sp W ta tNil) := by
  obtain ⟨f, fd, hm, F, G, b⟩ := D.ex
  refine ⟨fun pins s σ H Q I h => ?_⟩
  refine PySem.W.methodCall_KW (pl := pl) (thn (he.run pins s σ H _ I h) fun u s1 ⟨x, H1, I1, rx, a, dx, fs, ex, ea, l, q⟩ => ?_) ht
  subst ex
  obtain rfl : u = Value.ref a := rx
  refine getmeth_ok I1 ea T hm l ?_
  refine PySem.W.callWith_K0 (first := [.ref a]) I1.kIn hm.kp ?_
  have r2 : Vals [V.ref a] [Value.ref a] := .cons rfl .nil
  exact run_at (us := [.ref a]) G hr (L2.passAt tkn σ) I1 (binds0 b r2 (G.len _ _ _ _ q) I1.kIn) r2 q
theorem pe_methXK {pl : Sem Bool} (he : PE X o ta) (T : Cls X.K C) (D : MDefAtX X.prog X.w X.K X.mg X.base C m qual st k ps sp) (hr : Room k X.A) (tkn : Takes X W) (hkw : PK X kws tk) (B : KB0 m qual st ps ks 1 ix)
    (hall : (backToKw pos (keywordEach kws X.env)).all (·.1.isSome) = true := by rfl) (hks : (backToKw pos (keywordEach kws X.env)).filterMap (·.1) = ks := by rfl)
    (hpl : ((backTo pos (starEach [] X.env)).any (·.1) || (backToKw pos (keywordEach kws X.env)).any (·.1.isNone)) = false := by rfl)
    (ht : eval (.Call (.Attribute o m apos) [] kws pos) X.env = (do
      let ov ← eval o X.env
      standAt apos.atName
      let (f, first) ← holding [ov] (getMethod ov m pl)
      callWith pos f first (backTo pos (starEach [] X.env)) (backToKw pos (keywordEach kws X.env))) := by rfl) :
    PE X (.Call (.Attribute o m apos) [] kws pos) (tMethXK C m ks.length ix sp W ta tk) := by
  obtain ⟨f, fd, hm, F, G, b⟩ := D.ex
  refine ⟨fun pins s σ H Q I h => ?_⟩
  refine PySem.W.methodCall_KW (pl := pl) (thn (he.run pins s σ H _ I h) fun u s1 ⟨x, H1, I1, rx, a, dx, fs, ex, ea, l, q⟩ => ?_) ht
  subst ex
  obtain rfl : u = Value.ref a := rx
  refine getmeth_ok I1 ea T hm l ?_
  refine PySem.W.callWith_KW0 (first := [.ref a]) (h₀ := X.base) I.ok.mod.kin hm.kp hall ?_ hpl
  refine thn (hkw.run pos pins s1 σ H1 _ I1 q) fun ws s2 ⟨zs, H2, I2, rz, l2, q2⟩ => ⟨I2.kIn, ?_⟩
  rw [hks]
  have r2 : Vals (V.ref a :: pick ix zs) (Value.ref a :: pick ix ws) := .cons rfl (pick_vals rz ix)
  exact run_at (us := [.ref a]) G hr (L2.passAt tkn σ) I2 ((B.kbn F).to s2 [.ref a] ws I2.kIn rfl (rz.length.symm.trans l2)) r2 q2
theorem pe_makeX (T : ClsAt X.K X.mg x C) (D : MDefAtX X.prog X.w X.K X.mg X.base C "__init__" qual st k ps sp) (hr : Room (k + 1) X.A) (tkn : Takes X W) (ha : PA X (e :: es) t) (hg : Gl X x := by rfl)
    (hdb : (x == ("__debug__" : Str)) = false := by decide) (he : starEach (e :: es) X.env = (false, eval e X.env) :: starEach es X.env := by rfl) (hpl : (backTo pos (starEach es X.env)).any (·.1) = false := by rfl) :
    PE X (.Call (.Name x p) (e :: es) [] pos) (tMakeX C sp W t) := by
  obtain ⟨f, fd, hm, F, G, b⟩ := D.ex
  refine ⟨fun pins s σ H Q I h => ?_⟩
  refine wpAny_Call_Name_kw (ld_glob I hg T.g ?_ hdb)
  refine PySem.W.callWith_K (h₀ := X.base) I.ok.mod.kin T.kp (thn (ha.run pos pins s σ H _ I h) fun us s1 ⟨vs, H1, I1, r, q⟩ => ⟨I1.kIn, ?_⟩) he hpl
  refine run_makeAt (us := us) ⟨T.mks, hm.at_, hm.fn, T.kp⟩ G hr (L2.passAt tkn σ) I1 (fun s' a hl hk => ?_) r q
  have r2 : Vals (V.ref a :: vs) (Value.ref a :: us) := .cons rfl r
  exact binds0 b r2 hl hk
theorem pe_makeXK (T : ClsAt X.K X.mg x C) (D : MDefAtX X.prog X.w X.K X.mg X.base C "__init__" qual st k ps sp) (hr : Room (k + 1) X.A) (tkn : Takes X W) (hkw : PK X kws tk) (B : KB0 "__init__" qual st ps ks 1 ix) (hg : Gl X x := by rfl)
    (hall : (backToKw pos (keywordEach kws X.env)).all (·.1.isSome) = true := by rfl) (hks : (backToKw pos (keywordEach kws X.env)).filterMap (·.1) = ks := by rfl) (hdb : (x == ("__debug__" : Str)) = false := by decide)
    (hpl : ((backTo pos (starEach [] X.env)).any (·.1) || (backToKw pos (keywordEach kws X.env)).any (·.1.isNone)) = false := by rfl) :
    PE X (.Call (.Name x p) [] kws pos) (tMakeXK C ks.length ix sp W tk) := by
  obtain ⟨f, fd, hm, F, G, b⟩ := D.ex
  refine ⟨fun pins s σ H Q I h => ?_⟩
  refine wpAny_Call_Name_kw (ld_glob I hg T.g ?_ hdb)
  refine PySem.W.callWith_KW0 (h₀ := X.base) I.ok.mod.kin T.kp hall ?_ hpl
  refine thn (hkw.run pos pins s σ H _ I h) fun ws s2 ⟨zs, H2, I2, rz, l2, q2⟩ => ⟨I2.kIn, ?_⟩
  rw [hks]
  exact run_makeAt (us := []) ⟨T.mks, hm.at_, hm.fn, T.kp⟩ G hr (L2.passAt tkn σ) I2 (fun s' a _ hk => (B.kbn F).to s' [.ref a] ws hk rfl (rz.length.symm.trans l2)) (pick_vals rz ix) q2
end
/-! ### the classes of exceptions -/
/-- what the written part says of an own class C below ValueError whose instances have the field f -/
structure ExAt (K : PySem.W.Frag) (mg : Str → Option Value) (x : Str) (C : Addr) : Prop where
  g : mg x = some (.ref C)
  kp : PySem.W.keepIn K (.ref C) = true
  o : OexC K C
  ga : PySem.W.findIn K (.ref C) "__getattribute__" = some (some (.builtin "BaseException.__getattribute__"))
  gg : PySem.W.findIn K (.ref C) "__getattr__" = some none
  hd : PySem.W.hasDictIn K C = true
  cl : PySem.W.findIn K (.ref C) "__class__" = some (some (.builtin "object.__class__"))
  cn : PySem.W.specialIn K (.builtin "object.__class__") "__get__" = some (some (.builtin "getset_descriptor.__get__"))
  ct : PySem.W.takesIn K (.builtin "object.__class__") = some true
  cm : PySem.W.mroIn K C (.type "object") = some true
  no : PySem.W.findIn K (.ref C) "value" = some none
/-- the base class, whose __init__ is ValueError's -/
structure ExBase (K : PySem.W.Frag) (mg : Str → Option Value) (x : Str) (C : Addr) : Prop where
  g : mg x = some (.ref C)
  rd : PySem.W.readsIn K C (.type "type") = true
  ga : PySem.W.specialIn K (.ref C) "__getattribute__" = some (some (.builtin "type.__getattribute__"))
  i : PySem.W.findCls K (.ref C) (.type "type") "__init__" = some (.val (.builtin "ValueError.__init__"))
section
variable {X : Cx} {o e : Expr} {es : List Expr} {to te : TE} {ta : TA} {f x : Str} {p p' p1 p2 pos : Pos} {B C : Addr}
/-- B.__init__(self, ..), B's __init__ being ValueError's -/
theorem pe_beinit {pl : Sem Bool} (T : ExBase X.K X.mg x B) (ha : PA X (e :: es) ta) (hg : Gl X x := by rfl) (hdb : (x == ("__debug__" : Str)) = false := by decide)
    (hc : eval (.Call (.Attribute (.Name x p1) "__init__" p2) (e :: es) [] pos) X.env = (do
      let ov ← eval (.Name x p1) X.env
      standAt p2.atName
      let (f, first) ← holding [ov] (getMethod ov "__init__" pl)
      callWith pos f first (backTo pos (starEach (e :: es) X.env)) (backToKw pos (keywordEach [] X.env))) := by rfl)
    (he : starEach (e :: es) X.env = (false, eval e X.env) :: starEach es X.env := by rfl) (hpl : (backTo pos (starEach es X.env)).any (·.1) = false := by rfl) :
    PE X (.Call (.Attribute (.Name x p1) "__init__" p2) (e :: es) [] pos) (tVeI X.K ta) := by
  refine ⟨fun pins s σ H Q I h => ?_⟩
  refine PySem.W.methodCall_KW (ld_glob I hg T.g ?_ hdb) hc
  refine PySem.W.method_cls I.kIn T.ga (PySem.W.cls_value I.kIn T.rd T.i rfl ?_)
  refine PyProof.Rows.callWith_method1 (thn (ha.run pos pins _ σ H _ (I.tok _) h) fun us s1 ⟨vs, H1, I1, r1, a, C, ws, ev, hl, T, ea, q⟩ => ?_) he hpl
  subst ev
  cases r1 with
  | @cons _ u0 _ ur ra rw' =>
    obtain rfl : u0 = Value.ref a := ra
    have hlen : ur.length ≤ sizeLine := by
      rw [← Paired.length rw', sizeLine_eq]
      omega
    exact oinit_ok T I1 ea hlen fun s' J => ⟨.non, H1, J, rfl, q⟩
end
/-- what the __init__ of such a class does -/
def spEInit (K : PySem.W.Frag) (C : Addr) : Sp := fun vs H Q _ => ∃ (a : Addr) (y : V), vs = [.ref a, y] ∧ H a = some (exo a C none) ∧ ∀ dx, H dx = none → dx ≠ a → Q .non (upd (upd H dx (exd dx [("value", y)])) a (exo a C (some dx)))
/-- raise C(e) -/
def tRaiseX (K : PySem.W.Frag) (C : Addr) (W : WX) (te : TE) : TS := fun _ σ H => tMkO C (spEInit K C) [] (tCons te tNil) σ H (wAt W σ)
def RaiseX (K : PySem.W.Frag) (C : Addr) (W : WX) (σ : L2.St) : V → Hp → Prop := fun y H1 => [y].length ≤ 1000 ∧ ∀ a, H1 a = none → spEInit K C (.ref a :: ([y] ++ [])) (upd H1 a (exo a C none))
  (fun v H2 => v = .non ∧ ∃ (d : Addr) (fs : List (Str × V)), H2 a = some (exo a C (some d)) ∧ H2 d = some (exd d fs) ∧ H1 d = none ∧ wAt W σ (.ref C) (some d) (upd (del H2 a) d (.xd fs))) (fun _ _ _ => False)
section
variable {X : Cx} {e : Expr} {te : TE} {x qual : Str} {st : Stmt} {k : Nat} {C : Addr} {W : WX} {p pos pos2 : Pos} {K : PySem.W.Frag} {σ : L2.St} {H : Hp} {D : Ends} {y : V}
theorem w_raise (h : te σ H (RaiseX K C W σ)) : tRaiseX K C W te D σ H := h
theorem w_raiseE (q : ∀ d, H d = none → W (.ref C) (some d) σ (upd H d (.xd [("value", y)]))) : RaiseX K C W σ y H := by
  refine ⟨by simp, fun a na => ⟨a, y, rfl, upd_same, fun dx nd ne => ?_⟩⟩
  have nd' : H dx = none := by
    rw [upd_ne ne] at nd
    exact nd
  refine ⟨rfl, dx, [("value", y)], upd_same, ?_, nd', ?_⟩
  · rw [upd_ne ne]
    exact upd_same
  · have e : upd (del (upd (upd (upd H a (exo a C none)) dx (exd dx [("value", y)])) a (exo a C (some dx))) a) dx (.xd [("value", y)]) = upd H dx (.xd [("value", y)]) := by
      funext b
      by_cases hb : b = dx
      · rw [hb, upd_same, upd_same]
      · rw [upd_ne hb, upd_ne hb]
        by_cases ha : b = a
        · rw [ha, del_same, na]
        · rw [del_ne ha, upd_ne ha, upd_ne hb, upd_ne ha]
    show W _ _ σ _
    rw [e]
    exact q dx nd'
theorem ps_raiseX (T : ExAt X.K X.mg x C) (D : MDefAt X.prog X.w X.K X.mg X.base C "__init__" qual st k ["self", "value"] (spEInit X.K C)) (hr : Room (k + 1) X.A) (tk : Takes X W) (he : PE X e te) (hc : X.calm = true := by rfl) (hg : Gl X x := by rfl)
    (hdb : (x == ("__debug__" : Str)) = false := by decide) (hst : starEach [e] X.env = (false, eval e X.env) :: starEach [] X.env := by rfl) (hpl : (backTo pos (starEach [] X.env)).any (·.1) = false := by rfl) :
    PS X (.Raise (some (.Call (.Name x p) [e] [] pos)) none pos2) (tRaiseX X.K C W te) := by
  obtain ⟨f, fd, hm, F, G, b⟩ := D.ex
  have ti : PySem.W.typeIn X.K (.ref f) = some (.type "function") := beq_iff_eq.mp hm.fn
  exact ⟨fun pins s σ H D I h => (ps_raise hc tk (pmk_oex (p := p) (pos := pos) T.o hm.at_ ti G hr b .nil (fun _ _ _ _ _ _ _ z => z.elim) hg T.g (pa_cons he pa_nil hst) hdb hst hpl)).run pins s σ H D I h⟩
end
/-! ### the exception in the heap: its class, its field -/
/-- isinstance(e, c), e an exception that was caught -/
def rIsE (K : PySem.W.Frag) : List V → Hp → VK → Prop := fun xs H Q => ∃ (a D dd : Addr) (fs : List (Str × V)) (mg : Str → Option Value) (x : Str) (c : V) (u : Value) (b : Bool), xs = [.ref a, c] ∧ ClsV c u ∧ H a = some (exh a (.ref D) (some dd)) ∧ H dd = some (.xd fs) ∧ ExAt K mg x D ∧ PySem.W.kitOne K (.ref D) u = some b ∧ Q (.bl b) H
/-- isinstance(e, (c1, ..)) -/
def rIsET (K : PySem.W.Frag) : List V → Hp → VK → Prop := fun xs H Q => ∃ (a D dd tp : Addr) (fs : List (Str × V)) (mg : Str → Option Value) (x : Str) (cs : List V) (us : List Value) (b : Bool), xs = [.ref a, .ref tp] ∧ H tp = some (.tup cs) ∧ Paired ClsV cs us ∧ H a = some (exh a (.ref D) (some dd)) ∧ H dd = some (.xd fs) ∧ ExAt K mg x D ∧ PySem.W.kitAny K (.ref D) us = some b ∧ Q (.bl b) H
section
variable {X : Cx} {pins : List (Addr × Obj)} {σ : L2.St} {H : Hp} {s : Shared} {a D dd : Addr} {fs : List (Str × V)} {mg : Str → Option Value} {x : Str}
theorem exh_inst (I : Inv X pins σ H s) (ea : H a = some (exh a (.ref D) (some dd))) (ed : H dd = some (.xd fs)) : ∃ oe od, PySem.W.InstAt s.heap a oe D (some od) ∧ ∃ mA : Str → Option Value, (∀ f, RelO (fs.lookup f) (mA f)) ∧ ∀ f, PySem.W.lookIn f od = some (mA f) := by
  obtain ⟨oe, vs, h1, hz, hd⟩ := exh_at I.hok ea
  have hx : ObjOk X.prog X.w H s.heap dd (.xd fs) := I.hok dd _ ed
  obtain ⟨mA, hns, hr⟩ := hx
  obtain ⟨od, ho, hl⟩ := lookIn_ns hns
  exact ⟨oe, od, ⟨h1, hz.1, by unfold PySem.W.notCls; rw [hd] <;> rfl, by rw [hz.2]; exact ho⟩, mA, hr, hl⟩
theorem ExAt.some {K : PySem.W.Frag} (T : ExAt K mg x D) : (PySem.W.clsIn K D).isSome = true := by
  obtain ⟨cd, hc, _⟩ := PySem.W.any_some T.hd
  rw [hc]
  rfl
theorem call_isE : CallR X (.builtin "isinstance") (rIsE X.K) := by
  intro pins s σ H xs us Q I r h
  obtain ⟨a, D, dd, fs, mg, x, c, u, b, rfl, k, ea, ed, T, e, q⟩ := h
  obtain ⟨u1, u2, rfl, r1, r2⟩ := vals2 r
  have e2 := k.eq r2
  subst e2
  obtain rfl : u1 = Value.ref a := r1
  obtain ⟨oe, od, J, _⟩ := exh_inst I ea ed
  exact PySem.W.kia_one (PySem.W.kitx_exc T.some T.ga T.gg T.o.exC T.cl T.cn T.ct T.cm) I.kIn J e (fun z => nomatch z) fun tk => ⟨.bl b, H, I.tok tk, rfl, q⟩
theorem call_isET : CallR X (.builtin "isinstance") (rIsET X.K) := by
  intro pins s σ H xs us Q I r h
  obtain ⟨a, D, dd, tp, fs, mg, x, cs, ws, b, rfl, hT, k, ea, ed, T, e, q⟩ := h
  obtain ⟨u1, u2, rfl, r1, r2⟩ := vals2 r
  obtain rfl : u1 = Value.ref a := r1
  cases (show u2 = Value.ref tp from r2)
  obtain ⟨oe, od, J, _⟩ := exh_inst I ea ed
  obtain ⟨_, its, rv, o, h1, h2, n, h3⟩ := (show ObjOk X.prog X.w H s.heap tp (.tup cs) from I.hok tp _ hT)
  have e3 := ClsV.all k rv
  subst e3
  obtain ⟨oc, od', dt, sl⟩ := o
  simp only at h2 h3
  subst h2 h3
  exact PySem.W.kia_tup (PySem.W.kitx_exc T.some T.ga T.gg T.o.exC T.cl T.cn T.ct T.cm) I.kIn J h1 e (fun z => nomatch z) fun tk => ⟨.bl b, H, I.tok tk, rfl, q⟩
/-- e.value -/
def XfE (K : PySem.W.Frag) (Q : VK) : V → Hp → Prop := fun x H1 => ∃ (a D dd : Addr) (fs : List (Str × V)) (mg : Str → Option Value) (nm : Str) (v : V), x = .ref a ∧ H1 a = some (exh a (.ref D) (some dd)) ∧ H1 dd = some (.xd fs) ∧ ExAt K mg nm D ∧ fs.lookup ("value" : Str) = some v ∧ Q v H1
def tXfH (K : PySem.W.Frag) (te : TE) : TE := fun σ H Q => te σ H (XfE K Q)
theorem pe_xfH {e : Expr} {te : TE} {pos : Pos} (he : PE X e te) (hb : attributeBase e "value" X.env (eval e X.env) = eval e X.env := by rfl) : PE X (.Attribute e "value" pos) (tXfH X.K te) := by
  refine ⟨fun pins s σ H Q I h => ?_⟩
  refine attr_of hb (thn (he.run pins s σ H _ I h) fun u s1 hh => ?_)
  obtain ⟨x, H1, I1, rx, a, D, dd, fs, mg, nm, v, ex, ea, ed, T, l, q⟩ := hh
  subst ex
  obtain rfl : u = Value.ref a := rx
  obtain ⟨oe, od, J, mA, hr, hl⟩ := exh_inst I1 ea ed
  obtain ⟨u, hu, ru⟩ := RelO.some_of (v := v) (o := mA "value") (by rw [← l]; exact hr "value")
  exact HandSPX.exc_get I1.kIn J T.ga T.gg T.o.exC (PySem.W.findObj_own T.hd T.no rfl (by rw [hl, hu])) (handed_of ru) ⟨v, H1, I1.tok _, ru, q⟩
end
section
variable {K : PySem.W.Frag} {mg mg2 : Str → Option Value} {x y : Str} {C D : Addr} {b : Bool}
/-- isinstance of own classes, answered -/
theorem kit_ex (hC : PySem.W.hasDictIn K C = true) (ty : PySem.W.typeIn K (.ref C) = some (.type "type")) (self : PySem.W.subIn K (.ref D) (.ref D) = some true) (sub : PySem.W.subIn K (.ref D) (.ref C) = some b) : PySem.W.kitOne K (.ref D) (.ref C) = some b := by
  obtain ⟨cd, hc, _⟩ := PySem.W.any_some hC
  unfold PySem.W.kitOne
  by_cases e : D = C
  · subst e
    rw [self] at sub
    cases sub
    rw [if_pos (beq_self_eq_true _)]
  · have ne : (Value.ref D == Value.ref C) = false := Bool.eq_false_iff.mpr fun z => e (Value.ref.inj (beq_iff_eq.mp z))
    rw [ne, if_neg Bool.false_ne_true]
    show (if ((PySem.W.clsIn K C).isSome && PySem.W.typeIn K (.ref C) == some (.type "type")) = true then PySem.W.subIn K (.ref D) (.ref C) else none) = some b
    rw [hc, ty, sub, if_pos (by rfl)]
theorem kit_exT {T : String} (m : PySem.W.kitMeta T = true) (sub : PySem.W.subIn K (.ref D) (.type T) = some b) : PySem.W.kitOne K (.ref D) (.type T) = some b := by
  unfold PySem.W.kitOne
  have ne : (Value.ref D == Value.type T) = false := Bool.eq_false_iff.mpr fun z => by cases beq_iff_eq.mp z
  rw [ne, if_neg Bool.false_ne_true]
  show (if PySem.W.kitMeta T = true then PySem.W.subIn K (.ref D) (.type T) else none) = some b
  rw [if_pos m, sub]
end
section
variable {K : PySem.W.Frag} {c : Value} {i : Nat} {tb : WX → TS} {ts : TS} {Wout : WX} {D : Ends} {σ : L2.St} {H : Hp} {cls : Value} {d : Option Addr} {Q : VK}
theorem w_try (h : tb (wCau K c i ts Wout D) D σ H) : tTryH K c i tb ts Wout D σ H := h
theorem w_caught (hb : PySem.W.exmOne K cls c = some true) (h : ∀ a, H a = none → ts { nx := fun σ' H' => D.nx (σ'.set i none) H', rt := D.rt, bk := fun σ' H' => D.bk (σ'.set i none) H', ct := fun σ' H' => D.ct (σ'.set i none) H' } (σ.set i (some (.ref a))) (upd H a (exh a cls d))) :
    wCau K c i ts Wout D cls d σ H := ⟨true, hb, fun _ => h, fun z => nomatch z⟩
variable {a D' dd tp : Addr} {fs : List (Str × V)} {mg : Str → Option Value} {x : Str} {cv : V} {u : Value} {b : Bool} {cs : List V} {us : List Value} {v : V} {te : TE} {sp : Sp} {W : WX} {t tk : TA} {n : Nat} {ix : List Nat} {C dx : Addr} {m : Str} {ta : TE} {y : V}
theorem w_isE (ea : H a = some (exh a (.ref D') (some dd))) (ed : H dd = some (.xd fs)) (T : ExAt K mg x D') (k : ClsV cv u) (e : PySem.W.kitOne K (.ref D') u = some b) (q : Q (.bl b) H) : rIsE K [.ref a, cv] H Q := ⟨a, D', dd, fs, mg, x, cv, u, b, rfl, k, ea, ed, T, e, q⟩
theorem w_xfH (h : te σ H (XfE K Q)) : tXfH K te σ H Q := h
theorem w_xfE (ea : H a = some (exh a (.ref D') (some dd))) (ed : H dd = some (.xd [("value", v)])) (T : ExAt K mg x D') (q : Q v H) : XfE K Q (.ref a) H := ⟨a, D', dd, _, mg, x, v, rfl, ea, ed, T, by simp [List.lookup], q⟩
/-- calls -/
def CallXE (sp : Sp) (W : WX) (σ : L2.St) (Q : VK) : List V → Hp → Prop := fun vs H1 => sp vs H1 Q (wAt W σ)
theorem w_callX (h : t σ H (CallXE sp W σ Q)) : tCallX sp W t σ H Q := h
theorem w_callXE {vs : List V} (h : sp vs H Q (wAt W σ)) : CallXE sp W σ Q vs H := h
def KwXE (n : Nat) (ix : List Nat) (sp : Sp) (W : WX) (σ : L2.St) (Q : VK) : List V → Hp → Prop := fun zs H => zs.length = n ∧ sp (pick ix zs) H Q (wAt W σ)
theorem w_callXK (h : tk σ H (KwXE n ix sp W σ Q)) : tCallXK n ix sp W tk σ H Q := h
theorem w_kwXE {zs : List V} (e : zs.length = n) (q : sp (pick ix zs) H Q (wAt W σ)) : KwXE n ix sp W σ Q zs H := ⟨e, q⟩
def MethXE (C : Addr) (m : Str) (t : TA) (R : V → List V → Hp → Prop) (σ : L2.St) : V → Hp → Prop := fun x H1 => ∃ a dx fs, x = .ref a ∧ H1 a = some (.ins C dx fs) ∧ fs.lookup m = none ∧ t σ H1 (R x)
def MRunXE (sp : Sp) (W : WX) (σ : L2.St) (Q : VK) : V → List V → Hp → Prop := fun x vs H2 => sp (x :: vs) H2 Q (wAt W σ)
def MKwXE (n : Nat) (ix : List Nat) (sp : Sp) (W : WX) (σ : L2.St) (Q : VK) : V → List V → Hp → Prop := fun x zs H2 => zs.length = n ∧ sp (x :: pick ix zs) H2 Q (wAt W σ)
theorem w_methX (h : ta σ H (MethXE C m t (MRunXE sp W σ Q) σ)) : tMethX C m sp W ta t σ H Q := h
theorem w_methXK (h : ta σ H (MethXE C m tk (MKwXE n ix sp W σ Q) σ)) : tMethXK C m n ix sp W ta tk σ H Q := h
theorem w_methXE {R : V → List V → Hp → Prop} (h : H a = some (.ins C dx fs)) (e : fs.lookup m = none) (q : t σ H (R (.ref a))) : MethXE C m t R σ (.ref a) H := ⟨a, dx, fs, rfl, h, e, q⟩
theorem w_mrunXE {vs : List V} (h : sp (y :: vs) H Q (wAt W σ)) : MRunXE sp W σ Q y vs H := h
theorem w_mkwXE {zs : List V} (e : zs.length = n) (h : sp (y :: pick ix zs) H Q (wAt W σ)) : MKwXE n ix sp W σ Q y zs H := ⟨e, h⟩
def MakeXE (C : Addr) (sp : Sp) (W : WX) (σ : L2.St) (Q : VK) : List V → Hp → Prop := fun vs H1 => ∀ x dx, H1 x = none → H1 dx = none → dx ≠ x →
  sp (.ref x :: vs) (upd (upd H1 dx (.own x)) x (.ins C dx [])) (fun v H3 => v = .non ∧ Q (.ref x) H3) (wAt W σ)
theorem w_makeX (h : t σ H (MakeXE C sp W σ Q)) : tMakeX C sp W t σ H Q := h
theorem w_makeXE {vs : List V} (h : ∀ x dx, H x = none → H dx = none → dx ≠ x → sp (.ref x :: vs) (upd (upd H dx (.own x)) x (.ins C dx [])) (fun v H3 => v = .non ∧ Q (.ref x) H3) (wAt W σ)) : MakeXE C sp W σ Q vs H := h
def MakeXKE (C : Addr) (n : Nat) (ix : List Nat) (sp : Sp) (W : WX) (σ : L2.St) (Q : VK) : List V → Hp → Prop := fun zs H1 => zs.length = n ∧ ∀ x dx, H1 x = none → H1 dx = none → dx ≠ x →
  sp (.ref x :: pick ix zs) (upd (upd H1 dx (.own x)) x (.ins C dx [])) (fun v H3 => v = .non ∧ Q (.ref x) H3) (wAt W σ)
theorem w_makeXK (h : tk σ H (MakeXKE C n ix sp W σ Q)) : tMakeXK C n ix sp W tk σ H Q := h
theorem w_makeXKE {zs : List V} (e : zs.length = n) (h : ∀ x dx, H x = none → H dx = none → dx ≠ x → sp (.ref x :: pick ix zs) (upd (upd H dx (.own x)) x (.ins C dx [])) (fun v H3 => v = .non ∧ Q (.ref x) H3) (wAt W σ)) : MakeXKE C n ix sp W σ Q zs H := ⟨e, h⟩
/-- __init__ of such a class -/
def VeIE (K : PySem.W.Frag) (Q : VK) : List V → Hp → Prop := fun vs H1 => ∃ (a C : Addr) (ws : List V), vs = .ref a :: ws ∧ ws.length ≤ 1000 ∧ OexC K C ∧ H1 a = some (exo a C none) ∧ Q .non H1
theorem w_veI (h : t σ H (VeIE K Q)) : tVeI K t σ H Q := h
theorem w_veIE {ws : List V} (hl : ws.length ≤ 1000) (T : OexC K C) (e : H a = some (exo a C none)) (q : Q .non H) : VeIE K Q (.ref a :: ws) H := ⟨a, C, ws, rfl, hl, T, e, q⟩
def OstE (K : PySem.W.Frag) (f : Str) (R : L2.St → Hp → Prop) (σ : L2.St) (y : V) : V → Hp → Prop := fun x H2 => ∃ a C : Addr, x = .ref a ∧ OexC K C ∧ PySem.W.findIn K (.ref C) f = some none ∧
  ((H2 a = some (exo a C none) ∧ ∀ dx, H2 dx = none → dx ≠ a → R σ (upd (upd H2 dx (exd dx [(f, y)])) a (exo a C (some dx)))) ∨
    ∃ (dx : Addr) (fs : List (Str × V)), H2 a = some (exo a C (some dx)) ∧ H2 dx = some (exd dx fs) ∧ fs.length ≤ 900 ∧ R σ (upd H2 dx (exd dx ((f, y) :: fs))))
theorem w_ost {f : Str} {to : TE} (h : te σ H fun y H1 => to σ H1 (OstE K f D.nx σ y)) : tOst K f to te D σ H := h
theorem w_ostE {f : Str} {R : L2.St → Hp → Prop} (T : OexC K C) (no : PySem.W.findIn K (.ref C) f = some none) (e : H a = some (exo a C none)) (q : ∀ dx, H dx = none → dx ≠ a → R σ (upd (upd H dx (exd dx [(f, y)])) a (exo a C (some dx)))) : OstE K f R σ y (.ref a) H := ⟨a, C, rfl, T, no, .inl ⟨e, q⟩⟩
end
theorem ho_lst_ext {v1 : List V} {φ : Heap → Prop} : ((.lst v1) : HO) ≠ (.ext φ) := fun z => nomatch z
theorem ho_lst_exh {v1 : List V} {a : Addr} {c : Value} {d : Option Addr} : ((.lst v1) : HO) ≠ exh a c d := fun z => by
  have z' : HO.lst v1 = HO.ext _ := z
  cases z'
/-! ### list.count, list.index of flat items; lists of lists compared -/
def rCntF (K : PySem.W.Frag) : V → List V → Hp → VK → Prop := fun x xs H Q => ∃ (p : Addr) (ys : List V) (y : V), x = .ref p ∧ xs = [y] ∧ SqL K H p ys ∧ flatV y = true ∧ ys.all flatV = true ∧ Q (.int (ys.countP fun z => eqV z y : Nat)) H
theorem cnt_flat {y : V} : ∀ {ys : List V} {us : List Value}, Vals ys us → ys.all flatV = true → us.countP (eqU y) = ys.countP fun z => eqV z y
  | _, _, .nil, _ => rfl
  | z :: ys, u :: us, .cons r t, f => by
    rw [List.all_cons, Bool.and_eq_true] at f
    rw [List.countP_cons, List.countP_cons, cnt_flat t f.2, eqU_of r f.1]
theorem mt_cntF {X : Cx} : MtR X "list.count" (rCntF X.K) := by
  intro pins s σ H x xs v us Q I rx rxs h
  obtain ⟨p, ys, y, rfl, rfl, hs, fy, fys, q⟩ := h
  cases rx
  obtain ⟨u, rfl, ru⟩ := rxs.one
  obtain ⟨its, rv, ⟨⟨cls, dd, data, sl⟩, n, ho, hc, hdn, hd⟩, hlen⟩ := I.list hs
  simp only at hc hd
  subst hc hd
  refine call_meets PySem.F.slot_list_count ⟨_, ho, rfl⟩ PySem.F.entry_list_count (PySem.F.args_list_count_2 _ _)
    (SeqAt.list_countAt p its.toArray n dd sl u (eqU y)) ⟨ho, fun u' hu' => mem_eqAt ru fy rv fys u' (by simpa using hu'), ?_⟩
  have ec : its.toArray.toList.countP (eqU y) = ys.countP fun z => eqV z y := cnt_flat rv fys
  refine ⟨.int (ys.countP fun z => eqV z y : Nat), H, I.tok _, ⟨s.toks, ?_⟩, q⟩
  show Value.int ((its.toArray.toList.countP (eqU y) : Nat) : Int) s.toks = Value.int ((ys.countP fun z => eqV z y : Nat) : Int) s.toks
  rw [ec]
section
variable {K : PySem.W.Frag} {H : Hp} {Q : VK} {p q : Addr} {xs ys : List V} {y : V}
theorem w_cntF {n : Nat} (h : H p = some (.lst xs)) (f : flatV y = true) (fs : xs.all flatV = true) (e : (xs.countP fun z => eqV z y) = n) (k : Q (.int (n : Nat)) H) : rCntF K (.ref p) [y] H Q := ⟨p, xs, y, rfl, rfl, SqL.of h, f, fs, by rw [e]; exact k⟩
theorem w_index {j : Nat} {z : V} (h : H p = some (.lst xs)) (f : flatV y = true) (fs : xs.all flatV = true) (e : xs[j]? = some z) (ez : eqV z y = true) (no : ∀ (m : Nat) (z' : V), m < j → xs[m]? = some z' → eqV z' y = false) (k : Q (.int (j : Nat)) H) : rIndex K (.ref p) [y] H Q := ⟨p, xs, y, j, z, rfl, rfl, SqL.of h, f, fs, e, ez, no, k⟩
theorem w_catVV (h1 : H p = some (.lst xs)) (h2 : H q = some (.lst ys)) (hz : (xs ++ ys).length ≤ 16777216) (k : ∀ r, H r = none → Q (.ref r) (upd H r (.lst (xs ++ ys)))) : rCat (.ref p) (.ref q) H Q :=
  ⟨p, q, _, _, rfl, rfl, h1, h2, szle' (by rw [List.length_append] at hz; exact hz), k⟩
end
theorem eqvAll_lists : ∀ ls ms : List (List Int), PyData.eqvAll (ls.map dI) (ms.map dI) = decide (ls = ms)
  | [], [] => by simp [PyData.eqvAll]
  | [], m :: ms => by simp [PyData.eqvAll]
  | n :: ns, [] => by simp [PyData.eqvAll]
  | n :: ns, m :: ms => by
    have ih := eqvAll_lists ns ms
    have e : PyData.eqv (dI n) (dI m) = decide (n = m) := eqv_ints n m
    simp only [List.map_cons, PyData.eqvAll, ih, e]
    by_cases h : n = m
    · subst h
      by_cases h2 : ns = ms <;> simp [h2]
    · simp [h]
theorem w_neLists {K : PySem.W.Frag} {H : Hp} {Q : VK} {a b : Addr} {ps qs : List Addr} {xss yss : List (List Int)} (ha : H a = some (.lst (ps.map V.ref))) (hb : H b = some (.lst (qs.map V.ref))) (h1 : ListsAt H ps xss) (h2 : ListsAt H qs yss) (k : Q (.bl (!decide (xss = yss))) H) : rNeD K (.ref a) (.ref b) H Q :=
  ⟨_, _, .lst (SqL.of ha) (dpAll_lists h1), .lst (SqL.of hb) (dpAll_lists h2), shaped_lists _, shaped_lists _, by
    have e : PyData.eqv (.list (xss.map dI)) (.list (yss.map dI)) = decide (xss = yss) := by
      simp only [PyData.eqv]
      exact eqvAll_lists xss yss
    rw [e]
    exact k⟩
/-! ### lists of numbers, words, truths and None compared; insert, clear -/
def sD : V → PyData
  | .int i => .int i
  | .str s => .str s
  | .bl b => .bool b
  | _ => .none
def scal : V → Bool
  | .int _ => true
  | .str s => PyData.strOk s
  | .bl _ => true
  | .non => true
  | _ => false
theorem scal_dp {K : PySem.W.Frag} {H : Hp} : ∀ {v : V}, scal v = true → Dp K H v (sD v)
  | .int i, _ => .int i
  | .str s, _ => .str s
  | .bl b, _ => .bl b
  | .non, _ => .non
theorem scal_can : ∀ {v : V}, scal v = true → PyData.canLay0 (sD v) = true ∧ PyData.depth (sD v) ≤ 1
  | .int i, _ => by simp [sD, PyData.canLay0, PyData.depth]
  | .str s, h => by
    have h' : PyData.strOk s = true := h
    simp [sD, PyData.canLay0, PyData.depth, h']
  | .bl b, _ => by simp [sD, PyData.canLay0, PyData.depth]
  | .non, _ => by simp [sD, PyData.canLay0, PyData.depth]
theorem scal_all {K : PySem.W.Frag} {H : Hp} : ∀ {xs : List V}, xs.all scal = true → DpAll K H xs (xs.map sD) ∧ PyData.canLayAll0 (xs.map sD) = true ∧ PyData.depthAll (xs.map sD) ≤ 2
  | [], _ => ⟨.nil, by simp [PyData.canLayAll0], by simp [PyData.depthAll]⟩
  | x :: xs, h => by
    rw [List.all_cons, Bool.and_eq_true] at h
    obtain ⟨i1, i2, i3⟩ := scal_all (K := K) (H := H) h.2
    obtain ⟨j1, j2⟩ := scal_can h.1
    refine ⟨.cons (scal_dp h.1) i1, ?_, ?_⟩
    · simp only [List.map_cons, PyData.canLayAll0, j1, i2, Bool.and_self]
    · simp only [List.map_cons, PyData.depthAll]
      omega
section
variable {K : PySem.W.Frag} {H : Hp} {Q : VK} {p q : Addr} {xs : List V}
theorem scal_same (h1 : H p = some (.lst xs)) (h2 : H q = some (.lst xs)) (f : xs.all scal = true) : ∃ d, Dp K H (.ref p) d ∧ Dp K H (.ref q) d ∧ SeqAt.shaped d = true ∧ PyData.eqv d d = true := by
  obtain ⟨i1, i2, i3⟩ := scal_all (K := K) (H := H) f
  have c1 : PyData.canLay0 (.list (xs.map sD)) = true := by simp only [PyData.canLay0]; exact i2
  have c2 : PyData.depth (.list (xs.map sD)) ≤ 64 := by
    simp only [PyData.depth]
    omega
  refine ⟨.list (xs.map sD), .lst (SqL.of h1) i1, .lst (SqL.of h2) i1, ?_, PySem.SeqAt.eqv_refl _ c1⟩
  unfold SeqAt.shaped
  rw [c1]
  simpa using c2
theorem w_eqScal (h1 : H p = some (.lst xs)) (h2 : H q = some (.lst xs)) (f : xs.all scal = true) (k : Q (.bl true) H) : rEqD K (.ref p) (.ref q) H Q := by
  obtain ⟨d, a, b, c, e⟩ := scal_same (K := K) h1 h2 f
  exact ⟨d, d, a, b, c, c, by rw [e]; exact k⟩
theorem w_neScal (h1 : H p = some (.lst xs)) (h2 : H q = some (.lst xs)) (f : xs.all scal = true) (k : Q (.bl false) H) : rNeD K (.ref p) (.ref q) H Q := by
  obtain ⟨d, a, b, c, e⟩ := scal_same (K := K) h1 h2 f
  exact ⟨d, d, a, b, c, c, by rw [e]; exact k⟩
theorem w_clear (h : H p = some (.lst xs)) (k : Q .non (upd H p (.lst []))) : rClear (.ref p) [] H Q := ⟨p, xs, rfl, rfl, h, k⟩
end
def rIns : V → List V → Hp → VK → Prop := fun x vs H Q => ∃ (l : Addr) (xs : List V) (i : Int) (y : V), x = .ref l ∧ vs = [.int i, y] ∧ H l = some (.lst xs) ∧ xs.length < sizeLine ∧ 0 ≤ i ∧ i < 2 ^ 63 ∧
    Q .non (upd H l (.lst (xs.take i.toNat ++ [y] ++ xs.drop i.toNat)))
theorem mt_insertN {X : Cx} : MtR X "list.insert" rIns := mt_insert
theorem w_insI {H : Hp} {Q : VK} {p : Addr} {ns : List Int} {i y : Int} (h : H p = some (.lst (ns.map V.int))) (hz : ns.length < 16777216) (i0 : 0 ≤ i) (i1 : i < 2 ^ 63) (k : Q .non (upd H p (.lst ((ns.take i.toNat ++ [y] ++ ns.drop i.toNat).map V.int)))) : rIns (.ref p) [.int i, .int y] H Q :=
  ⟨p, _, i, .int y, rfl, rfl, h, by rw [List.length_map, sizeLine_eq]; omega, i0, i1, by rw [List.map_append, List.map_append, List.map_take, List.map_drop] at k; exact k⟩
/-! ### quiet defs: they may be called while an exception is handled; no loops, nothing is raised -/
structure RoomQ (k : Nat) (A : Around) : Prop where
  dp : A.depth + 3 * k + 5 < recursionLimit
  un : A.units + 16 * k + 200 < cLine
theorem RoomQ.mono {j k : Nat} {A : Around} (r : RoomQ k A) (h : j ≤ k) : RoomQ j A := ⟨by have := r.dp; omega, by have := r.un; omega⟩
theorem RoomQ.deeper {k : Nat} {A : Around} (r : RoomQ (k + 1) A) (env : Env) : RoomQ k (A.deeper env) :=
  ⟨by have := r.dp; show A.depth + 1 + 3 * k + 5 < _; omega, by have := r.un; show A.units + 3 + 16 * k + 200 < _; omega⟩
theorem roomQ_of {k : Nat} {A : Around} (r : Room k A) : RoomQ k A := ⟨r.dp, r.un⟩
theorem roomQ_mark {k : Nat} {A : Around} {v : Option Value} (r : Room k A) : RoomQ k (A.mark v) := ⟨r.dp, r.un⟩
structure FnQ (P : Program) (w : World) (K : PySem.W.Frag) (mg : Str → Option Value) (base : Heap) (k : Nat) (f : Addr) (fd : FuncData) (ps : List Str) (sp : Sp) : Prop where
  len : ∀ vs H Q E, sp vs H Q E → vs.length = ps.length
  run : ∀ (A : Around) (outer : List Env) (s : Shared) (H : Hp) (args : Args) (us : List Value) (vs : List V) (Q : VK) (E : XK), RoomQ k A → Env0 P w K mg base A outer s H → BindsTo s fd args (ps.zip us) → Vals vs us → sp vs H Q E →
    codeAny (model P w) A (.call (.ref f) args) (CR CX0 outer P w H s Q E) s
def cxQ (P : Program) (w : World) (K : PySem.W.Frag) (mg : Str → Option Value) (base : Heap) (N : List Str) (qual : Str) (scope : Scope) (f : Addr) (cd : Value) (A : Around) (outer : List Env) (s : Shared) (H : Hp) (E : XK) : Cx :=
  { cxOf CX0 P w K mg base N qual scope f cd A outer s H E with calm := false }
theorem inv_startQ {P : Program} {w : World} {K : PySem.W.Frag} {mg : Str → Option Value} {base : Heap} {N ps : List Str} {qual : Str} {scope : Scope} {f : Addr} {cd : Value} {A : Around} {outer : List Env} {s s1 : Shared} {H : Hp} {E : XK} {us : List Value} {vs : List V}
    (S : FnScope N ps scope) (e0 : Env0 P w K mg base A outer s H) (hl : vs.length = ps.length) (r : Vals vs us)
    (x : InCallC s s.heap.objs.size (bindL (envOfC qual scope s.heap.objs.size f cd).kindOf (ps.zip us) fun _ => none) (cellsFrom (s.heap.objs.size + 1) scope.names []) (bindC (envOfC qual scope s.heap.objs.size f cd).kindOf (ps.zip us) fun _ => none) s1) :
    Inv (cxQ P w K mg base N qual scope f cd A outer s H E) [] (L2.start N vs) H s1 := by
  have hpl : ps.length ≤ N.length := by have := congrArg List.length S.pre; rw [List.length_take] at this; omega
  obtain ⟨h1, tk, rfl, hk⟩ := x.done
  have noA : ∀ b : Addr, b ∉ (cxQ P w K mg base N qual scope f cd A outer s H E).ex := fun b z => absurd (show b ∈ ([] : List Addr) from z) (by simp)
  refine ⟨⟨e0.mod, S.kind, rfl, rfl, Nat.le_refl _, fun y z c h1 h2 => ?_, fun y hy => ?_, fun y c _ h => ?_, (fun z => Bool.noConfusion (show false = true from z)), Around.frames_deeper e0.frames, .inr ⟨rfl, rfl⟩, fun b z => absurd z (noA b), e0.bs, e0.bsz, fun b _ _ => noA b, fun b z => absurd z (noA b), e0.funs, e0.frf⟩,
    rfl, e0.bare, Un.kept hk, ⟨_, x.toInCall.ns, fun i y v h1 h2 h3 => ?_⟩, fun y c h => ⟨_, x.cell y c h⟩, e0.hok.fresh (Nat.le_refl _), fun y c h => ?_, fun p hp => absurd (show p ∈ ([] : List (Addr × Obj)) from hp) (by simp), e0.hok.kept hk, ?_⟩
  · exact name_of_addr x.apart (PySem.mem_of_lookup h1) (PySem.mem_of_lookup h2)
  · have hy : scope.names.lookup y = some .cell ∨ scope.names.lookup y = some .free := hy
    rcases hy with hy | hy
    · exact cell_has hy
    · exact absurd rfl (S.nofree _ (PySem.mem_of_lookup hy))
  · exact Nat.le_of_lt (x.above y c (PySem.mem_of_lookup h))
  · have hi : i < vs.length := by
      unfold L2.start at h2
      by_cases hi : i < vs.length
      · exact hi
      · rw [List.getElem?_append_right (by simpa using hi)] at h2
        rw [List.getElem?_replicate] at h2
        split at h2 <;> cases h2
    have ha : vs[i]? = some v := by
      unfold L2.start at h2
      rw [List.getElem?_append_left (by simpa using hi), List.getElem?_map] at h2
      cases e : vs[i]? with
      | none => rw [e] at h2; cases h2
      | some a => rw [e] at h2; cases h2; rfl
    obtain ⟨u, hu, rv⟩ := r.get ha
    have hp : ps[i]? = some y := by
      rw [← S.pre, List.getElem?_take_of_lt (by omega)]; exact h1
    have ndP : ps.Nodup := by rw [← S.pre]; exact S.nd.sublist (List.take_sublist _ _)
    refine ⟨u, rv, ?_⟩
    rcases S.par y (List.mem_of_getElem? hp) with k | k
    · exact .inl ⟨k, bindL_get ndP hp hu k⟩
    · obtain ⟨c, e⟩ := cell_has (n := s.heap.objs.size + 1) k
      refine .inr ⟨.inl k, c, e, ?_⟩
      have q := x.cell y c e
      rw [bindC_get ndP hp hu (by show scope.names.lookup y ≠ _; rw [k]; decide)] at q
      exact q
  · exact e0.hok.fresh (Nat.le_of_lt (x.above y c (PySem.mem_of_lookup h)))
  · unfold L2.start
    show _ = N.length
    rw [List.length_append, List.length_map, List.length_replicate]
    omega
structure DefAtQ (P : Program) (w : World) (K : PySem.W.Frag) (mg : Str → Option Value) (base : Heap) (x : Str) (st : Stmt) (k : Nat) (ps : List Str) (sp : Sp) : Prop where
  ex : ∃ f fd, mg x = some (.ref f) ∧ Fun K x x st f fd ∧ FnQ P w K mg base k f fd ps sp ∧ Binds K fd ps []
theorem FunAt.okQ {P : Program} {w : World} {K : PySem.W.Frag} {mg : Str → Option Value} {base : Heap} {x : Str} {st : Stmt} {k : Nat} {ps N : List Str} {sp : Sp} (F : FunAt K mg x st) (S : FnScope N ps (defScope st)) (len : ∀ vs H Q E, sp vs H Q E → vs.length = ps.length)
    (hb : ∀ (kV doc pm : Value) (an : Option Addr) (cdv ct : Value) (us : List Value), us.length = ps.length → bindArgs (PySem.W.fnOf x x (defArgs st) (defBody st) (defScope st) .none kV doc pm an cdv ct) ⟨us, []⟩ = pure (ps.zip us))
    (hbody : ∀ (f : Addr) (cdv : Value) (A : Around) (outer : List Env) (s : Shared) (H : Hp) (vs : List V) (Q : VK) (E : XK), RoomQ k (A.deeper (envOfC x (defScope st) s.heap.objs.size f cdv)) → sp vs H Q E →
      ∃ t, PSs (cxQ P w K mg base N x (defScope st) f cdv A outer s H E).nox (defBody st) t ∧ t { nx := fun _ H' => Q .non H', rt := Q } (L2.start N vs) H) : DefAtQ P w K mg base x st (k + 1) ps sp := by
  obtain ⟨f, fd, hm, F⟩ := F.ex
  refine ⟨f, fd, hm, F, ?_, F.binds hb⟩
  obtain ⟨oc, od, kV, doc, pm, an, cdv, ct, osl, rfl, lk, hcd⟩ := F.ex
  refine ⟨len, fun A outer s H args us vs Q E hr e0 hb r hsp => ?_⟩
  have hl := len _ _ _ _ hsp
  have KX : K.In s.heap := e0.mod.kin.keeps fun b o e => (e0.bs b o e).1
  have lim : s.heap.NoLimit := e0.mod.nolimit.keeps fun b o e => (e0.bs b o e).1
  have hkind : ∀ y ∈ ps.zip us, (defScope st).names.lookup y.1 = some .local ∨ ((defScope st).names.lookup y.1 = some .cell ∧ ((cellsFrom (s.heap.objs.size + 1) (defScope st).names []).lookup y.1).isSome = true) := fun ⟨n, v⟩ hy => by
    rcases S.par n (List.of_mem_zip hy).1 with q | q
    · exact .inl q
    · exact .inr ⟨q, PySem.W.cellsFrom_some _ _ _ (.inl q)⟩
  refine codeAny_call_function (by have := hr.dp; omega) (KX _ _ lk) rfl S.co S.gen rfl (PySem.W.codeRec_of KX hcd) (hb _ _ _ _ ?_)
  refine wpAny_newFunctionEnv_cells S.kind hkind fun env he s1 xx => ?_
  subst he
  refine ⟨lim.keeps xx.toInCall.keep, codeAny_func ?_⟩
  obtain ⟨t, ht0, hq⟩ := hbody f cdv A outer s H vs Q E (hr.deeper _) hsp
  have ht := ht0.nox
  have I := inv_startQ (E := E) S e0 hl r xx
  refine wpAny_mono (ht.run [] s1 (L2.start N vs) H _ I hq) (fun fl s' hs => ?_) fun e s' hs => hs
  have fin : ∀ {σ' : L2.St} {H' : Hp} {v : V} {u : Value}, Inv (cxQ P w K mg base N x (defScope st) f cdv A outer s H E) [] σ' H' s' → RelV v u → Q v H' → CE outer P w H s Q u s' :=
    fun {σ' H' v u} J rv q => ⟨v, H', J.os, J.bare, J.base, J.hok, rv, q⟩
  cases fl with
  | ret u =>
    obtain ⟨v, σ', H', J, rv, q⟩ := hs
    exact fin J rv q
  | next =>
    obtain ⟨σ', H', J, q⟩ := hs
    exact fin (v := V.non) (u := Value.none) J rfl q
  | brk =>
    obtain ⟨_, _, _, q⟩ := hs
    exact False.elim q
  | cont =>
    obtain ⟨_, _, _, q⟩ := hs
    exact False.elim q
section
variable {X : Cx} {x : Str} {st : Stmt} {k : Nat} {ps : List Str} {sp : Sp} {e : Expr} {es : List Expr} {t : TA} {p pos : Pos}
theorem pe_callQ (D : DefAtQ X.prog X.w X.K X.mg X.base x st k ps sp) (hr : RoomQ k X.A) (ha : PA X (e :: es) t) (hg : Gl X x := by rfl)
    (hdb : (x == ("__debug__" : Str)) = false := by decide) (he : starEach (e :: es) X.env = (false, eval e X.env) :: starEach es X.env := by rfl) (hpl : (backTo pos (starEach es X.env)).any (·.1) = false := by rfl) :
    PE X (.Call (.Name x p) (e :: es) [] pos) (tCall sp [] E0 t) := by
  obtain ⟨f, fd, hm, F, G, b⟩ := D.ex
  refine ⟨fun pins s σ H Q I h => ?_⟩
  refine wpAny_Call_Name_kw (ld_glob I hg hm ?_ hdb)
  refine PySem.W.callWith_K (h₀ := X.base) I.ok.mod.kin F.kp (thn (ha.run pos pins s σ H _ I h) fun us s1 ⟨vs, H1, I1, r, q⟩ => ⟨I1.kIn, ?_⟩) he hpl
  have q : sp vs H1 Q E0 := by
    have q' : sp (vs ++ []) H1 Q E0 := q
    rw [List.append_nil] at q'
    exact q'
  refine wpAny_call (codeAny_mono (G.run X.A X.stack s1 H1 ⟨us, []⟩ us vs Q E0 hr I1.env0 (binds0 b r (G.len _ _ _ _ q) I1.kIn) r q) fun q' s' hq => ?_)
  cases q' with
  | error e => exact False.elim hq
  | ok fl =>
    cases fl with
    | ret u => exact I1.after hq
    | next => exact False.elim hq
    | brk => exact False.elim hq
    | cont => exact False.elim hq
end
section
variable {K : PySem.W.Frag} {H : Hp} {Q : VK} {a D dd tp : Addr} {fs : List (Str × V)} {mg : Str → Option Value} {x : Str} {cs : List V} {us : List Value} {b : Bool}
theorem kit_any_nil {c : Value} : PySem.W.kitAny K c [] = some false := rfl
theorem kit_any_no {c u : Value} {us : List Value} {b : Bool} (h : PySem.W.kitOne K c u = some false) (k : PySem.W.kitAny K c us = some b) : PySem.W.kitAny K c (u :: us) = some b := by
  unfold PySem.W.kitAny
  rw [h]
  exact k
theorem kit_any_yes {c u : Value} {us : List Value} (h : PySem.W.kitOne K c u = some true) : PySem.W.kitAny K c (u :: us) = some true := by
  unfold PySem.W.kitAny
  rw [h]
theorem w_isET (hT : H tp = some (.tup cs)) (ea : H a = some (exh a (.ref D) (some dd))) (ed : H dd = some (.xd fs)) (T : ExAt K mg x D) (k : Paired ClsV cs us) (e : PySem.W.kitAny K (.ref D) us = some b) (q : Q (.bl b) H) : rIsET K [.ref a, .ref tp] H Q :=
  ⟨a, D, dd, tp, fs, mg, x, cs, us, b, rfl, hT, k, ea, ed, T, e, q⟩
end
/-- [list(one) for one in kept] -/
theorem l_copyL {K : PySem.W.Frag} {a : Addr} {ps : List Addr} {xss : List (List Int)} {σ : L2.St} {H : Hp} {Q : VK} {j : Nat} (hw : ∀ v, wipe ((wipe σ [j]).set j (some v)) [j] = wipe σ [j]) (hv : ∀ v, ((wipe σ [j]).set j (some v))[j]? = some (some v)) (hz : ps.length ≤ 100000)
    (ha : H a = some (.lst (ps.map V.ref))) (hl : ListsAt H ps xss)
    (hd : ∀ (L : Addr) (qs : List Addr) (H' : Hp), H L = none → Fr [] H H' → H' L = some (.lst (qs.map V.ref)) → ListsAt H' qs xss → (∀ q ∈ qs, H q = none) → L ∉ qs → qs.Nodup → Q (.ref L) H') :
    LcB (gName j) tYes (tCB (rListOf K) (tCons (tVar j) tNil)) [j] σ Q (Itl K a) H := by
  refine l_list (ps.map V.ref) (fun L i H' => ∃ qs : List Addr, Fr [] H H' ∧ H' L = some (.lst (qs.map V.ref)) ∧ ListsAt H' qs (xss.take i) ∧ L ∉ qs ∧ qs.length = i ∧ (∀ q ∈ qs, H q = none) ∧ qs.Nodup) (fun L hL => ⟨[], Fr.refl.new hL, upd_same, .nil, by simp, rfl, by simp, .nil⟩) (fun L i H' _ _ h => .of (h.choose_spec.1.at0 ha)) (fun L i x H' hL hx h => ?_) (fun L H3 hL h => ?_)
  · obtain ⟨qs, g1, g2, g3, g4, g5, g6, g7⟩ := h
    rw [List.getElem?_map] at hx
    obtain ⟨t, ht, rfl⟩ : ∃ t, ps[i]? = some t ∧ x = V.ref t := by
      cases e : ps[i]? with
      | none => rw [e] at hx; cases hx
      | some t =>
        rw [e] at hx
        cases hx
        exact ⟨t, rfl, rfl⟩
    have hil := (List.getElem?_eq_some_iff.mp ht).1
    obtain ⟨xs, hxs⟩ : ∃ xs, xss[i]? = some xs := ⟨_, List.getElem?_eq_getElem (by rw [← hl.len]; exact hil)⟩
    have htx : H' t = some (.lst (xs.map V.int)) := g1.at0 (hl.at_ i t xs ht hxs)
    refine w_gname ⟨hw _, w_tYes (w_iteT ?_)⟩
    refine w_CB (w_cons (w_var (hv _) (w_nil (w_listof (SqL.of htx) fun l nl => ?_))))
    have hLl : L ≠ l := ne_of_none g2 nl
    have hLq : L ∉ qs ++ [l] := by simp [g4, hLl]
    refine w_appER (at_upd g2 nl) (by omega) ⟨qs ++ [l], (g1.new nl).put (.inl hL), upd_same, ?_, hLq, by simp [g5], mem_snoc g6 (g1.free List.not_mem_nil nl), ?_⟩
    · rw [List.take_succ, hxs]
      exact ((g3.fr (Fr.refl.new nl)).app (.one (xs := xs) upd_same)).put hLq
    · refine List.nodup_append.mpr ⟨g7, by simp, fun q hq b hb => ?_⟩
      rw [List.mem_singleton.mp hb]
      intro e
      subst e
      obtain ⟨n, hn⟩ := List.getElem?_of_mem hq
      have hn2 := (List.getElem?_eq_some_iff.mp hn).1
      have hlen := g3.len
      obtain ⟨ys, hys⟩ : ∃ ys, (xss.take i)[n]? = some ys := ⟨_, List.getElem?_eq_getElem (by rw [← hlen]; exact hn2)⟩
      rw [g3.at_ n q ys hn hys] at nl
      cases nl
  · obtain ⟨qs, g1, g2, g3, g4, g5, g6, g7⟩ := h
    rw [List.length_map] at g5 g3
    rw [hl.len, List.take_length] at g3
    exact hd L qs H3 hL g1 g2 g3 g6 g4 g7
theorem Fr.drop {S T : List Addr} {H H1 H2 : Hp} (f : Fr S H H1) (g : Fr T H1 H2) (h : ∀ t ∈ T, t ∈ S ∨ H t = none) : Fr S H H2 := fun b o n e => g b o (fun hb => by
  rcases h b hb with z | z
  · exact n z
  · rw [z] at e
    cases e) (f b o n e)
/-- [f(one) for one in [x, y]], the element leaving all as it is -/
theorem l_two {K : PySem.W.Frag} {a x y : Addr} {v1 v2 : V} {σ : L2.St} {H : Hp} {Q : VK} {j : Nat} {te : TE} (hw : ∀ v, wipe ((wipe σ [j]).set j (some v)) [j] = wipe σ [j]) (ha : H a = some (.lst [.ref x, .ref y]))
    (e1 : ∀ (H' : Hp) (R : VK), Fr [] H H' → R v1 H' → te ((wipe σ [j]).set j (some (.ref x))) H' R)
    (e2 : ∀ (H' : Hp) (R : VK), Fr [] H H' → R v2 H' → te ((wipe σ [j]).set j (some (.ref y))) H' R)
    (hd : ∀ (L : Addr) (H' : Hp), H L = none → Fr [] H H' → H' L = some (.lst [v1, v2]) → Q (.ref L) H') : LcB (gName j) tYes te [j] σ Q (Itl K a) H := by
  refine l_list [.ref x, .ref y] (fun L i H' => Fr [] H H' ∧ H' L = some (.lst ([v1, v2].take i))) (fun L hL => ⟨Fr.refl.new hL, upd_same⟩) (fun L i H' _ _ h => .of (h.1.at0 ha)) (fun L i z H' hL hx h => ?_) (fun L H3 hL h => hd L H3 hL h.1 h.2)
  obtain ⟨g1, g2⟩ := h
  match i, hx, g2 with
  | 0, hx, g2 =>
    obtain rfl : V.ref x = z := by simpa using hx
    refine w_gname ⟨hw _, w_tYes (w_iteT (e1 H' _ g1 ?_))⟩
    exact w_appE g2 (by simp) ⟨g1.put (.inl hL), upd_same⟩
  | 1, hx, g2 =>
    obtain rfl : V.ref y = z := by simpa using hx
    refine w_gname ⟨hw _, w_tYes (w_iteT (e2 H' _ g1 ?_))⟩
    exact w_appE g2 (by simp) ⟨g1.put (.inl hL), upd_same⟩
  | i + 2, hx, g2 => simp at hx
theorem all_si {s : Str} {i : Int} (h : PyData.strOk s = true) : [V.str s, V.int i].all scal = true := by
  have h' : scal (.str s) = true := h
  simp [scal, h]
theorem all_sn {s : Str} (h : PyData.strOk s = true) : [V.str s, V.non].all scal = true := by
  have h' : scal (.str s) = true := h
  simp [scal, h]
theorem kc_xfH {X : Cx} {K : PySem.W.Frag} {e : Expr} {te : TE} (h : PE X e (tXfH X.K te)) (hk : X.K = K) : PE X e (tXfH K te) := hk ▸ h
/-! ### None, or a tuple of a word and a number -/
def DueAt (H : Hp) : Option (Str × Int) → V → Prop
  | none, v => v = .non
  | some (wd, y), v => ∃ t, v = .ref t ∧ H t = some (.tup [.str wd, .int y])
theorem DueAt.fr {H H' : Hp} {d : Option (Str × Int)} {v : V} (h : DueAt H d v) (f : Fr [] H H') : DueAt H' d v := by
  cases d with
  | none => exact h
  | some z =>
    obtain ⟨t, h1, h2⟩ := h
    exact ⟨t, h1, f.at0 h2⟩
theorem DueAt.made {H' : Hp} {wd : Str} {y : Int} {p : Addr} (h : H' p = some (.tup [.str wd, .int y])) : DueAt H' (some (wd, y)) (.ref p) := ⟨p, rfl, h⟩
theorem DueAt.pair {K : PySem.W.Frag} {H : Hp} {d : Option (Str × Int)} {v w : V} (ok : ∀ wd y, d = some (wd, y) → PyData.strOk wd = true) (h1 : DueAt H d v) (h2 : DueAt H d w) : ∃ x, Dp K H v x ∧ Dp K H w x ∧ SeqAt.shaped x = true ∧ PyData.eqv x x = true := by
  cases d with
  | none =>
    obtain rfl : v = .non := h1
    obtain rfl : w = .non := h2
    exact ⟨.none, .non, .non, by decide +kernel, by decide +kernel⟩
  | some z =>
    obtain ⟨wd, y⟩ := z
    obtain ⟨t, rfl, h1⟩ := h1
    obtain ⟨u, rfl, h2⟩ := h2
    obtain ⟨i1, i2, i3⟩ := scal_all (K := K) (H := H) (xs := [V.str wd, V.int y]) (all_si (ok wd y rfl))
    have c1 : PyData.canLay0 (.tuple ([V.str wd, V.int y].map sD)) = true := by simp only [PyData.canLay0]; exact i2
    have c2 : PyData.depth (.tuple ([V.str wd, V.int y].map sD)) ≤ 64 := by
      simp only [PyData.depth]
      omega
    refine ⟨.tuple ([V.str wd, V.int y].map sD), .tup (SqT.of h1) i1, .tup (SqT.of h2) i1, ?_, PySem.SeqAt.eqv_refl _ c1⟩
    unfold SeqAt.shaped
    rw [c1]
    simpa using c2
theorem w_neDue {K : PySem.W.Frag} {H : Hp} {Q : VK} {d : Option (Str × Int)} {v w : V} (ok : ∀ wd y, d = some (wd, y) → PyData.strOk wd = true) (h1 : DueAt H d v) (h2 : DueAt H d w) (k : Q (.bl false) H) : rNeD K v w H Q := by
  obtain ⟨x, a, b, s1, e⟩ := DueAt.pair (K := K) ok h1 h2
  exact ⟨x, x, a, b, s1, s1, by rw [e]; exact k⟩
/-! ### methods with a star parameter -/
def stSp (n : Nat) (sp : Sp) : Sp := fun vs H Q E => ∃ ws rest, vs = ws ++ rest ∧ ws.length = n ∧ rest.length ≤ sizeLine ∧ ∀ p, H p = none → sp (ws ++ [V.ref p]) (upd H p (.tup rest)) Q E
structure MDefAtS (P : Program) (w : World) (K : PySem.W.Frag) (mg : Str → Option Value) (base : Heap) (C : Addr) (m qual : Str) (st : Stmt) (k : Nat) (ps : List Str) (pv : Str) (sp : Sp) : Prop where
  ex : ∃ f fd, Meth K C m f ∧ Fun K m qual st f fd ∧ FnR P w K mg base (L2.CX P w) k f (stSp ps.length sp)
theorem MethAt.okS {P : Program} {w : World} {K : PySem.W.Frag} {mg : Str → Option Value} {base : Heap} {m qual pv : Str} {st : Stmt} {k : Nat} {ps N : List Str} {sp : Sp} {C : Addr} (F : MethAt K C m qual st) (S : FnScope N (ps ++ [pv]) (defScope st))
    (hb : ∀ (kV doc pm : Value) (an : Option Addr) (cdv ct : Value) (us rest : List Value), us.length = ps.length → bindArgs (PySem.W.fnOf m qual (defArgs st) (defBody st) (defScope st) .none kV doc pm an cdv ct) ⟨us ++ rest, []⟩ = (newTuple rest >>= fun t => pure (ps.zip us ++ [(pv, t)])))
    (hbody : ∀ (f : Addr) (cdv : Value) (A : Around) (outer : List Env) (s : Shared) (H : Hp) (vs : List V) (Q : VK) (E : XK), Room k (A.deeper (envOfC qual (defScope st) s.heap.objs.size f cdv)) → sp vs H Q E →
      ∃ t, PSs (cxOf (L2.CX P w) P w K mg base N qual (defScope st) f cdv A outer s H E) (defBody st) t ∧ t { nx := fun _ H' => Q .non H', rt := Q } (start N vs) H) : MDefAtS P w K mg base C m qual st (k + 1) ps pv sp := by
  obtain ⟨f, fd, hm, F⟩ := F.ex
  refine ⟨f, fd, hm, F, ?_⟩
  obtain ⟨oc, od, kV, doc, pm, an, cdv, ct, osl, rfl, lk, hcd⟩ := F.ex
  exact StX.fn_star lk hcd S StX.cxUp (hb kV doc pm an cdv ct) fun A outer s H vs Q E hr hsp => hbody f cdv A outer s H vs Q E hr hsp
section
variable {X : Cx} {m qual pv : Str} {st : Stmt} {k : Nat} {ps : List Str} {sp : Sp} {C : Addr} {e o : Expr} {es : List Expr} {t : TA} {ta : TE} {pos apos : Pos} {W : WX} {CX : CXT} {f : Addr}
theorem run_atR {pins : List (Addr × Obj)} {σ : L2.St} {H : Hp} {s : Shared} {Q : VK} {E : XK} {us : List Value} {vs : List V} {sq : Sp} (F : FnR X.prog X.w X.K X.mg X.base CX k f sq) (hr : Room k X.A) (hx : PassesAt CX X σ E)
    (I : Inv X pins σ H s) (r : Vals vs us) (h : sq vs H Q E) : wpAny (model X.prog X.w) X.A (call (.ref f) us) (EP X pins σ Q) X.xe s := by
  refine wpAny_call (codeAny_mono (F X.A X.stack s H us vs Q E hr I.env0 r h) fun q s' hq => ?_)
  cases q with
  | error e => exact hx pins H s e s' I hq
  | ok fl =>
    cases fl with
    | ret u => exact I.after hq
    | next => exact False.elim hq
    | brk => exact False.elim hq
    | cont => exact False.elim hq
theorem pe_methS {pl : Sem Bool} (he : PE X o ta) (T : Cls X.K C) (D : MDefAtS X.prog X.w X.K X.mg X.base C m qual st k ps pv sp) (hr : Room k X.A) (tkn : Takes X W) (ha : PA X (e :: es) t)
    (hst : starEach (e :: es) X.env = (false, eval e X.env) :: starEach es X.env := by rfl) (hpl : (backTo pos (starEach es X.env)).any (·.1) = false := by rfl)
    (ht : eval (.Call (.Attribute o m apos) (e :: es) [] pos) X.env = (do
      let ov ← eval o X.env
      standAt apos.atName
      let (f, first) ← holding [ov] (getMethod ov m pl)
      callWith pos f first (backTo pos (starEach (e :: es) X.env)) (backToKw pos (keywordEach [] X.env))) := by rfl) :
    PE X (.Call (.Attribute o m apos) (e :: es) [] pos) (tMethX C m (stSp ps.length sp) W ta t) := by
  obtain ⟨f, fd, hm, F, G⟩ := D.ex
  refine ⟨fun pins s σ H Q I h => ?_⟩
  refine PySem.W.methodCall_KW (pl := pl) (thn (he.run pins s σ H _ I h) fun u s1 ⟨x, H1, I1, rx, a, dx, fs, ex, ea, l, q⟩ => ?_) ht
  subst ex
  obtain rfl : u = Value.ref a := rx
  refine getmeth_ok I1 ea T hm l ?_
  refine PySem.W.callWith_K (first := [.ref a]) (h₀ := X.base) I.ok.mod.kin hm.kp (thn (ha.run pos pins s1 σ H1 _ I1 q) fun us s2 ⟨vs, H2, I2, r, q2⟩ => ⟨I2.kIn, ?_⟩) hst hpl
  have r2 : Vals (V.ref a :: vs) (Value.ref a :: us) := .cons rfl r
  exact run_atR (us := .ref a :: us) G hr (L2.passAt tkn σ) I2 r2 q2
theorem pe_methS0 {pl : Sem Bool} (he : PE X o ta) (T : Cls X.K C) (D : MDefAtS X.prog X.w X.K X.mg X.base C m qual st k ps pv sp) (hr : Room k X.A) (tkn : Takes X W)
    (ht : eval (.Call (.Attribute o m apos) [] [] pos) X.env = (do
      let ov ← eval o X.env
      standAt apos.atName
      let (f, first) ← holding [ov] (getMethod ov m pl)
      callWith pos f first (backTo pos (starEach [] X.env)) (backToKw pos (keywordEach [] X.env))) := by rfl) :
    PE X (.Call (.Attribute o m apos) [] [] pos) (tMethX C m (stSp ps.length sp) W ta tNil) := by
  obtain ⟨f, fd, hm, F, G⟩ := D.ex
  refine ⟨fun pins s σ H Q I h => ?_⟩
  refine PySem.W.methodCall_KW (pl := pl) (thn (he.run pins s σ H _ I h) fun u s1 ⟨x, H1, I1, rx, a, dx, fs, ex, ea, l, q⟩ => ?_) ht
  subst ex
  obtain rfl : u = Value.ref a := rx
  refine getmeth_ok I1 ea T hm l ?_
  refine PySem.W.callWith_K0 (first := [.ref a]) I1.kIn hm.kp ?_
  exact run_atR (us := [.ref a]) (vs := [V.ref a]) G hr (L2.passAt tkn σ) I1 (.cons rfl .nil) q
end
theorem w_listofT {K : PySem.W.Frag} {H : Hp} {Q : VK} {p : Addr} {xs : List V} (h : SqT K H p xs) (q : ∀ l, H l = none → Q (.ref l) (upd H l (.lst xs))) : rListOf K [.ref p] H Q := ⟨p, xs, rfl, .inr h, q⟩
theorem w_ixLastR {K : PySem.W.Frag} {H : Hp} {Q : VK} {p r : Addr} {ri : List Addr} (h : H p = some (.lst ((ri ++ [r]).map V.ref))) (q : Q (.ref r) H) : rIxL K (.ref p) (.int (-1)) H Q := by
  refine w_ixL (SqL.of h) ?_ q
  rw [List.map_append]
  exact atI_last _ _
theorem scal_sameT {K : PySem.W.Frag} {H : Hp} {p q : Addr} {xs : List V} (h1 : H p = some (.tup xs)) (h2 : H q = some (.tup xs)) (f : xs.all scal = true) : ∃ d, Dp K H (.ref p) d ∧ Dp K H (.ref q) d ∧ SeqAt.shaped d = true ∧ PyData.eqv d d = true := by
  obtain ⟨i1, i2, i3⟩ := scal_all (K := K) (H := H) f
  have c1 : PyData.canLay0 (.tuple (xs.map sD)) = true := by simp only [PyData.canLay0]; exact i2
  have c2 : PyData.depth (.tuple (xs.map sD)) ≤ 64 := by
    simp only [PyData.depth]
    omega
  refine ⟨.tuple (xs.map sD), .tup (SqT.of h1) i1, .tup (SqT.of h2) i1, ?_, PySem.SeqAt.eqv_refl _ c1⟩
  unfold SeqAt.shaped
  rw [c1]
  simpa using c2
theorem w_neScalT {K : PySem.W.Frag} {H : Hp} {Q : VK} {p q : Addr} {xs : List V} (h1 : H p = some (.tup xs)) (h2 : H q = some (.tup xs)) (f : xs.all scal = true) (k : Q (.bl false) H) : rNeD K (.ref p) (.ref q) H Q := by
  obtain ⟨d, a, b, c, e⟩ := scal_sameT (K := K) h1 h2 f
  exact ⟨d, d, a, b, c, c, by rw [e]; exact k⟩
theorem all_sbi {s : Str} {b : Bool} {i : Int} (h : PyData.strOk s = true) : [V.str s, V.bl b, V.int i].all scal = true := by
  simp [scal, h]
theorem w_cut {t1 : TS} {D : Ends} {σ : L2.St} {H : Hp} (I : L2.St → Hp → Prop) (h : ∀ N : L2.St → Hp → Prop, (∀ σ H, I σ H → N σ H) → t1 { D with nx := N } σ H) (k : ∀ σ H, I σ H → D.nx σ H) : t1 D σ H := h D.nx k
end Pg

namespace L2
open PySem PySem.Spec PyProof.Rows GenW
/-! ### a for within a generator -/
section
variable {M : Model} {A : Around} {R : GenEnd} {Y : Protocol} {n : Nat} {s₀ : Shared} {c : Code} {fs : List Frame} {s : Shared} {env : Env} {K : Flow → Sem PySem.Fin} {J : Value → Sem PySem.Fin} {gd : Bool → Bool} {lv : List Value → List Value}
theorem seg_For {tg iter : Expr} {body : List Stmt} {pos : Pos}
    (h : wpAny M (A.over c fs) (eval iter env) (fun x s₁ => wpAny M (A.over c fs) (pyIter x) (fun it s₂ => ∀ p, Seg M A R Y n s₀ (.forLoop tg it body [] env) (M.den (.forLoop tg it body [] env))
      (.ret (fun r => ((match r with | .ok f => (.pure f : Sem Flow) | .error e => .raise e).onRaise (cameBack env)).wrap K J gd lv) none (gd false) (lv []) c p [] :: fs) s₂) (fun x s' => Seg M A R Y n s₀ c (J x) fs s') s₁) (fun x s' => Seg M A R Y n s₀ c (J x) fs s') s)
    (hs : ∀ x, foldedSetIterable iter env x = pure x := by intro _; rfl) :
    Seg M A R Y n s₀ c ((exec (.For tg iter body [] pos) env).wrap K J gd lv) fs s := by
  rw [exec_For]
  refine seg_bind_wrap (wpAny_standAt ?_)
  refine seg_bind_wrap (wpAny_mono h (fun x s₁ h₁ => ?_) fun _ _ h' => h')
  refine seg_bind_wrap (wpAny_of_eq (hs x) ?_)
  refine seg_bind_wrap (wpAny_standAt ?_)
  refine seg_bind_wrap (wpAny_holding (wpAny_mono h₁ (fun it s₂ h₂ => ?_) fun _ _ h' => h'))
  exact seg_call fun p => h₂ p
end
section
variable {prog : Program} {w : World} {A : Around} {R : GenEnd} {Y : Protocol} {n : Nat} {s₀ : Shared} {fs : List Frame} {s : Shared} {env : Env}
/-- an exception leaves a loop's code -/
abbrev EOut (prog : Program) (w : World) (A : Around) (R : GenEnd) (Y : Protocol) (n : Nat) (s₀ : Shared) (c : Code) (env : Env) (fs : List Frame) (x : Value) (s' : Shared) : Prop :=
  Seg (model prog w) A R Y n s₀ c ((do noteFrame x env; theTreesLotGoes x : Sem Unit).wrap (fun _ => .raise x) .raise id id) fs s'
theorem seg_forLoop {tg : Expr} {it : Value} {body : List Stmt}
    (h : wpAny (model prog w) (A.over (.forLoop tg it body [] env) fs) (pyNext it) (fun r s₁ => match r with
        | none => Seg (model prog w) A R Y n s₀ (.block [] env) ((model prog w).den (.block [] env)) fs s₁
        | some v => wpAny (model prog w) (A.over (.forLoop tg it body [] env) fs) (letOwnedTupleGo tg it v) (fun _ s₁' => wpAny (model prog w) (A.over (.forLoop tg it body [] env) fs) (assign tg env v) (fun _ s₂ =>
            Seg (model prog w) A R Y n s₀ (.forLoop tg it body [] env) ((execs body env).wrap (fun f => match f with
              | .next | .cont => .pure (.again (.forLoop tg it body [] env))
              | .brk => .pure (.done .next)
              | .ret v => .pure (.done (.ret v))) (fun e => (do noteFrame e env; theTreesLotGoes e : Sem Unit).wrap (fun _ => .raise e) .raise id id) id id) fs s₂) (EOut prog w A R Y n s₀ (.forLoop tg it body [] env) env fs) s₁') (EOut prog w A R Y n s₀ (.forLoop tg it body [] env) env fs) s₁)
      (EOut prog w A R Y n s₀ (.forLoop tg it body [] env) env fs) s) :
    Seg (model prog w) A R Y n s₀ (.forLoop tg it body [] env) ((model prog w).den (.forLoop tg it body [] env)) fs s := by
  show Seg _ A R Y n s₀ _ ((forTurn tg it body [] env).onRaise (fun x => do noteFrame x env; theTreesLotGoes x)) fs s
  unfold forTurn
  rw [Sem.onRaise_eq_wrap]
  have ee : ∀ x s', EOut prog w A R Y n s₀ (.forLoop tg it body [] env) env fs x s' → Seg (model prog w) A R Y n s₀ (.forLoop tg it body [] env) ((do noteFrame x env; theTreesLotGoes x : Sem Unit).bind fun _ => .raise x) fs s' := fun x s' hx => by
    rw [Sem.bind_eq_wrap]; exact hx
  refine seg_bind_wrap (wpAny_standAt ?_)
  refine seg_bind_wrap (wpAny_onRaise (wpAny_mono h (fun r s₁ h₁ => ?_) fun x s' hx => wpAny_standAt (ee x s' hx)))
  cases r with
  | none => exact seg_again rfl h₁
  | some v =>
    refine seg_bind_wrap (wpAny_mono h₁ (fun _ s₁' h₂ => ?_) fun x s' hx => ee x s' hx)
    refine seg_bind_wrap (wpAny_mono h₂ (fun _ s₂ h₃ => ?_) fun x s' hx => ee x s' hx)
    rw [Sem.bind_eq_wrap', Sem.wrap_wrap]
    rw [Sem.wrap_congr (execs body env) _ _ (K' := fun f => match f with
            | .next | .cont => .pure (.again (.forLoop tg it body [] env))
            | .brk => .pure (.done .next)
            | .ret v => .pure (.done (.ret v))) (H' := (fun e => (do noteFrame e env; theTreesLotGoes e : Sem Unit).wrap (fun _ => .raise e) .raise id id))
        (fun f => by cases f <;> rfl)
        (fun e => by first | exact Sem.bind_eq_wrap _ _ | (show (do noteFrame e env; theTreesLotGoes e : Sem Unit).bind (fun _ => .raise e) = _; rw [Sem.bind_eq_wrap]))]
    exact h₃
end
section
variable {X : Cx} {rest : List Stmt} {pos : Pos}
def tGFor (wi : TI) (g : TG) (tb : TGn) : TGn := fun D ys σ H => wi σ H fun J H1 => ∃ W : Nat → Nat → List V → St → Hp → Prop, (∃ m, W 0 m ys σ H1) ∧ ∀ i m ys σ H, W i m ys σ H →
  (J.stop i H ∧ D.nx ys σ H) ∨ (J.go i H ∧ ∃ N : List V → St → Hp → Prop, (∀ ys' σ' H', N ys' σ' H' → ∃ m', m' < m ∧ W (i + 1) m' ys' σ' H') ∧ ∀ x H', J.yld i H x H' → g x σ H' fun σ2 H2 => tb { D with nx := N, ct := N, bk := D.nx } ys σ2 H2)
theorem gs_for {tg iter : Expr} {body : List Stmt} {wi : TI} {g : TG} {tb : TGn} (hp : PassesOwn (model X.prog X.w) X.A X.env X.xe) (hc : X.calm = true) (hi : PI X tg iter wi) (hg : PG X tg g) (hb : GSs X body tb)
    (hs : ∀ x, foldedSetIterable iter X.env x = pure x := by intro _; rfl) : GS X (.For tg iter body [] pos) (tGFor wi g tb) := by
  refine ⟨fun A S ip R n ys s₀ c fs K J gd lv s σ H D gg hn k hI ht => ?_⟩
  obtain ⟨acc, cc, r, I⟩ := hI
  refine seg_For ?_ hs
  rw [gg.over]
  refine wpAny_mono (hi.run _ s σ H _ I ht) (fun v s1 h1 => ?_) fun x s' hx => k.exc n s₀ x s' hx
  refine wpAny_mono h1 (fun itv s2 h2 p => ?_) fun x s' hx => k.exc n s₀ x s' hx
  obtain ⟨it, fp, tn, JJ, H2, e, I2, T, st2, f2, W, ⟨m0, w0⟩, turn⟩ := h2
  subst e
  have stat : ∀ {H' : Hp} {acc' : Array Value} {cc' : Nat}, (∀ b ∈ fp, H' b = none) → ∀ b ∈ fp, FpOk X ((S, lstObj acc' cc') :: ip) H' b := fun hn b hb => by
    obtain ⟨f0, f1, f2', f3, f4, f5⟩ := f2 b hb
    refine ⟨hn b hb, f1, f2', f3, f4, fun p hp => ?_⟩
    rcases List.mem_append.mp hp with z | z
    · exact f5 p (List.mem_append_left _ z)
    · rcases List.mem_cons.mp z with z | z
      · rw [z]
        exact f5 (S, lstObj acc cc) (List.mem_append_right _ List.mem_cons_self)
      · exact f5 p (List.mem_append_right _ (List.mem_cons_of_mem _ z))
  have nS : ∀ b ∈ fp, b ≠ S := fun b hb z => (f2 b hb).2.2.2.2.2 (S, lstObj acc cc) (List.mem_append_right _ List.mem_cons_self) z.symm
  have gl := fun (kk : Result → Sem PySem.Fin) => gc_loop (k := kk) (c' := .forLoop tg (.ref it) body [] X.env) (l := lv []) (kp := []) (p := p) gg rfl rfl
  have glb := fun (kk : Result → Sem PySem.Fin) => gc_loop (k := kk) (c' := .block [] X.env) (l := lv []) (kp := []) (p := p) gg rfl rfl
  have loop : ∀ (m i n : Nat) (ys : List V) (s₀ s : Shared) (σ : St) (H : Hp), n + ys.length = sizeLine → W i m ys σ H → GI X S ip ys σ H s → tn i s.heap → (∀ b ∈ fp, H b = none) →
      Seg (model X.prog X.w) A R (GY X S) n s₀ (.forLoop tg (.ref it) body [] X.env) ((model X.prog X.w).den (.forLoop tg (.ref it) body [] X.env))
        (.ret (fun r => ((match r with | .ok f => (.pure f : Sem Flow) | .error e => .raise e).onRaise (cameBack X.env)).wrap K J gd lv) none (gd false) (lv []) c p [] :: fs) s := by
    intro m
    induction m using Nat.strongRecOn with
    | ind m ih =>
      intro i n ys s₀ s σ H hn w hI hst hfr
      have ee : ∀ (n : Nat) (s₀ : Shared) (x : Value) (s' : Shared), X.xe x s' → EOut X.prog X.w A R (GY X S) n s₀ (.forLoop tg (.ref it) body [] X.env) X.env
          (.ret (fun r => ((match r with | .ok f => (.pure f : Sem Flow) | .error e => .raise e).onRaise (cameBack X.env)).wrap K J gd lv) none (gd false) (lv []) c p [] :: fs) x s' := fun n s₀ x s' hx => by
        refine seg_wrap ?_
        rw [(gl _).over]
        refine wpAny_bind (wpAny_mono (hp x s' hx) (fun _ s'' hcb => wpAny_theTreesLotGoes ?_) fun y s'' hcb => ?_)
        · exact seg_leaf (.error x) (seg_cameBack gg k hcb)
        · exact seg_leaf (.error y) (seg_cameBack gg k hcb)
      refine seg_forLoop ?_
      rw [(gl _).over]
      obtain ⟨acc, cc, r, I⟩ := hI
      rcases turn i m ys σ H w with ⟨stop, qn⟩ | ⟨go, N, hN, step⟩
      · refine wpAny_mono (T.done X rfl rfl rfl hc i _ s σ H X.xe I (stat hfr) hst stop) (fun r' s4 ⟨hr, I4⟩ => ?_) fun x s' hx => ee n s₀ x s' hx
        subst hr
        show Seg _ _ _ _ _ _ _ ((execs [] X.env).onRaise _ >>= fun f => .pure (.done f)) _ _
        refine seg_bind ?_
        rw [(glb _).over]
        refine wpAny_onRaise ?_
        refine wpAny_execs_nil ?_
        exact seg_leaf (.ok .next) (k.ok n ys s₀ s4 .next hn ⟨σ, H, ⟨acc, cc, r, I4⟩, qn⟩)
      · refine wpAny_mono (T.item X rfl rfl rfl hc i _ s σ H X.xe I (stat hfr) hst go) (fun r' s4 ⟨u, hr, h4⟩ => ?_) fun x s' hx => ee n s₀ x s' hx
        subst hr
        refine wpAny_mono h4 (fun _ s5 ⟨x, H5, I5, r5, y5, st5, fr5⟩ => ?_) fun x s' hx => ee n s₀ x s' hx
        have I5' := I5.pinned (stat fr5) (T.obj _ _ st5)
        refine wpAny_mono (hg.run _ s5 σ H5 x u _ I5' r5 (step x H5 y5)) (fun _ s6 ⟨σ6, H6, I6, q6⟩ => ?_) fun x s' hx => ee n s₀ x s' hx
        have gl' : GC X S (ip ++ pinsAt fp s5.heap) A (.forLoop tg (.ref it) body [] X.env) (.ret (fun r => ((match r with | .ok f => (.pure f : Sem Flow) | .error e => .raise e).onRaise (cameBack X.env)).wrap K J gd lv) none (gd false) (lv []) c p [] :: fs) id :=
          ⟨gg.pn, fun p hp => (List.mem_append.mp hp).elim (fun z => gg.ip p z) fun z => nS p.1 (of_pinsAt z).1, gg.apart, (gl _).over, (gl _).split, (gl _).guard, rfl⟩
        have back : ∀ {ys7 : List V} {σ7 : St} {H7 : Hp} {s7 : Shared}, GI X S (ip ++ pinsAt fp s5.heap) ys7 σ7 H7 s7 → GI X S ip ys7 σ7 H7 s7 ∧ tn (i + 1) s7.heap ∧ ∀ b ∈ fp, H7 b = none := fun {ys7 σ7 H7 s7} h7 => by
          obtain ⟨acc7, cc7, r7, I7⟩ := h7
          refine ⟨⟨acc7, cc7, r7, Inv.unpinned (pins := (S, lstObj acc7 cc7) :: ip) I7⟩, T.keep _ _ _ st5 fun b hb o e => (I7.pin (b, o) (List.mem_append_right _ (List.mem_cons_of_mem _ (List.mem_append_right _ (mem_pinsAt hb e))))).1, fun b hb => ?_⟩
          obtain ⟨o, e, d⟩ := T.obj _ _ st5 b hb
          exact (I7.pin (b, o) (List.mem_append_right _ (List.mem_cons_of_mem _ (List.mem_append_right _ (mem_pinsAt hb e))))).2.1
        refine hb.run A S (ip ++ pinsAt fp s5.heap) R n ys s₀ _ _ _ _ id id s6 σ6 H6 { D with nx := N, ct := N, bk := D.nx } gl' hn ⟨fun n' ys' s₀' s7 f hn' hs => ?_, fun n' s₀' x s7 hx => ee n' s₀' x s7 hx⟩ ⟨acc, cc, r, I6⟩ q6
        cases f with
        | next =>
          obtain ⟨σ7, H7, I7, n7⟩ := hs
          obtain ⟨m', hm, w7⟩ := hN ys' σ7 H7 n7
          obtain ⟨b1, b2, b3⟩ := back I7
          exact seg_again rfl (ih m' hm (i + 1) n' ys' s₀' s7 σ7 H7 hn' w7 b1 b2 b3)
        | cont =>
          obtain ⟨σ7, H7, I7, n7⟩ := hs
          obtain ⟨m', hm, w7⟩ := hN ys' σ7 H7 n7
          obtain ⟨b1, b2, b3⟩ := back I7
          exact seg_again rfl (ih m' hm (i + 1) n' ys' s₀' s7 σ7 H7 hn' w7 b1 b2 b3)
        | brk =>
          obtain ⟨σ7, H7, I7, n7⟩ := hs
          exact seg_leaf (.ok .next) (k.ok n' ys' s₀' s7 .next hn' ⟨σ7, H7, (back I7).1, n7⟩)
        | ret v =>
          obtain ⟨x7, σ7, H7, I7, r7, n7⟩ := hs
          exact seg_leaf (.ok (.ret v)) (k.ok n' ys' s₀' s7 (.ret v) hn' ⟨x7, σ7, H7, (back I7).1, r7, n7⟩)
  exact loop m0 0 n ys s₀ s2 σ H2 hn w0 ⟨acc, cc, r, I2⟩ st2 fun b hb => (f2 b hb).1
end
end L2
namespace Pg
open PySem PySem.Spec PyProof.Rows L2
/-! ### generator methods -/
structure MGnAt (P : Program) (w : World) (K : PySem.W.Frag) (mg : Str → Option Value) (base : Heap) (C : Addr) (m qual : Str) (st : Stmt) (k : Nat) (ps : List Str) (sp : SpG) : Prop where
  ex : ∃ f fd, Meth K C m f ∧ Fun K m qual st f fd ∧ GFn P w K mg base k f fd ps sp ∧ Binds K fd ps []
theorem MethAt.okGn {P : Program} {w : World} {K : PySem.W.Frag} {mg : Str → Option Value} {base : Heap} {C : Addr} {m qual : Str} {st : Stmt} {k : Nat} {ps N : List Str} {sp : SpG} (F : MethAt K C m qual st) (S : GScope N ps (defScope st)) (len : ∀ vs H Q E, sp vs H Q E → vs.length = ps.length)
    (hb : ∀ (kV doc pm : Value) (an : Option Addr) (cdv ct : Value) (us : List Value), us.length = ps.length → bindArgs (PySem.W.fnOf m qual (defArgs st) (defBody st) (defScope st) .none kV doc pm an cdv ct) ⟨us, []⟩ = pure (ps.zip us))
    (hbody : ∀ (f : Addr) (cdv : Value) (A : Around) (outer : List Env) (s : Shared) (H : Hp) (vs : List V) (Q : List V → Hp → Prop) (E : XK) (pn : List (Addr × Obj)), Room k (A.deeper (envOfC qual (defScope st) s.heap.objs.size f cdv)) → sp vs H Q E →
      ∃ t, GSs (gcxOf P w K mg base N qual (defScope st) f cdv A outer s H E pn) (defBody st) t ∧ t { nx := fun ys _ H' => Q ys H', rt := fun ys v H' => v = .non ∧ Q ys H' } [] (start N vs) H) : MGnAt P w K mg base C m qual st (k + 1) ps sp := by
  obtain ⟨f, fd, hm, F⟩ := F.ex
  refine ⟨f, fd, hm, F, ?_, F.binds hb⟩
  obtain ⟨oc, od, kV, doc, pm, an, cdv, ct, osl, rfl, lk, hcd⟩ := F.ex
  exact gfn_of lk hcd S len fun A outer s H vs Q E pn hr h => hbody f cdv A outer s H vs Q E pn hr h
section
variable {X : Cx} {x m qual : Str} {st : Stmt} {k : Nat} {ps ks : List Str} {sp : SpG} {C : Addr} {e o : Expr} {es : List Expr} {kws : List Keyword} {t tk : TA} {ta : TE} {p p0 pos pos' apos : Pos} {ix : List Nat}
theorem pe_listGM {pl : Sem Bool} (he : PE X o ta) (T : Cls X.K C) (D : MGnAt X.prog X.w X.K X.mg X.base C m qual st k ps sp) (hr : Room (k + 3) X.A) (hgl : Gl X "list") (hml : X.mg "list" = none) (ha : PA X (e :: es) t)
    (hst : starEach (e :: es) X.env = (false, eval e X.env) :: starEach es X.env := by rfl) (hpl : (backTo pos' (starEach es X.env)).any (·.1) = false := by rfl)
    (ht : eval (.Call (.Attribute o m apos) (e :: es) [] pos') X.env = (do
      let ov ← eval o X.env
      standAt apos.atName
      let (f, first) ← holding [ov] (getMethod ov m pl)
      callWith pos' f first (backTo pos' (starEach (e :: es) X.env)) (backToKw pos' (keywordEach [] X.env))) := by rfl)
    (he2 : starEach [.Call (.Attribute o m apos) (e :: es) [] pos'] X.env = (false, eval (.Call (.Attribute o m apos) (e :: es) [] pos') X.env) :: starEach [] X.env := by rfl) :
    PE X (.Call (.Name "list" p0) [.Call (.Attribute o m apos) (e :: es) [] pos'] [] pos) (tListG (tMethG C m sp [] E0 ta t)) := by
  obtain ⟨f, fd, hm, F, G, b⟩ := D.ex
  exact pe_listG (pgen_meth he T hm G (hr.mono (by omega)) b .nil ha hst hpl ht) (fun _ _ _ _ _ _ _ z => by
    obtain ⟨_, _, _, _, _, _, _, _, _, _, _, _, q⟩ := z
    exact q.elim) (fun _ _ _ z => z.elim) hr hgl hml boot_list (by decide) (by decide) he2
/-- o.m(k = v, ..) of a generator method -/
def tMethGK (C : Addr) (m : Str) (n : Nat) (ix : List Nat) (sp : SpG) (E : XK) (ta : TE) (tk : TA) : TGen := fun σ H cont => ta σ H fun x H1 => ∃ a dx fs, x = .ref a ∧ H1 a = some (.ins C dx fs) ∧ fs.lookup m = none ∧
  tk σ H1 fun zs H2 => zs.length = n ∧ sp (x :: pick ix zs) H2 cont E
theorem run_gfnK {pins : List (Addr × Obj)} {σ : L2.St} {H : Hp} {s : Shared} {us us' : List Value} {kw : List (Str × Value)} {vs : List V} {cont : List V → Hp → Prop} {E : XK} {f : Addr} {fd : FuncData} {E1 : Value → Shared → Prop} (F : GFn X.prog X.w X.K X.mg X.base k f fd ps sp) (hr : Room k X.A)
    (I : Inv X pins σ H s) (b : BindsTo s fd ⟨us, kw⟩ (ps.zip us')) (r : Vals vs us') (h : sp vs H cont E) :
    wpAny (model X.prog X.w) X.A (call (.ref f) us kw) (fun u s' => ∃ H1 sc ex, Inv X pins σ H1 sc ∧ ExOk X pins ex ∧ GMade X.prog X.w k X.stack H1 sc ex cont E u s') E1 s := by
  refine wpAny_call (codeAny_mono (F.run X.A X.stack s H ⟨us, kw⟩ us' vs cont E hr I.env0 b r h) fun r s' hq => ?_)
  cases r with
  | error e => exact False.elim hq
  | ok fl =>
    cases fl with
    | ret u => exact ⟨H, s, [], I, .nil, hq⟩
    | next => exact False.elim hq
    | brk => exact False.elim hq
    | cont => exact False.elim hq
theorem pgen_methK {E : XK} {pl : Sem Bool} (he : PE X o ta) (T : Cls X.K C) (D : MGnAt X.prog X.w X.K X.mg X.base C m qual st k ps sp) (hr : Room k X.A) (hkw : PK X kws tk) (B : KB0 m qual st ps ks 1 ix)
    (hall : (backToKw pos' (keywordEach kws X.env)).all (·.1.isSome) = true := by rfl) (hks : (backToKw pos' (keywordEach kws X.env)).filterMap (·.1) = ks := by rfl)
    (hpl : ((backTo pos' (starEach [] X.env)).any (·.1) || (backToKw pos' (keywordEach kws X.env)).any (·.1.isNone)) = false := by rfl)
    (ht : eval (.Call (.Attribute o m apos) [] kws pos') X.env = (do
      let ov ← eval o X.env
      standAt apos.atName
      let (f, first) ← holding [ov] (getMethod ov m pl)
      callWith pos' f first (backTo pos' (starEach [] X.env)) (backToKw pos' (keywordEach kws X.env))) := by rfl) :
    PGen X k (.Call (.Attribute o m apos) [] kws pos') (tMethGK C m ks.length ix sp E ta tk) E := by
  obtain ⟨f, fd, hm, F, G, b⟩ := D.ex
  refine ⟨fun pins s σ H cont I h => ?_⟩
  refine PySem.W.methodCall_KW (pl := pl) (thn (he.run pins s σ H _ I h) fun u s1 ⟨x, H1, I1, rx, a, dx, fs, ex, ea, l, q⟩ => ?_) ht
  subst ex
  obtain rfl : u = Value.ref a := rx
  refine getmeth_ok I1 ea T hm l ?_
  refine PySem.W.callWith_KW0 (first := [.ref a]) (h₀ := X.base) I.ok.mod.kin hm.kp hall ?_ hpl
  refine thn (hkw.run pos' pins s1 σ H1 _ I1 q) fun ws s2 ⟨zs, H2, I2, rz, l2, q2⟩ => ⟨I2.kIn, ?_⟩
  rw [hks]
  have r2 : Vals (V.ref a :: pick ix zs) (Value.ref a :: pick ix ws) := .cons rfl (pick_vals rz ix)
  exact run_gfnK (us := [.ref a]) G hr I2 ((B.kbn F).to s2 [.ref a] ws I2.kIn rfl (rz.length.symm.trans l2)) r2 q2
theorem pe_listGMK {pl : Sem Bool} (he : PE X o ta) (T : Cls X.K C) (D : MGnAt X.prog X.w X.K X.mg X.base C m qual st k ps sp) (hr : Room (k + 3) X.A) (hgl : Gl X "list") (hml : X.mg "list" = none) (hkw : PK X kws tk) (B : KB0 m qual st ps ks 1 ix)
    (hall : (backToKw pos' (keywordEach kws X.env)).all (·.1.isSome) = true := by rfl) (hks : (backToKw pos' (keywordEach kws X.env)).filterMap (·.1) = ks := by rfl)
    (hpl : ((backTo pos' (starEach [] X.env)).any (·.1) || (backToKw pos' (keywordEach kws X.env)).any (·.1.isNone)) = false := by rfl)
    (ht : eval (.Call (.Attribute o m apos) [] kws pos') X.env = (do
      let ov ← eval o X.env
      standAt apos.atName
      let (f, first) ← holding [ov] (getMethod ov m pl)
      callWith pos' f first (backTo pos' (starEach [] X.env)) (backToKw pos' (keywordEach kws X.env))) := by rfl)
    (he2 : starEach [.Call (.Attribute o m apos) [] kws pos'] X.env = (false, eval (.Call (.Attribute o m apos) [] kws pos') X.env) :: starEach [] X.env := by rfl) :
    PE X (.Call (.Name "list" p0) [.Call (.Attribute o m apos) [] kws pos'] [] pos) (tListG (tMethGK C m ks.length ix sp E0 ta tk)) :=
  pe_listG (pgen_methK he T D (hr.mono (by omega)) hkw B hall hks hpl ht) (fun _ _ _ _ _ _ _ z => by
    obtain ⟨_, _, _, _, _, _, _, _, _, _, _, _, q⟩ := z
    exact q.elim) (fun _ _ _ z => z.elim) hr hgl hml boot_list (by decide) (by decide) he2
/-- f(k = v, ..) of a generator def -/
def tCallGK (n : Nat) (ix : List Nat) (sp : SpG) (E : XK) (tk : TA) : TGen := fun σ H cont => tk σ H fun zs H2 => zs.length = n ∧ sp (pick ix zs) H2 cont E
theorem pgen_callK {E : XK} (D : GnAt X.prog X.w X.K X.mg X.base x st k ps sp) (hr : Room k X.A) (hkw : PK X kws tk) (B : KB0 x x st ps ks 0 ix) (hg : Gl X x := by rfl)
    (hall : (backToKw pos' (keywordEach kws X.env)).all (·.1.isSome) = true := by rfl) (hks : (backToKw pos' (keywordEach kws X.env)).filterMap (·.1) = ks := by rfl) (hdb : (x == ("__debug__" : Str)) = false := by decide)
    (hpl : ((backTo pos' (starEach [] X.env)).any (·.1) || (backToKw pos' (keywordEach kws X.env)).any (·.1.isNone)) = false := by rfl) :
    PGen X k (.Call (.Name x p) [] kws pos') (tCallGK ks.length ix sp E tk) E := by
  obtain ⟨f, fd, hm, F, G, b⟩ := D.ex
  refine ⟨fun pins s σ H cont I h => ?_⟩
  refine wpAny_Call_Name_kw (ld_glob I hg hm ?_ hdb)
  refine PySem.W.callWith_KW0 (h₀ := X.base) I.ok.mod.kin F.kp hall ?_ hpl
  refine thn (hkw.run pos' pins s σ H _ I h) fun ws s2 ⟨zs, H2, I2, rz, l2, q2⟩ => ⟨I2.kIn, ?_⟩
  rw [hks]
  exact run_gfnK (us := []) G hr I2 ((B.kbn F).to s2 [] ws I2.kIn rfl (rz.length.symm.trans l2)) (pick_vals rz ix) q2
theorem pe_listGDK (D : GnAt X.prog X.w X.K X.mg X.base x st k ps sp) (hr : Room (k + 3) X.A) (hgl : Gl X "list") (hml : X.mg "list" = none) (hkw : PK X kws tk) (B : KB0 x x st ps ks 0 ix) (hg : Gl X x := by rfl)
    (hall : (backToKw pos' (keywordEach kws X.env)).all (·.1.isSome) = true := by rfl) (hks : (backToKw pos' (keywordEach kws X.env)).filterMap (·.1) = ks := by rfl) (hdb : (x == ("__debug__" : Str)) = false := by decide)
    (hpl : ((backTo pos' (starEach [] X.env)).any (·.1) || (backToKw pos' (keywordEach kws X.env)).any (·.1.isNone)) = false := by rfl)
    (he2 : starEach [.Call (.Name x p) [] kws pos'] X.env = (false, eval (.Call (.Name x p) [] kws pos') X.env) :: starEach [] X.env := by rfl) :
    PE X (.Call (.Name "list" p0) [.Call (.Name x p) [] kws pos'] [] pos) (tListG (tCallGK ks.length ix sp E0 tk)) :=
  pe_listG (pgen_callK D (hr.mono (by omega)) hkw B hg hall hks hdb hpl) (fun _ _ _ _ _ _ _ z => by
    obtain ⟨_, _, _, _, _, _, _, _, _, _, _, _, q⟩ := z
    exact q.elim) (fun _ _ _ z => z.elim) hr hgl hml boot_list (by decide) (by decide) he2
section
variable {D : GEnds} {ys : List V} {σ : L2.St} {H : Hp} {sp : SpG} {dvs : List V} {E : XK} {cont : List V → Hp → Prop} {n : Nat} {a dx : Addr} {fs : List (Str × V)} {y : V}
def GRunE (sp : SpG) (E : XK) (cont : List V → Hp → Prop) : V → List V → Hp → Prop := fun x vs H2 => sp (x :: (vs ++ [])) H2 cont E
def GKwE (n : Nat) (ix : List Nat) (sp : SpG) (E : XK) (cont : List V → Hp → Prop) : V → List V → Hp → Prop := fun x zs H2 => zs.length = n ∧ sp (x :: pick ix zs) H2 cont E
def GKw0 (n : Nat) (ix : List Nat) (sp : SpG) (E : XK) (cont : List V → Hp → Prop) : List V → Hp → Prop := fun zs H2 => zs.length = n ∧ sp (pick ix zs) H2 cont E
theorem w_methG (h : ta σ H (MethXE C m t (GRunE sp E cont) σ)) : tMethG C m sp [] E ta t σ H cont := h
theorem w_methGK (h : ta σ H (MethXE C m tk (GKwE n ix sp E cont) σ)) : tMethGK C m n ix sp E ta tk σ H cont := h
theorem w_grunE {vs : List V} (h : sp (y :: (vs ++ [])) H cont E) : GRunE sp E cont y vs H := h
theorem w_gkwE {zs : List V} (e : zs.length = n) (h : sp (y :: pick ix zs) H cont E) : GKwE n ix sp E cont y zs H := ⟨e, h⟩
theorem w_callGK (h : tk σ H (GKw0 n ix sp E cont)) : tCallGK n ix sp E tk σ H cont := h
theorem w_gkw0 {zs : List V} (e : zs.length = n) (h : sp (pick ix zs) H cont E) : GKw0 n ix sp E cont zs H := ⟨e, h⟩
/-- the loop over what is walked -/
def GForB (g : TG) (tb : TGn) (D : GEnds) (ys : List V) (σ : L2.St) : It → Hp → Prop := fun J H1 => ∃ W : Nat → Nat → List V → L2.St → Hp → Prop, (∃ m, W 0 m ys σ H1) ∧ ∀ i m ys σ H, W i m ys σ H →
  (J.stop i H ∧ D.nx ys σ H) ∨ (J.go i H ∧ ∃ N : List V → L2.St → Hp → Prop, (∀ ys' σ' H', N ys' σ' H' → ∃ m', m' < m ∧ W (i + 1) m' ys' σ' H') ∧ ∀ x H', J.yld i H x H' → g x σ H' fun σ2 H2 => tb { D with nx := N, ct := N, bk := D.nx } ys σ2 H2)
theorem w_gFor {wi : TI} {g : TG} {tb : TGn} (h : wi σ H (GForB g tb D ys σ)) : tGFor wi g tb D ys σ H := h
/-- a for over a list that stays as it is -/
theorem g_list {K : PySem.W.Frag} {g : TG} {tb : TGn} (xs : List V) (Pv : Nat → List V → L2.St → Hp → Prop) (h0 : Pv 0 ys σ H) (hl : ∀ i ys σ H, i ≤ xs.length → Pv i ys σ H → SqL K H a xs)
    (hs : ∀ i x ys σ H, xs[i]? = some x → Pv i ys σ H → g x σ H fun σ2 H2 => tb { D with nx := Pv (i + 1), ct := Pv (i + 1), bk := D.nx } ys σ2 H2) (hd : ∀ ys σ H, Pv xs.length ys σ H → D.nx ys σ H) : GForB g tb D ys σ (Itl K a) H := by
  refine ⟨fun i m ys σ H => m = xs.length - i ∧ i ≤ xs.length ∧ Pv i ys σ H, ⟨xs.length, by simp, Nat.zero_le _, h0⟩, ?_⟩
  rintro i m ys σ H ⟨rfl, hi, p⟩
  have q := hl i ys σ H hi p
  by_cases hlt : i < xs.length
  · refine .inr ⟨⟨xs, xs[i], q, by simp [hlt]⟩, Pv (i + 1), fun ys' σ' H' p' => ⟨xs.length - (i + 1), by omega, rfl, hlt, p'⟩, fun x H' y => ?_⟩
    obtain ⟨e, y⟩ := y
    subst e
    exact hs i x ys σ _ (y xs q) p
  · have e : i = xs.length := by omega
    subst e
    exact .inl ⟨⟨xs, q, Nat.le_refl _⟩, hd ys σ H p⟩
end
end
/-! ### list(range(..)) -/
def RgLE (Q : VK) : Int → Int → Hp → Prop := fun a b H1 => RgOk a b ∧ ∀ q, H1 q = none → Q (.ref q) (upd H1 q (.lst (rgV a b)))
def Rg2E (R : Int → Int → Hp → Prop) : V → V → Hp → Prop := fun x y H2 => ∃ i j, x = .int i ∧ y = .int j ∧ R i j H2
def Rg1E (R : Int → Int → Hp → Prop) : V → Hp → Prop := fun x H1 => ∃ n, x = .int n ∧ R 0 n H1
def rgI (a b : Int) : List Int := (List.range (b - a).toNat).map fun i => a + (i : Nat)
theorem rgV_ints (a b : Int) : rgV a b = (rgI a b).map V.int := by simp [rgV, rgI]
section
variable {σ : L2.St} {H : Hp} {ta tb : TE} {te : L2.St → Hp → (Int → Int → Hp → Prop) → Prop} {Q : VK} {R : Int → Int → Hp → Prop} {i j : Int}
theorem w_listRg (h : te σ H (RgLE Q)) : tLstRg te σ H Q := h
theorem w_rg2 (h : ta σ H fun x H1 => tb σ H1 (Rg2E R x)) : tRg2 ta tb σ H R := h
theorem w_rg1 (h : ta σ H (Rg1E R)) : tRg1 ta σ H R := h
theorem w_rg2E (h : R i j H) : Rg2E R (.int i) (.int j) H := ⟨i, j, rfl, rfl, h⟩
theorem w_rg1E (h : R 0 i H) : Rg1E R (.int i) H := ⟨i, rfl, h⟩
theorem w_rgLE (h0 : 0 ≤ i) (h1 : j ≤ 16777216) (h2 : i ≤ 16777216) (h3 : 0 ≤ j) (k : ∀ q, H q = none → Q (.ref q) (upd H q (.lst ((rgI i j).map V.int)))) : RgLE Q i j H := ⟨RgOk.of_le h0 h1 h2 h3, fun q hq => by rw [rgV_ints]; exact k q hq⟩
end
end Pg
namespace L2
open PySem PySem.Spec PyProof.Rows GenW
/-! ### generators that raise when they are woken -/
def RErr (P : Program) (w : World) (outer : List Env) (H : Hp) (s : Shared) (a : Addr) (g : Nat) (E : XK) : GenEnd := fun n s₀ r s1 => ((r = .ok (.ret .none) ∨ r = .ok .next) ∧ False) ∨ ∃ e, r = .error e ∧ (CX P w outer H s E e s1 ∧ s1.heap.IsGen a g)
def GRMade (P : Program) (w : World) (k : Nat) (outer : List Env) (H : Hp) (s : Shared) (E : XK) (u : Value) (s' : Shared) : Prop :=
  ∃ (a : Addr) (g : Nat) (c : Code), u = .ref a ∧ s.heap.objs.size ≤ a ∧ a < s'.heap.objs.size ∧ s'.heap.IsGen a g ∧ s'.gens[g]? = some (.fresh c) ∧ s'.os = s.os ∧ AllBare s'.gens ∧ s'.heap.NoLimit ∧ (∀ b o, s.heap.get? b = some o → s'.heap.get? b = some o) ∧
    ∀ (A : Around) (s2 : Shared), Room k A → A.frames = some outer → (∀ b o, s'.heap.get? b = some o → s2.heap.get? b = some o) → s2.os = s.os → AllBare s2.gens →
      Seg (model P w) A (RErr P w outer H s a g E) (fun _ _ _ _ _ => False) 0 s2 c ((model P w).den c) [] s2
abbrev SpR := List V → Hp → XK → Prop
structure GRFn (P : Program) (w : World) (K : PySem.W.Frag) (mg : Str → Option Value) (base : Heap) (k : Nat) (f : Addr) (fd : FuncData) (ps : List Str) (sp : SpR) : Prop where
  len : ∀ vs H E, sp vs H E → vs.length = ps.length
  run : ∀ (A : Around) (outer : List Env) (s : Shared) (H : Hp) (args : Args) (us : List Value) (vs : List V) (E : XK), Room k A → Env0 P w K mg base A outer s H → BindsTo s fd args (ps.zip us) → Vals vs us → sp vs H E →
    codeAny (model P w) A (.call (.ref f) args) (fun r s' => match r with | .ok (.ret u) => GRMade P w k outer H s E u s' | _ => False) s
theorem grfn_of {P : Program} {w : World} {K : PySem.W.Frag} {mg : Str → Option Value} {base : Heap} {k : Nat} {f : Addr} {name qual : Str} {params : Arguments} {st : Stmt} {rest : List Stmt} {scope : Scope} {dV kV doc pm cdv ct oc : Value} {an od : Option Addr}
    {osl : Array (Option Value)} {N ps : List Str} {sp : SpR} (lk : K.lookup f = some ⟨oc, od, .func (PySem.W.fnOf name qual params (st :: rest) scope dV kV doc pm an cdv ct), osl⟩) (hcd : PySem.W.codeIn K cdv qual = true) (S : GScope N ps scope)
    (len : ∀ vs H E, sp vs H E → vs.length = ps.length)
    (hbody : ∀ (A : Around) (outer : List Env) (s : Shared) (H : Hp) (vs : List V) (E : XK) (pn : List (Addr × Obj)), Room k (A.deeper (envOfC qual scope s.heap.objs.size f cdv)) → sp vs H E →
      ∃ t, PS (gcxOf P w K mg base N qual scope f cdv A outer s H E pn) st t ∧ t { nx := fun _ _ => False, rt := fun _ _ => False } (start N vs) H) :
    GRFn P w K mg base (k + 1) f (PySem.W.fnOf name qual params (st :: rest) scope dV kV doc pm an cdv ct) ps sp := by
  refine ⟨len, fun A outer s H args us vs E hr e0 hb r hsp => ?_⟩
  have hl := len _ _ _ hsp
  have KX : K.In s.heap := e0.mod.kin.keeps fun b o e => (e0.bs b o e).1
  have lim : s.heap.NoLimit := e0.mod.nolimit.keeps fun b o e => (e0.bs b o e).1
  have hkind : ∀ y ∈ ps.zip us, scope.names.lookup y.1 = some .local ∨ (scope.names.lookup y.1 = some .cell ∧ ((cellsFrom (s.heap.objs.size + 1) scope.names []).lookup y.1).isSome = true) := fun ⟨n, v⟩ hy => by
    rcases S.par n (List.of_mem_zip hy).1 with q | q
    · exact .inl q
    · exact .inr ⟨q, PySem.W.cellsFrom_some _ _ _ (.inl q)⟩
  refine codeAny_call_generator hr.depth (KX _ _ lk) rfl S.co S.gen rfl (PySem.W.codeRec_of KX hcd) (hb _ _ _ _ ?_)
  refine wpAny_newFunctionEnv_cells S.kind hkind fun env he s1 x => ?_
  subst he
  have lim1 : s1.heap.NoLimit := lim.keeps x.toInCall.keep
  refine ⟨lim1, ?_⟩
  obtain ⟨h1, tk, es1, hk1⟩ := x.done
  have os1 : s1.os = s.os := by rw [es1]
  have gen1 : s1.gens = s.gens := by rw [es1]
  have lt1 : s.heap.objs.size < s1.heap.objs.size := x.toInCall.ns.lt
  have sz1 : s.heap.objs.size ≤ s1.heap.objs.size := Nat.le_of_lt lt1
  have kp1 : ∀ b o, s.heap.get? b = some o → s1.heap.get? b = some o := x.toInCall.keep
  have main : ∀ (go : Obj) (nm qn : Value) (tk2 : Nat), go.cls = .type "generator" → go.data = .fields #[.int s1.gens.size 0, nm, qn] → go.slots = #[] → (∀ h : Heap, (h.push go).get? h.objs.size = some go) →
      GRMade P w (k + 1) outer H s E (.ref s1.heap.objs.size) { s1 with gens := s1.gens.push (.fresh (.func (st :: rest) (envOfC qual scope s.heap.objs.size f cdv))), toks := tk2, heap := s1.heap.push go } := by
    intro go nm qn tk2 hgc hgd0 hgs hgp
    have hgen : ∀ h : Heap, h.get? s1.heap.objs.size = some go → h.IsGen s1.heap.objs.size s1.gens.size := fun h e => ⟨go, nm, qn, e, hgc, hgd0, hgs⟩
    have hpushed : (s1.heap.push go).get? s1.heap.objs.size = some go := hgp _
    refine ⟨s1.heap.objs.size, s1.gens.size, _, rfl, sz1, ?_, hgen _ hpushed, Array.getElem?_push_size .., os1, ?_, lim1.keeps fun b o e => Heap.get?_push_of_some _ e, fun b o e => Heap.get?_push_of_some _ (kp1 b o e), ?_⟩
    · show _ < (s1.heap.push _).objs.size
      rw [Heap.size_push]; exact Nat.lt_succ_self _
    · exact AllBare.push (by rw [gen1]; exact e0.bare) rfl
    intro Aw s2 hrw hfr hk2 hos hba
    have e0w : Env0 P w K mg base Aw outer s H := ⟨hfr, e0.mod, e0.bs, e0.bsz, e0.funs, e0.frf, e0.hok, e0.bare⟩
    obtain ⟨t, ht, hq⟩ := hbody Aw outer s H vs E [(s1.heap.objs.size, go)] (hrw.deeper _) hsp
    have I1 : Inv (gcxOf P w K mg base N qual scope f cdv Aw outer s H E []) [] (start N vs) H s1 := inv_startG S hrw.hd e0w hl r x
    have kp2 : ∀ b o, s1.heap.get? b = some o → s2.heap.get? b = some o := fun b o e => hk2 b o (Heap.get?_push_of_some _ e)
    have I2 : Inv (gcxOf P w K mg base N qual scope f cdv Aw outer s H E []) [] (start N vs) H s2 :=
      I1.call' (ch := []) (hos.trans os1.symm) (Un.kept kp2) (I1.hok.kept kp2) hba fun b z => by simp at z
    have hea : s2.heap.get? s1.heap.objs.size = some go := hk2 s1.heap.objs.size go hpushed
    have hgd : ∀ v, go.data ≠ .cell v := fun v q => by rw [hgd0] at q; cases q
    have I3 : Inv (gcxOf P w K mg base N qual scope f cdv Aw outer s H E [(s1.heap.objs.size, go)]) [] (start N vs) H s2 := Inv.pinnedG I2 fun p hp => by
      rw [List.append_nil] at hp
      rw [List.mem_singleton.mp hp]
      exact ⟨hea, I1.hok.fresh (Nat.le_refl _), Nat.ne_of_gt lt1, I1.nofs (Nat.le_refl _), hgd⟩
    refine seg_func ?_
    refine seg_execs_cons ?_
    refine seg_wrap ?_
    rw [over_func]
    refine wpAny_mono (ht.run [] s2 (start N vs) H _ I3 hq) (fun fl s' hs => ?_) fun e s' hx => ?_
    · cases fl with
      | next => obtain ⟨_, _, _, q⟩ := hs; exact False.elim q
      | brk => obtain ⟨_, _, _, q⟩ := hs; exact False.elim q
      | cont => obtain ⟨_, _, _, q⟩ := hs; exact False.elim q
      | ret u => obtain ⟨_, _, _, _, _, q⟩ := hs; exact False.elim q
    · refine seg_wrap ?_
      rw [over_func]
      refine wpAny_mono (show wpAny (model P w) (Aw.deeper (envOfC qual scope s.heap.objs.size f cdv)) (leaving (envOfC qual scope s.heap.objs.size f cdv) e) (fun _ s'' => CX P w outer H s E e s'' ∧ ∀ p ∈ [(s1.heap.objs.size, go)], s''.heap.get? p.1 = some p.2) (fun _ _ => False) s' from hx) (fun _ s'' q => ?_) fun _ s'' q => q.elim
      exact seg_end (.error e) (.inr ⟨e, rfl, q.1, hgen _ (q.2 (s1.heap.objs.size, go) (List.mem_singleton.mpr rfl))⟩)
  exact main _ _ _ _ rfl rfl rfl fun h => Heap.get?_push_size _ rfl
/-- an expression whose value is a generator that raises when it is woken -/
abbrev TGr := L2.St → Hp → XK → Prop
structure PGenR (X : Cx) (k : Nat) (e : Expr) (tg : TGr) : Prop where
  run : ∀ (pins : List (Addr × Obj)) (s : Shared) (σ : L2.St) (H : Hp) (E : XK), Inv X pins σ H s → tg σ H E → wpAny (model X.prog X.w) X.A (eval e X.env)
    (fun u s' => ∃ H1 sc, Inv X pins σ H1 sc ∧ GRMade X.prog X.w k X.stack H1 sc E u s') X.xe s
def tForGR (K : PySem.W.Frag) (tg : TGr) (W : WX) : TS := fun D σ H => tg σ H fun cls d H' => PySem.W.subIn K cls (.type "StopIteration") = some false ∧ W cls d σ H'
theorem ps_forGR {X : Cx} {k : Nat} {tg iter : Expr} {body : List Stmt} {pos : Pos} {tr : TGr} {W : WX} (hp : PassesOwn (model X.prog X.w) X.A X.env X.xe) (hc : X.calm = true) (tkn : Takes X W) (h : PGenR X k iter tr) (hr : Room (k + 3) X.A)
    (hs : ∀ x, foldedSetIterable iter X.env x = pure x := by intro _; rfl) : PS X (.For tg iter body [] pos) (tForGR X.K tr W) := by
  refine ⟨fun pins s σ H D I hw => ?_⟩
  refine wpAny_For (thn (h.run pins s σ H _ I hw) fun v s1 h1 => ?_) hs
  obtain ⟨H1, sc, I1, a, g, c, rfl, ha1, ha2, hg, hgs, hos, hb, hl, hkp, wake⟩ := h1
  refine wpAny_pyIter_gen hg ?_
  refine codeAny_forLoop_any (fun n s' => s' = s1) (fun n s2 e => ?_) 0 rfl
  subst e
  refine wpAny_passesOwn hp ?_
  refine next_genG (P := X.prog) (w := X.w) (A := X.A) (F := fun _ _ _ => False) (Er := fun e s1' => CX X.prog X.w X.stack H1 sc (fun cls d H' => PySem.W.subIn X.K cls (.type "StopIteration") = some false ∧ W cls d σ H') e s1' ∧ s1'.heap.IsGen a g) (Y := fun _ _ _ _ _ => False) (n := 0) hr.hd hl (by have := hr.dp; omega) hg hgs ⟨rfl, ?_⟩ (fun _ _ _ _ q => q.elim) (fun _ q => q.elim) (fun e s₁ he => ?_)
  · refine wake _ _ ⟨hr.hd, ?_, ?_⟩ I1.ok.frames (fun b o e => e) hos (allBare_setGen hb rfl)
    · have := hr.dp
      show X.A.depth + 3 * k + 5 < _
      omega
    · have := hr.un
      show X.A.units + 1 + 16 * k + 200 < _
      omega
  · obtain ⟨hcx, hgen⟩ := he
    have kin : X.K.In s₁.heap := by
      obtain ⟨a', B, H', cls, d, _, fl, _, ub, _⟩ := id hcx
      refine I1.ok.mod.kin.keeps fun b o eb => fl.1 b o (ub.keep b o (I1.bs b o eb).1 (I1.bs b o eb).2 fun hm => ?_)
      rcases List.mem_cons.mp (I1.stkSub b hm) with z | z
      · have h1 := Heap.lt_size eb
        have h2 := Nat.le_trans I1.ok.bsz I1.ok.above
        rw [z] at h1
        exact absurd (Nat.lt_of_lt_of_le h1 h2) (Nat.lt_irrefl _)
      · exact I1.ok.nofr eb z
    refine ⟨hgen, notStop_of (fun cls d H' z => z.1) kin hcx, ?_⟩
    refine tkn e _ (XE.of_call I1 (E := fun cls d H' => PySem.W.subIn X.K cls (.type "StopIteration") = some false ∧ W cls d σ H') (fun _ _ _ h => h.2) ?_)
    obtain ⟨a', B, H', cls, d, z1, fl, z2, ub, z3, z4, z5, z6⟩ := hcx
    exact ⟨a', B, H', cls, d, z1, fl, z2, ub, z3, z4, allBare_setGen z5 rfl, z6⟩
end L2
namespace Pg
open PySem PySem.Spec PyProof.Rows L2
/-! ### generator methods that raise when they are woken -/
structure MGRAt (P : Program) (w : World) (K : PySem.W.Frag) (mg : Str → Option Value) (base : Heap) (C : Addr) (m qual : Str) (st : Stmt) (k : Nat) (ps : List Str) (sp : SpR) : Prop where
  ex : ∃ f fd, Meth K C m f ∧ Fun K m qual st f fd ∧ GRFn P w K mg base k f fd ps sp ∧ Binds K fd ps []
theorem MethAt.okGR {P : Program} {w : World} {K : PySem.W.Frag} {mg : Str → Option Value} {base : Heap} {C : Addr} {m qual : Str} {st b₀ : Stmt} {rest : List Stmt} {k : Nat} {ps N : List Str} {sp : SpR} (F : MethAt K C m qual st) (S : GScope N ps (defScope st)) (eb : defBody st = b₀ :: rest) (len : ∀ vs H E, sp vs H E → vs.length = ps.length)
    (hb : ∀ (kV doc pm : Value) (an : Option Addr) (cdv ct : Value) (us : List Value), us.length = ps.length → bindArgs (PySem.W.fnOf m qual (defArgs st) (defBody st) (defScope st) .none kV doc pm an cdv ct) ⟨us, []⟩ = pure (ps.zip us))
    (hbody : ∀ (f : Addr) (cdv : Value) (A : Around) (outer : List Env) (s : Shared) (H : Hp) (vs : List V) (E : XK) (pn : List (Addr × Obj)), Room k (A.deeper (envOfC qual (defScope st) s.heap.objs.size f cdv)) → sp vs H E →
      ∃ t, PS (gcxOf P w K mg base N qual (defScope st) f cdv A outer s H E pn) b₀ t ∧ t { nx := fun _ _ => False, rt := fun _ _ => False } (start N vs) H) : MGRAt P w K mg base C m qual st (k + 1) ps sp := by
  obtain ⟨f, fd, hm, F⟩ := F.ex
  refine ⟨f, fd, hm, F, ?_, F.binds hb⟩
  obtain ⟨oc, od, kV, doc, pm, an, cdv, ct, osl, rfl, lk, hcd⟩ := F.ex
  rw [eb] at lk ⊢
  exact grfn_of lk hcd S len fun A outer s H vs E pn hr h => hbody f cdv A outer s H vs E pn hr h
def GRunR (sp : SpR) (E : XK) : V → List V → Hp → Prop := fun x vs H2 => sp (x :: vs) H2 E
def tMethGR (C : Addr) (m : Str) (sp : SpR) (ta : TE) (t : TA) : TGr := fun σ H E => ta σ H (MethXE C m t (GRunR sp E) σ)
section
variable {X : Cx} {x y m qual : Str} {st : Stmt} {k i : Nat} {ps : List Str} {C : Addr} {e o : Expr} {es : List Expr} {t : TA} {ta : TE} {p p0 pos pos' apos : Pos}
theorem pgenR_meth {sp : SpR} {pl : Sem Bool} (he : PE X o ta) (T : Cls X.K C) (D : MGRAt X.prog X.w X.K X.mg X.base C m qual st k ps sp) (hr : Room k X.A) (ha : PA X (e :: es) t)
    (hst : starEach (e :: es) X.env = (false, eval e X.env) :: starEach es X.env := by rfl) (hpl : (backTo pos' (starEach es X.env)).any (·.1) = false := by rfl)
    (ht : eval (.Call (.Attribute o m apos) (e :: es) [] pos') X.env = (do
      let ov ← eval o X.env
      standAt apos.atName
      let (f, first) ← holding [ov] (getMethod ov m pl)
      callWith pos' f first (backTo pos' (starEach (e :: es) X.env)) (backToKw pos' (keywordEach [] X.env))) := by rfl) :
    PGenR X k (.Call (.Attribute o m apos) (e :: es) [] pos') (tMethGR C m sp ta t) := by
  obtain ⟨f, fd, hm, F, G, b⟩ := D.ex
  refine ⟨fun pins s σ H E I h => ?_⟩
  refine PySem.W.methodCall_KW (pl := pl) (thn (he.run pins s σ H _ I h) fun u s1 ⟨x, H1, I1, rx, a, dx, fs, ex, ea, l, q⟩ => ?_) ht
  subst ex
  obtain rfl : u = Value.ref a := rx
  refine getmeth_ok I1 ea T hm l ?_
  refine PySem.W.callWith_K (first := [.ref a]) (h₀ := X.base) I.ok.mod.kin hm.kp (thn (ha.run pos' pins s1 σ H1 _ I1 q) fun us s2 ⟨vs, H2, I2, r, q2⟩ => ⟨I2.kIn, ?_⟩) hst hpl
  have r2 : Vals (V.ref a :: vs) (Value.ref a :: us) := .cons rfl r
  refine wpAny_call (codeAny_mono (G.run X.A X.stack s2 H2 ⟨.ref a :: us, []⟩ (.ref a :: us) (.ref a :: vs) E hr I2.env0 (binds0 b r2 (G.len _ _ _ q2) I2.kIn) r2 q2) fun r s' hq => ?_)
  cases r with
  | error e => exact False.elim hq
  | ok fl =>
    cases fl with
    | ret u => exact ⟨H2, s2, I2, hq⟩
    | next => exact False.elim hq
    | brk => exact False.elim hq
    | cont => exact False.elim hq
theorem ps_forGRM {sp : SpR} {W : WX} {pl : Sem Bool} {tg : Expr} {body : List Stmt} (hp : PassesOwn (model X.prog X.w) X.A X.env X.xe) (hc : X.calm = true) (tkn : Takes X W) (he : PE X o ta) (T : Cls X.K C) (D : MGRAt X.prog X.w X.K X.mg X.base C m qual st k ps sp) (hr : Room (k + 3) X.A) (ha : PA X (e :: es) t)
    (hst : starEach (e :: es) X.env = (false, eval e X.env) :: starEach es X.env := by rfl) (hpl : (backTo pos' (starEach es X.env)).any (·.1) = false := by rfl)
    (ht : eval (.Call (.Attribute o m apos) (e :: es) [] pos') X.env = (do
      let ov ← eval o X.env
      standAt apos.atName
      let (f, first) ← holding [ov] (getMethod ov m pl)
      callWith pos' f first (backTo pos' (starEach (e :: es) X.env)) (backToKw pos' (keywordEach [] X.env))) := by rfl)
    (hs : ∀ x, foldedSetIterable (.Call (.Attribute o m apos) (e :: es) [] pos') X.env x = pure x := by intro _; rfl) :
    PS X (.For tg (.Call (.Attribute o m apos) (e :: es) [] pos') body [] pos) (tForGR X.K (tMethGR C m sp ta t) W) :=
  ps_forGR hp hc tkn (pgenR_meth he T D (hr.mono (by omega)) ha hst hpl ht) hr hs
theorem kc_forGR {K : PySem.W.Frag} {st : Stmt} {tg : TGr} {W : WX} (h : PS X st (tForGR X.K tg W)) (q : X.K = K) : PS X st (tForGR K tg W) := q ▸ h
/-! ### classmethods, classes held in a local -/
structure CMethAt (K : PySem.W.Frag) (C : Addr) (m qual : Str) (st : Stmt) : Prop where
  ex : ∃ p g fd mc, ClX.CRead K C mc ∧ ClX.CMet K C mc m p g ∧ Fun K m qual st g fd
structure CMDefAtX (P : Program) (w : World) (K : PySem.W.Frag) (mg : Str → Option Value) (base : Heap) (C : Addr) (m qual : Str) (st : Stmt) (k : Nat) (ps : List Str) (sp : Sp) : Prop where
  ex : ∃ p g fd mc, ClX.CRead K C mc ∧ ClX.CMet K C mc m p g ∧ Fun K m qual st g fd ∧ FnOk P w K mg base (L2.CX P w) k g fd ps sp ∧ Binds K fd ps []
theorem CMethAt.okX {P : Program} {w : World} {K : PySem.W.Frag} {mg : Str → Option Value} {base : Heap} {N : List Str} {sp : Sp} (F : CMethAt K C m qual st) (S : FnScope N ps (defScope st)) (len : ∀ vs H Q E, sp vs H Q E → vs.length = ps.length)
    (hb : ∀ (kV doc pm : Value) (an : Option Addr) (cdv ct : Value) (us : List Value), us.length = ps.length → bindArgs (PySem.W.fnOf m qual (defArgs st) (defBody st) (defScope st) .none kV doc pm an cdv ct) ⟨us, []⟩ = pure (ps.zip us))
    (hbody : ∀ (f : Addr) (cdv : Value) (A : Around) (outer : List Env) (s : Shared) (H : Hp) (vs : List V) (Q : VK) (E : XK), Room k (A.deeper (envOfC qual (defScope st) s.heap.objs.size f cdv)) → sp vs H Q E →
      ∃ t, PSs (cxOf (L2.CX P w) P w K mg base N qual (defScope st) f cdv A outer s H E) (defBody st) t ∧ t { nx := fun _ H' => Q .non H', rt := Q } (start N vs) H) : CMDefAtX P w K mg base C m qual st (k + 1) ps sp := by
  obtain ⟨p, g, fd, mc, h1, h2, F⟩ := F.ex
  exact ⟨p, g, fd, mc, h1, h2, F, F.okX S len (fun cdv A outer s H vs Q E hr h => hbody g cdv A outer s H vs Q E hr h), F.binds hb⟩
def CMetE (C : Addr) (t : TA) (R : V → List V → Hp → Prop) (σ : L2.St) : V → Hp → Prop := fun x H1 => x = .ref C ∧ t σ H1 (R (.ref C))
def tCMethX (C : Addr) (sp : Sp) (W : WX) (ta : TE) (t : TA) : TE := fun σ H Q => ta σ H (CMetE C t (MRunXE sp W σ Q) σ)
theorem pe_cmethX {sp : Sp} {W : WX} {pl : Sem Bool} (he : PE X o ta) (D : CMDefAtX X.prog X.w X.K X.mg X.base C m qual st k ps sp) (hr : Room k X.A) (tkn : Takes X W) (ha : PA X (e :: es) t)
    (hst : starEach (e :: es) X.env = (false, eval e X.env) :: starEach es X.env := by rfl) (hpl : (backTo pos (starEach es X.env)).any (·.1) = false := by rfl)
    (ht : eval (.Call (.Attribute o m apos) (e :: es) [] pos) X.env = (do
      let ov ← eval o X.env
      standAt apos.atName
      let (f, first) ← holding [ov] (getMethod ov m pl)
      callWith pos f first (backTo pos (starEach (e :: es) X.env)) (backToKw pos (keywordEach [] X.env))) := by rfl) :
    PE X (.Call (.Attribute o m apos) (e :: es) [] pos) (tCMethX C sp W ta t) := by
  obtain ⟨p, g, fd, mc, r, c, F, G, b⟩ := D.ex
  refine ⟨fun pins s σ H Q I h => ?_⟩
  refine PySem.W.methodCall_KW (pl := pl) (thn (he.run pins s σ H _ I h) fun u s1 ⟨x, H1, I1, rx, ex, q⟩ => ?_) ht
  subst ex
  obtain rfl : u = Value.ref C := rx
  refine ClX.getmethcm_ok I1 r c fun s2 I2 => ?_
  refine ClX.callwith_cm I2 (ClX.base_none I1 (Nat.le_refl _)) c.fi (thn (ha.run pos _ s2 σ H1 _ I2 q) fun us s3 ⟨vs, H2, I3, rv, q2⟩ => ⟨⟨ClX.pin_at I3, I3.kIn⟩, ?_⟩) hst hpl
  have r2 : Vals (V.ref C :: vs) (Value.ref C :: us) := .cons rfl rv
  have z : wpAny (model X.prog X.w) X.A (call (.ref s1.heap.objs.size) us) (EP X ((s1.heap.objs.size, PySem.W.methodObj (.ref g) (.ref C)) :: pins) σ Q) X.xe s3 := by
    refine wpAny_call (PySem.W.method_call (ClX.pin_at I3) (codeAny_mono (G.run X.A X.stack s3 H2 ⟨.ref C :: us, []⟩ (.ref C :: us) (.ref C :: vs) Q _ hr I3.env0 (binds0 b r2 (G.len _ _ _ _ q2) I3.kIn) r2 q2) fun q s' hq => ?_))
    cases q with
    | error e => exact (L2.passAt tkn σ) _ H2 s3 e s' I3 hq
    | ok fl =>
      cases fl with
      | ret u => exact I3.after hq
      | next => exact False.elim hq
      | brk => exact False.elim hq
      | cont => exact False.elim hq
  exact thn z fun _ _ y => ClX.unpinE y
def tMakeLX (i : Nat) (C : Addr) (sp : Sp) (W : WX) (t : TA) : TE := fun σ H Q => σ[i]? = some (some (.ref C)) ∧ tMakeX C sp W t σ H Q
theorem pe_makeLX {sp : Sp} {W : WX} (hv : PE X (.Name x p) (tVar i)) (T : ClsAt X.K X.mg y C) (D : MDefAtX X.prog X.w X.K X.mg X.base C "__init__" qual st k ps sp) (hr : Room (k + 1) X.A) (tkn : Takes X W) (ha : PA X (e :: es) t)
    (he : starEach (e :: es) X.env = (false, eval e X.env) :: starEach es X.env := by rfl) (hpl : (backTo pos (starEach es X.env)).any (·.1) = false := by rfl) :
    PE X (.Call (.Name x p) (e :: es) [] pos) (tMakeLX i C sp W t) := by
  obtain ⟨f, fd, hm, F, G, b⟩ := D.ex
  refine ⟨fun pins s σ H Q I h => ?_⟩
  obtain ⟨hs, h⟩ := h
  refine wpAny_Call_Name_kw (thn (hv.run pins s σ H (fun v H1 => v = .ref C ∧ H1 = H) I ⟨.ref C, hs, rfl, rfl⟩) fun u s1 ⟨v, H1, I1, r1, q1⟩ => ?_)
  obtain ⟨rfl, rfl⟩ := q1
  obtain rfl : u = Value.ref C := r1
  refine PySem.W.callWith_K (h₀ := X.base) I.ok.mod.kin T.kp (thn (ha.run pos pins s1 σ _ _ I1 h) fun us s2 ⟨vs, H2, I2, r, q⟩ => ⟨I2.kIn, ?_⟩) he hpl
  refine run_makeAt (us := us) ⟨T.mks, hm.at_, hm.fn, T.kp⟩ G hr (L2.passAt tkn σ) I2 (fun s' a hl hk => ?_) r q
  have r2 : Vals (V.ref a :: vs) (Value.ref a :: us) := .cons rfl r
  exact binds0 b r2 hl hk
end
section
variable {D : Ends} {σ : L2.St} {H : Hp} {K : PySem.W.Frag} {sp : Sp} {sr : SpR} {W : WX} {E : XK} {Q : VK} {C a : Addr} {m : Str} {i : Nat} {ta : TE} {t : TA} {tg : TGr} {y : V}
theorem w_forGR (h : tg σ H fun cls d H' => PySem.W.subIn K cls (.type "StopIteration") = some false ∧ W cls d σ H') : tForGR K tg W D σ H := h
theorem w_methGR (h : ta σ H (MethXE C m t (GRunR sr E) σ)) : tMethGR C m sr ta t σ H E := h
theorem w_grunR {vs : List V} (h : sr (y :: vs) H E) : GRunR sr E y vs H := h
theorem w_cmetX (h : ta σ H (CMetE C t (MRunXE sp W σ Q) σ)) : tCMethX C sp W ta t σ H Q := h
theorem w_cmetE {R : V → List V → Hp → Prop} (h : t σ H (R (.ref C))) : CMetE C t R σ (.ref C) H := ⟨rfl, h⟩
theorem w_makeLX (e : σ[i]? = some (some (.ref C))) (h : tMakeX C sp W t σ H Q) : tMakeLX i C sp W t σ H Q := ⟨e, h⟩
end
end Pg


namespace Pg
open PySem PySem.Spec PyProof.Rows L2
/-- x == y, x an instance of a class with an own __eq__ that answers a truth -/
def rEqI (C : Addr) (sp : Sp) : R2 := fun x y H Q => ∃ a b dx dy fs gs, x = .ref a ∧ y = .ref b ∧ H a = some (.ins C dx fs) ∧ H b = some (.ins C dy gs) ∧ sp [.ref a, .ref b] H (fun v H' => ∃ r, v = .bl r ∧ Q (.bl r) H') E0
theorem op_eqI {X : Cx} {C f : Addr} {fd : FuncData} {ps : List Str} {sp : Sp} {n : Nat} (F : FnOk X.prog X.w X.K X.mg X.base CX0 n f fd ps sp)
    (hs : PySem.W.findIn X.K (.ref C) "__eq__" = some (some (.ref f))) (hf : PySem.W.isFn X.K (.ref f) = true) (hb : L2.Binds X.K fd ps []) (hr : Room n X.A) : OpR X (compareOp .Eq) (rEqI C sp) := by
  intro pins s σ H x y v u Q I rx ry hq
  obtain ⟨a, b, dx, dy, fs, gs, rfl, rfl, ha, hb', hsp⟩ := hq
  cases rx
  cases ry
  obtain ⟨mA, J, _⟩ := ins_get I.hok ha
  obtain ⟨mB, J', _⟩ := ins_get I.hok hb'
  obtain ⟨od, J, _⟩ := J.look
  obtain ⟨od', J', _⟩ := J'.look
  obtain ⟨m, hF⟩ := I.fr
  show wpAny (model X.prog X.w) X.A (richCompare .Eq (.ref a) (.ref b)) (EP X pins σ Q) X.xe s
  refine PySem.W.cmp_K (op := .Eq) (tb := .ref C) hr.units0 hF I.ok.mod.kin J J'.type (by simp [PySem.W.notFirst]) hs hf ?_
  have hl := F.len _ _ _ _ hsp
  have r2 : Vals [V.ref a, V.ref b] [Value.ref a, Value.ref b] := .cons rfl (.cons rfl .nil)
  refine wpAny_call (codeAny_mono (F.run X.A X.stack s H ⟨[.ref a, .ref b], []⟩ [.ref a, .ref b] [.ref a, .ref b] _ E0 hr I.env0 (by
    have := hb s [.ref a, .ref b] I.kIn (by simpa using hl)
    simpa using this) r2 hsp) fun r s' hq => ?_)
  cases r with
  | error e => exact pass0 _ _ _ _ _ _ I hq
  | ok fl =>
    cases fl with
    | ret w =>
      obtain ⟨z, H', I', rz, r, ez, q⟩ := I.after hq
      subst ez
      cases rz
      exact ⟨.bl r, H', I', rfl, q⟩
    | next => exact False.elim hq
    | brk => exact False.elim hq
    | cont => exact False.elim hq
end Pg
namespace Pg
open PySem PySem.Spec PyProof.Rows L2
theorem ne_bind (self : Value) : bindSpecial (.builtin "object.__ne__") self = pure (.builtin "object.__ne__", [self]) := F.cmp_object.ne.bind self
section
variable {prog : Program} {w : World} {A : Around} {E : Value → Shared → Prop} {s : Shared} {K : PySem.W.Frag} {x y C f : Addr} {ox oy : Obj} {od od' : Option Obj}
theorem ne_K {Q : Value → Shared → Prop} (hu : A.units + 1 < cLine) (X : K.In s.heap) (I : PySem.W.InstAt s.heap x ox C od) (J : PySem.W.InstAt s.heap y oy C od') (hn : PySem.W.findIn K (.ref C) "__ne__" = some (some (.builtin "object.__ne__")))
    (he : PySem.W.findIn K (.ref C) "__eq__" = some (some (.ref f))) (hf : PySem.W.isFn K (.ref f) = true) (mk : PySem.W.makesIn K C = true)
    (h : wpAny (model prog w) A.in1 (call (.ref f) [.ref x, .ref y]) (fun v s' => ∃ r, v = .bool r ∧ Q (.bool (!r)) s') E s) : wpAny (model prog w) A (richCompare .NotEq (.ref x) (.ref y)) Q E s := by
  have body : wpAny (model prog w) A.in1 (Builtin.«object.__ne__» ⟨[.ref x, .ref y], []⟩) (fun fin s' => ∃ r, fin = .done (.ret (.bool (!r))) ∧ Q (.bool (!r)) s') E s := by
    unfold Builtin.«object.__ne__»
    refine wpAny_bind (wpAny_pure ?_)
    refine wpAny_bind (wpAny_cRoomFor hu ?_)
    refine wpAny_bind (PySem.W.ifBound_K X I he hf (wpAny_mono h (fun v s' hv => ?_) fun _ _ e => e))
    obtain ⟨r, rfl, hq⟩ := hv
    refine wpAny_bind (wpAny_truthy_bool ?_)
    exact wpAny_pure ⟨r, rfl, hq⟩
  have one : wpAny (model prog w) A (tryCompare (.ref x) (cmpInfo .NotEq).2.1 (.ref y)) (fun r s' => ∃ v, r = some v ∧ Q v s') E s := by
    unfold tryCompare
    refine wpAny_bind ?_
    simp only [callSpecialIfBound?, bindSpecialIfBound?]
    refine wpAny_holding (wpAny_bind (wpAny_bind (wpAny_bind (I.type.here ((PySem.W.looks_findIn X hn).here ?_)))))
    refine wpAny_bind (wpAny_askSetting (wpAny_ite ?_))
    have call_ : wpAny (model prog w) A (call (.builtin "object.__ne__") [.ref x, .ref y]) (fun v s' => ∃ r, v = .bool r ∧ Q (.bool r) s') E s := by
      refine wpAny_call (codeAny_call_builtin F.cmp_object.ne.plain F.cmpEntry_ne (PySem.W.check_slot F.cmpKind_ne F.cmpSplit_ne (I.type.andThen (PySem.W.makes_of X mk).top) (F.cmpArgs_ne _ _) ?_))
      refine wpAny_mono body (fun fin s' z => ?_) fun _ _ e => e
      obtain ⟨r, rfl, hq⟩ := z
      exact ⟨_, rfl, hq⟩
    have fin : wpAny (model prog w) A (call (.builtin "object.__ne__") ([.ref x] ++ [.ref y]) >>= fun v => pure (some v)) (fun r s' => wpAny (model prog w) A (match r with | some .notImplemented | none => pure none | some v => pure (some v)) (fun r s' => ∃ v, r = some v ∧ Q v s') E s') E s :=
      wpAny_bind (wpAny_mono call_ (fun v s' h' => wpAny_pure (by obtain ⟨r, rfl, hq⟩ := h'; exact wpAny_pure ⟨_, rfl, hq⟩)) fun _ _ h' => h')
    split
    · rw [ne_bind]
      exact wpAny_bind (wpAny_pure (wpAny_pure fin))
    · rw [ne_bind]
      exact wpAny_tryCatch (wpAny_bind (wpAny_pure (wpAny_pure fin)))
  unfold richCompare
  simp only [oneThing_ref]
  refine wpAny_holding (wpAny_bind (wpAny_cRoomFor (Nat.lt_of_succ_lt hu) ?_))
  refine wpAny_bind (I.type.here (wpAny_bind (J.type.here ?_)))
  split
  · rename_i q
    simp at q
  · refine wpAny_bind (wpAny_pure ?_)
    simp only [Bool.false_eq_true, if_false]
    refine wpAny_bind (wpAny_mono one (fun r s' z => ?_) fun _ _ e => e)
    obtain ⟨v, rfl, hq⟩ := z
    exact wpAny_pure hq
end
/-- x != y -/
def rNeI (C : Addr) (sp : Sp) : R2 := fun x y H Q => ∃ a b dx dy fs gs, x = .ref a ∧ y = .ref b ∧ H a = some (.ins C dx fs) ∧ H b = some (.ins C dy gs) ∧ sp [.ref a, .ref b] H (fun v H' => ∃ r, v = .bl r ∧ Q (.bl (!r)) H') E0
theorem op_neI {X : Cx} {C f : Addr} {fd : FuncData} {ps : List Str} {sp : Sp} {n : Nat} (F : FnOk X.prog X.w X.K X.mg X.base CX0 n f fd ps sp) (hn : PySem.W.findIn X.K (.ref C) "__ne__" = some (some (.builtin "object.__ne__")))
    (hs : PySem.W.findIn X.K (.ref C) "__eq__" = some (some (.ref f))) (hf : PySem.W.isFn X.K (.ref f) = true) (mk : PySem.W.makesIn X.K C = true) (hb : L2.Binds X.K fd ps []) (hr : Room (n + 1) X.A) : OpR X (compareOp .NotEq) (rNeI C sp) := by
  intro pins s σ H x y v u Q I rx ry hq
  obtain ⟨a, b, dx, dy, fs, gs, rfl, rfl, ha, hb', hsp⟩ := hq
  cases rx
  cases ry
  obtain ⟨mA, J, _⟩ := ins_get I.hok ha
  obtain ⟨mB, J', _⟩ := ins_get I.hok hb'
  obtain ⟨od, J, _⟩ := J.look
  obtain ⟨od', J', _⟩ := J'.look
  have hr1 : Room n X.A.in1 := hr.in1
  show wpAny (model X.prog X.w) X.A (richCompare .NotEq (.ref a) (.ref b)) (EP X pins σ Q) X.xe s
  refine ne_K hr1.units0 I.kIn J J' hn hs hf mk ?_
  have hl := F.len _ _ _ _ hsp
  have r2 : Vals [V.ref a, V.ref b] [Value.ref a, Value.ref b] := .cons rfl (.cons rfl .nil)
  have e0 : Env0 X.prog X.w X.K X.mg X.base X.A.in1 X.stack s H := by
    have e := I.env0
    exact ⟨e.frames, e.mod, e.bs, e.bsz, e.funs, e.frf, e.hok, e.bare⟩
  refine wpAny_call (codeAny_mono (F.run X.A.in1 X.stack s H ⟨[.ref a, .ref b], []⟩ [.ref a, .ref b] [.ref a, .ref b] _ E0 hr1 e0 (by
    have := hb s [.ref a, .ref b] I.kIn (by simpa using hl)
    simpa using this) r2 hsp) fun r s' hq => ?_)
  cases r with
  | error e => exact pass0 _ _ _ _ _ _ I hq
  | ok fl =>
    cases fl with
    | ret w =>
      obtain ⟨z, H', I', rz, r, ez, q⟩ := I.after hq
      subst ez
      cases rz
      exact ⟨r, rfl, .bl (!r), H', I', rfl, q⟩
    | next => exact False.elim hq
    | brk => exact False.elim hq
    | cont => exact False.elim hq
end Pg
namespace Pg
open PySem PySem.Spec PyProof.Rows L2
section
variable {prog : Program} {w : World} {A : Around} {E : Value → Shared → Prop} {s : Shared} {K : PySem.W.Frag} {x C f : Addr} {ox : Obj} {od : Option Obj} {a : Value} {T id : String}
/-- a == x, a of a builtin type that declines, x an instance with an own __eq__ -/
theorem eq_ownRight {Q : Value → Shared → Prop} (hu : A.units < cLine) (X : K.In s.heap) (ha : s.TypeIs a T) (I : PySem.W.InstAt s.heap x ox C od) (hsub : PySem.W.subIn K (.ref C) (.type T) = some false) (h1 : Slot T (cmpInfo .Eq).2.1 id)
    (hc1 : ∀ Q' : Value → Shared → Prop, Q' .notImplemented s → wpAny (model prog w) A (call (.builtin id) [a, .ref x]) Q' E s)
    (he : PySem.W.findIn K (.ref C) "__eq__" = some (some (.ref f))) (hf : PySem.W.isFn K (.ref f) = true)
    (h : wpAny (model prog w) A (call (.ref f) [.ref x, a]) (PySem.W.CmpBack Q) E s) : wpAny (model prog w) A (richCompare .Eq a (.ref x)) Q E s := by
  rcases hi : cmpInfo CmpOp.Eq with ⟨sym, g, r⟩
  have hr : r = "__eq__" := by
    have := congrArg (fun z => z.2.2) hi
    exact this.symm
  rw [hi] at h1
  simp only [richCompare, hi, ha.oneThing_none]
  try with_reducible refine wpAny_holding ?_
  refine wpAny_bind (wpAny_cRoomFor hu ?_)
  refine wpAny_bind (wpAny_typeOf ha (wpAny_bind (I.type.here ?_)))
  rw [if_pos (by simp)]
  refine wpAny_bind ((PySem.W.looks_subIn X hsub).here ?_)
  simp only [Bool.false_eq_true, if_false, Bool.not_false, if_true]
  refine wpAny_bind (m := tryCompare a _ (.ref x)) (wpAny_tryCompare_declines ha h1 (hc1 _ ⟨rfl, ?_⟩))
  subst hr
  refine wpAny_bind (m := tryCompare (.ref x) _ a) ?_
  unfold tryCompare
  refine wpAny_bind (PySem.W.ifBound_K X I he hf (wpAny_mono h (fun v s' hv => ?_) fun _ _ e => e))
  cases v <;> first | exact hv.elim | exact wpAny_pure (wpAny_pure hv)
end
end Pg
namespace Pg
open PySem PySem.Spec PySem.SeqAt
open AutoSeq1 (wpAny_loadPart')
open MeetsSeq MeetsSeq2 MeetsSeq3 SeqRoads2
section
variable {M : Model} {A : Around} {E : Value → Shared → Prop} {s : Shared} {K : PySem.W.Frag} {x C : Addr} {ox : Obj} {od : Option Obj} {T : String}
theorem isInst_no {Q : Bool → Shared → Prop} (X : K.In s.heap) (I : PySem.W.InstAt s.heap x ox C od) (hsub : PySem.W.subIn K (.ref C) (.type T) = some false) (h : Q false s) : wpAny M A (isInstance (.ref x) (.type T)) Q E s := by
  unfold isInstance
  exact wpAny_bind (I.type.here ((PySem.W.looks_subIn X hsub).here h))
end
theorem int_decl (b : Int) (u : Tok) (x C dx : Addr) :
    Meets (Builtin.«int.__eq__» ⟨[.int b u, .ref x], []⟩) (fun _ R s => s.heap.get? x = some (PySem.W.instObj C dx) ∧ R (.ok (.ret .notImplemented)) s) :=
  .of_wp fun prog w A R s h => by obtain ⟨hp, g, d, tk, os⟩ := s; obtain ⟨hl, h⟩ := h; wp_walk using wpAny_loadPart' hl, wpAny_load hl; exact ⟨_, rfl, h⟩
theorem str_decl (b : Str) (u : Tok) (x C dx : Addr) :
    Meets (Builtin.«str.__eq__» ⟨[.str b u, .ref x], []⟩) (fun _ R s => s.heap.get? x = some (PySem.W.instObj C dx) ∧ R (.ok (.ret .notImplemented)) s) :=
  .of_wp fun prog w A R s h => by obtain ⟨hp, g, d, tk, os⟩ := s; obtain ⟨hl, h⟩ := h; wp_walk using wpAny_loadPart' hl, wpAny_load hl; exact ⟨_, rfl, h⟩
theorem list_decl (l : Addr) (items : Array Value) (n : Nat) (K : PySem.W.Frag) (x C : Addr) (ox : Obj) (od : Option Obj) (hsub : PySem.W.subIn K (.ref C) (.type "list") = some false) :
    Meets (Builtin.«list.__eq__» ⟨[.ref l, .ref x], []⟩) (fun _ R s => K.In s.heap ∧ PySem.W.InstAt s.heap x ox C od ∧ R (.ok (.ret .notImplemented)) s) :=
  .of_wp fun prog w A R s h => by
    obtain ⟨X, I, h⟩ := h
    obtain ⟨hp, g, d, tk, os⟩ := s
    wp_walk using isInst_no X I hsub
    exact ⟨_, rfl, h⟩
end Pg
namespace Pg
open PySem PySem.Spec PySem.SeqAt
open AutoSeq1 (wpAny_loadPart')
open MeetsSeq MeetsSeq2 MeetsSeq3 SeqRoads2
section
variable {prog : Program} {w : World} {A : Around} {R : Result → Shared → Prop}
/-- at each turn the list is read anew: N items, each of them unlike x -/
def ListJ (prog : Program) (w : World) (A : Around) (E : Value → Shared → Prop) (l : Addr) (x : Value) (N : Nat) (I : Shared → Prop) : Prop :=
  ∀ s, I s → ∃ (items : Array Value) (n : Nat), s.heap.get? l = some { cls := .type "list", data := .seq items n } ∧ items.size = N ∧
    ∀ (i : Nat) (h : i < items.size), wpAny (model prog w) A.in1 (eqBool items[i] x) (fun r s' => r = false ∧ I s') E s
theorem contains_loopJ (l : Addr) (x : Value) (N : Nat) (I : Shared → Prop) (hl : ListJ prog w A (fun e s' => R (.error e) s') l x N I)
    (fin : ∀ s, I s → R (.ok (.ret (.bool false))) s) (k : Nat) :
    ∀ i : Nat, N - i = k → ∀ s, I s →
      wpAny (model prog w) A.in1 (Builtin.«list.__contains__.loop» ⟨[.ref l, x, rawInt i], []⟩) (GQ.FinOf prog w A R) (fun e s' => R (.error e) s') s := by
  induction k with
  | zero =>
    intro i hk s h
    obtain ⟨items, n, hl1, hs1, _⟩ := hl _ h
    have hR : R (.ok (.ret (.bool false))) s := fin s h
    obtain ⟨hp, g, d, tk, os⟩ := s
    wp_walk using wpAny_loadPart' hl1
    have hi : items[((i : Nat) : Int).toNat]? = none := by simp; omega
    rw [hi]
    wp_walk
    exact hR
  | succ k ih =>
    intro i hk s h
    obtain ⟨items, n, hl1, hs1, turn⟩ := hl _ h
    have hlt : i < items.size := by omega
    have ht := turn i hlt
    obtain ⟨hp, g, d, tk, os⟩ := s
    wp_walk using wpAny_loadPart' hl1
    have hi : items[((i : Nat) : Int).toNat]? = some items[i] := by simp [hlt]
    have hc : ((i : Int) + 1) = ((i + 1 : Nat) : Int) := by omega
    rw [hi]
    refine wpAny_bind (wpAny_mono ht (fun r s2 h2 => ?_) fun _ _ x => x)
    obtain ⟨hr, h2⟩ := h2
    subst hr
    have hrec := ih (i + 1) (by omega) s2 h2
    obtain ⟨hp2, g2, d2, tk2, os2⟩ := s2
    wp_walk
    rw [hc]
    exact ⟨plainId_quiet plain_contains_loop _, codeAny_builtin entry_contains_loop (by
      rw [Around.under_plainId plain_contains_loop _]
      exact hrec)⟩
theorem list_containsJ (l : Addr) (x : Value) (N : Nat) (I : Shared → Prop) (hl : ListJ prog w A (fun e s' => R (.error e) s') l x N I)
    (fin : ∀ s, I s → R (.ok (.ret (.bool false))) s) {s : Shared} (h : I s) :
    wpAny (model prog w) A.in1 (Builtin.«list.__contains__» ⟨[.ref l, x], []⟩) (GQ.FinOf prog w A R) (fun e s' => R (.error e) s') s := by
  obtain ⟨items, n, hl1, hs1, _⟩ := hl _ h
  have hrec := contains_loopJ (A := A) (R := R) l x N I hl fin _ 0 rfl s h
  obtain ⟨hp, g, d, tk, os⟩ := s
  wp_walk using wpAny_loadPart' hl1
  exact ⟨plainId_quiet plain_contains_loop _, codeAny_builtin entry_contains_loop (by
    rw [Around.under_plainId plain_contains_loop _]
    exact hrec)⟩
theorem notIn_listJ {E : Value → Shared → Prop} {l : Addr} {x : Value} {N : Nat} {Q : Value → Shared → Prop} (I : Shared → Prop) (hl : ListJ prog w A E l x N I)
    (fin : ∀ s, I s → Q (.bool true) s) {s : Shared} (h : I s) : wpAny (model prog w) A (compareOp .NotIn x (.ref l)) Q E s := by
  obtain ⟨items, n, hl1, hs1, _⟩ := hl _ h
  show wpAny _ A (do return .bool (!(← contains (.ref l) x))) Q E s
  refine wpAny_bind (wpAny_contains_slot ⟨_, hl1, rfl⟩ F.slot_list_contains (GQ.call_here F.slot_list_contains ⟨_, hl1, rfl⟩ F.entry_list_contains (F.args_list_contains_2 _ _) ?_))
  exact list_containsJ (R := wants (fun v s' => wpAny (model prog w) A (truthy v) (fun b s' => wpAny (model prog w) A (pure (Value.bool (!b))) Q E s') E s') E) l x N I hl (fun s' q => wpAny_truthy_bool (wpAny_pure (fin s' q))) h
end
end Pg
namespace Pg
open PySem PySem.Spec PyProof.Rows L2
/-- what stands in a list and declines -/
def Kd (H : Hp) (y : V) : Prop := y = .non ∨ (∃ n, y = .int n) ∨ (∃ t, y = .str t) ∨ ∃ a xs, y = .ref a ∧ H a = some (.lst xs)
structure NoSub (K : PySem.W.Frag) (C : Addr) : Prop where
  n : PySem.W.subIn K (.ref C) (.type "NoneType") = some false
  i : PySem.W.subIn K (.ref C) (.type "int") = some false
  s : PySem.W.subIn K (.ref C) (.type "str") = some false
  l : PySem.W.subIn K (.ref C) (.type "list") = some false
section
variable {X : Cx} {C f : Addr} {fd : FuncData} {ps : List Str} {sp : Sp} {n : Nat}
theorem eqB_of {M : Model} {A : Around} {E : Value → Shared → Prop} {s : Shared} {u v : Value} {Q : Bool → Shared → Prop} (hnf : ∀ b t, u ≠ .float b t) (hne : u ≠ v) (h : wpAny M A (richCompare .Eq u v) (fun r s' => ∃ b, r = .bool b ∧ Q b s') E s) :
    wpAny M A (eqBool u v) Q E s := by
  cases u <;> first
    | exact absurd rfl (hnf _ _)
    | (unfold eqBool
       refine wpAny_holding ?_
       refine wpAny_ite_split (fun hab => absurd (eq_of_beq hab) hne) (fun _ => ?_)
       refine wpAny_bind (wpAny_mono h (fun r s' hr => ?_) fun _ _ e => e)
       obtain ⟨b, rfl, q⟩ := hr
       exact wpAny_truthy_bool q)
/-- the call of the own __eq__ with something else -/
theorem ownEq_no (Fo : FnOk X.prog X.w X.K X.mg X.base CX0 n f fd ps sp) (hb : L2.Binds X.K fd ps []) {A : Around} (sb : L2.Sub X n A) {pins : List (Addr × Obj)} {σ : L2.St} {H : Hp} {s : Shared} (I : Inv X pins σ H s)
    {x : Addr} {y : V} {u : Value} (ry : RelV y u) (hsp : sp [.ref x, y] H (fun v H' => v = .bl false ∧ H' = H) E0) :
    wpAny (model X.prog X.w) A (call (.ref f) [.ref x, u]) (PySem.W.CmpBack fun v s' => v = .bool false ∧ Inv X pins σ H s') X.xe s := by
  have hl := Fo.len _ _ _ _ hsp
  have r2 : Vals [V.ref x, y] [Value.ref x, u] := .cons rfl (.cons ry .nil)
  have e0 : Env0 X.prog X.w X.K X.mg X.base A X.stack s H := by
    have e := I.env0
    exact ⟨by rw [sb.fr]; exact e.frames, e.mod, e.bs, e.bsz, e.funs, e.frf, e.hok, e.bare⟩
  refine wpAny_call (codeAny_mono (Fo.run A X.stack s H ⟨[.ref x, u], []⟩ [.ref x, u] [.ref x, y] _ E0 sb.room e0 (by
    have := hb s [.ref x, u] I.kIn (by simpa using hl)
    simpa using this) r2 hsp) fun r s' hq => ?_)
  cases r with
  | error e => exact pass0 _ _ _ _ _ _ I hq
  | ok fl =>
    cases fl with
    | ret w =>
      obtain ⟨z, H', I', rz, ez, eh⟩ := I.after hq
      subst ez
      subst eh
      cases rz
      exact ⟨rfl, I'⟩
    | next => exact False.elim hq
    | brk => exact False.elim hq
    | cont => exact False.elim hq
theorem ne_lst_ins {H : Hp} {a x : Addr} {xs : List V} {dx : Addr} {fs : List (Str × V)} (ha : H a = some (.lst xs)) (hx : H x = some (.ins C dx fs)) : a ≠ x := fun e => by
  subst e; rw [ha] at hx; cases hx
theorem eqB_K (Fo : FnOk X.prog X.w X.K X.mg X.base CX0 n f fd ps sp) (hs : PySem.W.findIn X.K (.ref C) "__eq__" = some (some (.ref f))) (hf : PySem.W.isFn X.K (.ref f) = true) (hb : L2.Binds X.K fd ps []) (N : NoSub X.K C)
    {A : Around} (sb : L2.Sub X n A) {pins : List (Addr × Obj)} {σ : L2.St} {H : Hp} {s : Shared} (I : Inv X pins σ H s) {x dx : Addr} {fs : List (Str × V)} (hx : H x = some (.ins C dx fs))
    {y : V} {u : Value} (ry : RelV y u) (hy : Kd H y) (hsp : sp [.ref x, y] H (fun v H' => v = .bl false ∧ H' = H) E0) :
    wpAny (model X.prog X.w) A (eqBool u (.ref x)) (fun r s' => r = false ∧ Inv X pins σ H s') X.xe s := by
  obtain ⟨mA, O, _⟩ := ins_get I.hok hx
  have hox := O.obj
  obtain ⟨od, J, _⟩ := O.look
  have hu := sb.room.units0
  have hcall := ownEq_no Fo hb sb I (x := x) ry hsp
  have main : ∀ (T id : String), s.TypeIs u T → PySem.W.subIn X.K (.ref C) (.type T) = some false → Slot T (cmpInfo .Eq).2.1 id →
      (∀ Q' : Value → Shared → Prop, Q' .notImplemented s → wpAny (model X.prog X.w) A (call (.builtin id) [u, .ref x]) Q' X.xe s) → u ≠ .ref x → (∀ b t, u ≠ .float b t) →
      wpAny (model X.prog X.w) A (eqBool u (.ref x)) (fun r s' => r = false ∧ Inv X pins σ H s') X.xe s := fun T id hT hsub slot hc1 hne hnf => by
    refine eqB_of hnf hne (eq_ownRight hu I.kIn hT J hsub slot hc1 hs hf (wpAny_mono hcall (fun v s' hv => ?_) fun _ _ e => e))
    cases v <;> first
      | exact hv.elim
      | (obtain ⟨e, I'⟩ := hv
         cases e
         done)
      | (obtain ⟨e, I'⟩ := hv
         exact ⟨false, e, rfl, I'⟩)
  rcases hy with rfl | ⟨k, rfl⟩ | ⟨t, rfl⟩ | ⟨a, xs, rfl, ha⟩
  · cases ry
    exact main "NoneType" _ (typeIs_none s) N.n F.slot_NoneType_eq (fun Q' q => call_gives F.slot_NoneType_eq (typeIs_none s) F.entry_NoneType_eq (F.args_NoneType_eq_2 _ _) (SeqAt.NoneType___eq___none_ref_0 x) q) (by nofun) (by nofun)
  · obtain ⟨tk, rfl⟩ := ry
    exact main "int" _ (typeIs_int s _ _) N.i F.slot_int_eq (fun Q' q => call_meets F.slot_int_eq (typeIs_int s _ _) F.entry_int_eq (F.args_int_eq_2 _ _) (int_decl _ _ x C dx) ⟨hox, q⟩) (by nofun) (by nofun)
  · obtain ⟨tk, rfl⟩ := ry
    exact main "str" _ (typeIs_str s _ _) N.s F.slot_str_eq (fun Q' q => call_meets F.slot_str_eq (typeIs_str s _ _) F.entry_str_eq (F.args_str_eq_2 _ _) (str_decl _ _ x C dx) ⟨hox, q⟩) (by nofun) (by nofun)
  · cases ry
    obtain ⟨z, its, k, r, e⟩ := I.hok a _ ha
    exact main "list" _ ⟨_, e, rfl⟩ N.l F.slot_list_eq (fun Q' q => call_meets F.slot_list_eq ⟨_, e, rfl⟩ F.entry_list_eq (F.args_list_eq_2 _ _) (list_decl a its.toArray k X.K x C _ _ N.l) ⟨I.kIn, J, q⟩) (fun e => ne_lst_ins ha hx (by injection e)) (by nofun)
/-- x not in [..], x an instance with an own __eq__, nothing like it in the list -/
def rNotInO (C : Addr) (sp : Sp) : R2 := fun x y H Q => ∃ a dx fs l ys, x = .ref a ∧ y = .ref l ∧ H a = some (.ins C dx fs) ∧ H l = some (.lst ys) ∧ (∀ z ∈ ys, Kd H z) ∧ (∀ z ∈ ys, sp [.ref a, z] H (fun v H' => v = .bl false ∧ H' = H) E0) ∧ Q (.bl true) H
theorem op_notInO (Fo : FnOk X.prog X.w X.K X.mg X.base CX0 n f fd ps sp) (hs : PySem.W.findIn X.K (.ref C) "__eq__" = some (some (.ref f))) (hf : PySem.W.isFn X.K (.ref f) = true) (hb : L2.Binds X.K fd ps []) (N : NoSub X.K C) (hr : Room (n + 1) X.A) :
    OpR X (compareOp .NotIn) (rNotInO C sp) := by
  intro pins s σ H x y v u Q I rx ry hq
  obtain ⟨a, dx, fs, l, ys, rfl, rfl, ha, hl, hk, hsp, q⟩ := hq
  cases rx
  cases ry
  have sb : L2.Sub X (n + 1) X.A := ⟨hr, rfl⟩
  refine notIn_listJ (N := ys.length) (fun s' => Inv X pins σ H s') (fun s' I' => ?_) (fun s' I' => ⟨.bl true, H, I', rfl, q⟩) I
  obtain ⟨z, its, k, r, e⟩ := I'.hok l _ hl
  refine ⟨its.toArray, k, e, by rw [List.size_toArray, ← r.length], fun i h => ?_⟩
  have h' : i < its.length := by simpa using h
  have k1 : i < ys.length := by rw [r.length]; exact h'
  obtain ⟨u, hu, ru⟩ := r.get (List.getElem?_eq_getElem k1)
  have e1 : its.toArray[i] = u := by
    rw [List.getElem?_eq_getElem h'] at hu
    simpa using Option.some.inj hu
  rw [e1]
  exact eqB_K Fo hs hf hb N sb.in1 I' ha ru (hk _ (List.getElem_mem k1)) (hsp _ (List.getElem_mem k1))
end
end Pg
namespace Pg
open PySem PySem.Spec PyProof.Rows L2
section
variable {prog : Program} {w : World} {A : Around} {E : Value → Shared → Prop} {s : Shared} {K : PySem.W.Frag} {x C f : Addr} {y : Value} {ox : Obj} {od : Option Obj} {T : String}
theorem ne_KO {Q : Value → Shared → Prop} (hu : A.units + 1 < cLine) (X : K.In s.heap) (I : PySem.W.InstAt s.heap x ox C od) (hy : s.TypeIs y T) (hsub : PySem.W.subIn K (.type T) (.ref C) = some false) (hn : PySem.W.findIn K (.ref C) "__ne__" = some (some (.builtin "object.__ne__")))
    (he : PySem.W.findIn K (.ref C) "__eq__" = some (some (.ref f))) (hf : PySem.W.isFn K (.ref f) = true) (mk : PySem.W.makesIn K C = true)
    (h : wpAny (model prog w) A.in1 (call (.ref f) [.ref x, y]) (fun v s' => ∃ r, v = .bool r ∧ Q (.bool (!r)) s') E s) : wpAny (model prog w) A (richCompare .NotEq (.ref x) y) Q E s := by
  have body : wpAny (model prog w) A.in1 (Builtin.«object.__ne__» ⟨[.ref x, y], []⟩) (fun fin s' => ∃ r, fin = .done (.ret (.bool (!r))) ∧ Q (.bool (!r)) s') E s := by
    unfold Builtin.«object.__ne__»
    refine wpAny_bind (wpAny_pure ?_)
    refine wpAny_bind (wpAny_cRoomFor hu ?_)
    refine wpAny_bind (PySem.W.ifBound_K X I he hf (wpAny_mono h (fun v s' hv => ?_) fun _ _ e => e))
    obtain ⟨r, rfl, hq⟩ := hv
    refine wpAny_bind (wpAny_truthy_bool ?_)
    exact wpAny_pure ⟨r, rfl, hq⟩
  have one : wpAny (model prog w) A (tryCompare (.ref x) (cmpInfo .NotEq).2.1 y) (fun r s' => ∃ v, r = some v ∧ Q v s') E s := by
    unfold tryCompare
    refine wpAny_bind ?_
    simp only [callSpecialIfBound?, bindSpecialIfBound?]
    refine wpAny_holding (wpAny_bind (wpAny_bind (wpAny_bind (I.type.here ((PySem.W.looks_findIn X hn).here ?_)))))
    refine wpAny_bind (wpAny_askSetting (wpAny_ite ?_))
    have call_ : wpAny (model prog w) A (call (.builtin "object.__ne__") [.ref x, y]) (fun v s' => ∃ r, v = .bool r ∧ Q (.bool r) s') E s := by
      refine wpAny_call (codeAny_call_builtin F.cmp_object.ne.plain F.cmpEntry_ne (PySem.W.check_slot F.cmpKind_ne F.cmpSplit_ne (I.type.andThen (PySem.W.makes_of X mk).top) (F.cmpArgs_ne _ _) ?_))
      refine wpAny_mono body (fun fin s' z => ?_) fun _ _ e => e
      obtain ⟨r, rfl, hq⟩ := z
      exact ⟨_, rfl, hq⟩
    have fin : wpAny (model prog w) A (call (.builtin "object.__ne__") ([.ref x] ++ [y]) >>= fun v => pure (some v)) (fun r s' => wpAny (model prog w) A (match r with | some .notImplemented | none => pure none | some v => pure (some v)) (fun r s' => ∃ v, r = some v ∧ Q v s') E s') E s :=
      wpAny_bind (wpAny_mono call_ (fun v s' h' => wpAny_pure (by obtain ⟨r, rfl, hq⟩ := h'; exact wpAny_pure ⟨_, rfl, hq⟩)) fun _ _ h' => h')
    split
    · rw [ne_bind]
      exact wpAny_bind (wpAny_pure (wpAny_pure fin))
    · rw [ne_bind]
      exact wpAny_tryCatch (wpAny_bind (wpAny_pure (wpAny_pure fin)))
  unfold richCompare
  simp only [hy.oneThing_none]
  refine wpAny_holding (wpAny_bind (wpAny_cRoomFor (Nat.lt_of_succ_lt hu) ?_))
  refine wpAny_bind (I.type.here (wpAny_bind (wpAny_typeOf hy ?_)))
  rw [if_pos (by simp)]
  refine wpAny_bind ((PySem.W.looks_subIn X hsub).here ?_)
  simp only [Bool.false_eq_true, if_false, Bool.not_false, if_true]
  refine wpAny_bind (wpAny_mono one (fun r s' z => ?_) fun _ _ e => e)
  obtain ⟨v, rfl, hq⟩ := z
  exact wpAny_pure hq
end
theorem subList {K : PySem.W.Frag} {C : Addr} : PySem.W.subIn K (.type "list") (.ref C) = some false := by
  show (PySem.fastBuiltinMro "list").map (·.contains (Value.ref C)) = some false
  have h : PySem.fastBuiltinMro "list" = some [.type "list", .type "object"] := by decide +kernel
  rw [h]
  rfl
/-- x != ys, x an instance of a class with an own __eq__, ys a list -/
def rNeO (C : Addr) (sp : Sp) : R2 := fun x y H Q => ∃ a b dx fs ys, x = .ref a ∧ y = .ref b ∧ H a = some (.ins C dx fs) ∧ H b = some (.lst ys) ∧ sp [.ref a, .ref b] H (fun v H' => v = .bl false ∧ H' = H) E0 ∧ Q (.bl true) H
theorem op_neO {X : Cx} {C f : Addr} {fd : FuncData} {ps : List Str} {sp : Sp} {n : Nat} (Fo : FnOk X.prog X.w X.K X.mg X.base CX0 n f fd ps sp) (hn : PySem.W.findIn X.K (.ref C) "__ne__" = some (some (.builtin "object.__ne__")))
    (hs : PySem.W.findIn X.K (.ref C) "__eq__" = some (some (.ref f))) (hf : PySem.W.isFn X.K (.ref f) = true) (mk : PySem.W.makesIn X.K C = true) (hb : L2.Binds X.K fd ps []) (hr : Room (n + 1) X.A) : OpR X (compareOp .NotEq) (rNeO C sp) := by
  intro pins s σ H x y v u Q I rx ry hq
  obtain ⟨a, b, dx, fs, ys, rfl, rfl, ha, hb', hsp, q⟩ := hq
  cases rx
  cases ry
  obtain ⟨mA, J, _⟩ := ins_get I.hok ha
  obtain ⟨od, J, _⟩ := J.look
  obtain ⟨z, its, k, r, e⟩ := I.hok b _ hb'
  have hr1 : Room n X.A.in1 := hr.in1
  show wpAny (model X.prog X.w) X.A (richCompare .NotEq (.ref a) (.ref b)) (EP X pins σ Q) X.xe s
  refine ne_KO (T := "list") hr1.units0 I.kIn J ⟨_, e, rfl⟩ subList hn hs hf mk ?_
  refine wpAny_mono (ownEq_no Fo hb (A := X.A.in1) (L2.Sub.in1 ⟨hr, rfl⟩) I (x := a) (y := .ref b) rfl hsp) (fun v s' hv => ?_) fun _ _ e => e
  cases v <;> first
    | exact hv.elim
    | (obtain ⟨e, I'⟩ := hv
       cases e
       done)
    | (obtain ⟨e, I'⟩ := hv
       refine ⟨_, rfl, .bl true, H, I', ?_, q⟩
       cases e
       rfl)
end Pg
namespace Pg
open PySem PySem.Spec PyProof.Rows L2
/-- what the text says of a class with an own __eq__ -/
structure EqCls (K : PySem.W.Frag) (C : Addr) : Prop where
  ne : PySem.W.findIn K (.ref C) "__ne__" = some (some (.builtin "object.__ne__"))
  ty : PySem.W.typeIn K (.ref C) = some (.type "type")
  cl : PySem.W.findIn K (.ref C) "__class__" = some (some (.builtin "object.__class__"))
  cn : PySem.W.specialIn K (.builtin "object.__class__") "__get__" = some (some (.builtin "getset_descriptor.__get__"))
  ct : PySem.W.takesIn K (.builtin "object.__class__") = some true
  cm : PySem.W.mroIn K C (.type "object") = some true
  ns : NoSub K C
section
variable {X : Cx} {C : Addr} {x qual : Str} {st : Stmt} {sp : Sp} {ps : List Str} {k : Nat}
theorem op_eqM (D : MDefAt X.prog X.w X.K X.mg X.base C "__eq__" qual st k ps sp) (hr : Room k X.A) : OpR X (compareOp .Eq) (rEqI C sp) := by
  obtain ⟨f, fd, hm, F, G, b⟩ := D.ex
  exact op_eqI G hm.at_ hm.fn b hr
theorem op_neM (D : MDefAt X.prog X.w X.K X.mg X.base C "__eq__" qual st k ps sp) (T : ClsAt X.K X.mg x C) (q : EqCls X.K C) (hr : Room (k + 1) X.A) : OpR X (compareOp .NotEq) (rNeI C sp) := by
  obtain ⟨f, fd, hm, F, G, b⟩ := D.ex
  exact op_neI G q.ne hm.at_ hm.fn T.mks b hr
theorem op_neOM (D : MDefAt X.prog X.w X.K X.mg X.base C "__eq__" qual st k ps sp) (T : ClsAt X.K X.mg x C) (q : EqCls X.K C) (hr : Room (k + 1) X.A) : OpR X (compareOp .NotEq) (rNeO C sp) := by
  obtain ⟨f, fd, hm, F, G, b⟩ := D.ex
  exact op_neO G q.ne hm.at_ hm.fn T.mks b hr
theorem op_notInM (D : MDefAt X.prog X.w X.K X.mg X.base C "__eq__" qual st k ps sp) (T : ClsAt X.K X.mg x C) (q : EqCls X.K C) (hr : Room (k + 1) X.A) : OpR X (compareOp .NotIn) (rNotInO C sp) := by
  obtain ⟨f, fd, hm, F, G, b⟩ := D.ex
  exact op_notInO G hm.at_ hm.fn b q.ns hr
end
theorem kit_own {K : PySem.W.Frag} {C : Addr} {T : String} (hC : PySem.W.hasDictIn K C = true) (ty : PySem.W.typeIn K (.ref C) = some (.type "type")) (sub : PySem.W.subIn K (.type T) (.ref C) = some false) : PySem.W.kitOne K (.type T) (.ref C) = some false := by
  obtain ⟨cd, hc, _⟩ := PySem.W.any_some hC
  unfold PySem.W.kitOne
  have ne : (Value.type T == Value.ref C) = false := Bool.eq_false_iff.mpr fun z => by simpa using beq_iff_eq.mp z
  rw [ne, if_neg Bool.false_ne_true]
  show (if ((PySem.W.clsIn K C).isSome && PySem.W.typeIn K (.ref C) == some (.type "type")) = true then PySem.W.subIn K (.type T) (.ref C) else none) = some false
  rw [hc, ty, sub, if_pos (by rfl)]
theorem subTy {K : PySem.W.Frag} {C : Addr} {T : String} (h : PySem.fastBuiltinMro T = some [.type T, .type "object"]) : PySem.W.subIn K (.type T) (.ref C) = some false := by
  show (PySem.fastBuiltinMro T).map (·.contains (Value.ref C)) = some false
  rw [h]
  rfl
section
variable {K : PySem.W.Frag} {mg : Str → Option Value} {C : Addr} {x : Str} {H : Hp} {Q : VK} {y : V}
/-- isinstance(y, C): no -/
theorem isi_kd (T : ClsAt K mg x C) (q : EqCls K C) (hy : Kd H y) (h : Q (.bl false) H) : rIsi K [y, .ref C] H Q := by
  rcases hy with rfl | ⟨k, rfl⟩ | ⟨t, rfl⟩ | ⟨a, xs, rfl, ha⟩
  · exact ⟨_, _, _, _, false, rfl, .own C, .base .non, kit_own T.c.hd q.ty (subTy (by decide +kernel)), h⟩
  · exact ⟨_, _, _, _, false, rfl, .own C, .base (.int k), kit_own T.c.hd q.ty (subTy (by decide +kernel)), h⟩
  · exact ⟨_, _, _, _, false, rfl, .own C, .base (.str t), kit_own T.c.hd q.ty (subTy (by decide +kernel)), h⟩
  · exact ⟨_, _, _, _, false, rfl, .own C, .base (.lst ha), kit_own T.c.hd q.ty (subTy (by decide +kernel)), h⟩
theorem isi_ins (T : ClsAt K mg x C) (q : EqCls K C) {a dx : Addr} {fs : List (Str × V)} (ha : H a = some (.ins C dx fs)) (h : Q (.bl true) H) : rIsi K [.ref a, .ref C] H Q :=
  ⟨_, _, _, _, true, rfl, .own C, .base (.ins ha T.c q.cl q.cn q.ct q.cm), by unfold PySem.W.kitOne; rw [if_pos (beq_self_eq_true _)], h⟩
end
end Pg

open PySem PySem.Spec PyProof.Rows L2 Pg
/-! ### steps -/
local macro_rules | `(tactic| walk_at "h") => `(tactic| with_reducible first
  | assumption
  | exact upd_same
  | (refine' at_make ?e3 ?n1 ?n2; (case n1 => assumption); (case n2 => assumption); (case e3 => walk_at "h"))
  | (refine' at_upd ?e3 ?n1; (case n1 => assumption); (case e3 => walk_at "h"))
  | (refine' Fr.at0 ?n1 ?e3; (case n1 => assumption); (case e3 => walk_at "h"))
  | (refine' Fr.at ?e1 (nn2 ?e2) ?e3; (case e1 => assumption); (case e2 => walk_at "n"); (case e3 => walk_at "h"))
  | (refine' Fr.at ?e1 (nn3 ?e2 ?e4) ?e3; (case e1 => assumption); (case e2 => walk_at "n"); (case e4 => walk_at "n"); (case e3 => walk_at "h"))
  | (refine' Eq.trans (upd_ne ?e2) ?e3; (case e2 => walk_at "n"); (case e3 => walk_at "h")))
local macro_rules | `(tactic| walk_at "n") => `(tactic| with_reducible first
  | assumption
  | exact Ne.symm (by assumption)
  | (refine' Ne.symm (ne_of_none ?e1 ?e2); (case e2 => assumption); (case e1 => walk_at "h"))
  | (refine' ne_of_none ?e1 ?e2; (case e2 => assumption); (case e1 => walk_at "h"))
  | (refine' ne_of ?e1 ?e2 ?e3; (case e1 => assumption); (case e2 => walk_at "h"); (case e3 => (first | exact ho_lst_tup | exact ho_lst_own | exact ho_lst_xd | exact ho_lst_dK | exact ho_lst_ins | exact ho_tup_lst | exact ho_tup_own | exact ho_tup_xd | exact ho_tup_dK | exact ho_tup_ins | exact ho_own_lst | exact ho_own_tup | exact ho_own_xd | exact ho_own_dK | exact ho_own_ins | exact ho_xd_lst | exact ho_xd_tup | exact ho_xd_own | exact ho_xd_dK | exact ho_xd_ins | exact ho_dK_lst | exact ho_dK_tup | exact ho_dK_own | exact ho_dK_xd | exact ho_dK_ins | exact ho_ins_lst | exact ho_ins_tup | exact ho_ins_own | exact ho_ins_xd | exact ho_ins_dK))))
local macro_rules | `(tactic| walk_at "f") => `(tactic| with_reducible first
  | assumption
  | exact Fr.refl
  | exact Fr.nil (by assumption)
  | (refine' Fr.make ?e1 ?e2 ?e3; (case e2 => assumption); (case e3 => assumption); (case e1 => walk_at "f"))
  | (refine' Fr.new ?e1 ?e2; (case e2 => assumption); (case e1 => walk_at "f"))
  | (refine' Fr.put ?e1 (Or.inr ?e2); (case e2 => exact List.mem_singleton_self _); (case e1 => walk_at "f"))
  | (refine' Fr.put ?e1 (Or.inr ?e2); (case e2 => exact mem2a); (case e1 => walk_at "f"))
  | (refine' Fr.put ?e1 (Or.inr ?e2); (case e2 => exact mem2b); (case e1 => walk_at "f"))
  | (refine' Fr.put ?e1 (Or.inl ?e2); (case e2 => walk_at "z"); (case e1 => walk_at "f"))
  | (refine' Fr.trans ?e1 ?e2; (case e2 => assumption); (case e1 => walk_at "f"))
  | (refine' Fr.then ?e1 ?e2; (case e2 => assumption); (case e1 => walk_at "f"))
  | (refine' Fr.loc ?e1 ?e2 ?e3; (case e3 => assumption); (case e2 => walk_at "z"); (case e1 => walk_at "f"))
  | (refine' Fr.loc2 ?e1 ?e2 ?e4 ?e3; (case e3 => assumption); (case e2 => walk_at "z"); (case e4 => walk_at "z"); (case e1 => walk_at "f")))
local macro_rules | `(tactic| walk_at "z") => `(tactic| with_reducible first
  | assumption
  | (refine' Fr.free ?e1 (nn2 ?e2) ?e3; (case e3 => assumption); (case e1 => walk_at "f"); (case e2 => walk_at "n"))
  | (refine' Fr.free ?e1 (nn3 ?e2 ?e4) ?e3; (case e3 => assumption); (case e1 => walk_at "f"); (case e2 => walk_at "n"); (case e4 => walk_at "n"))
  | (refine' Fr.free (S := []) ?e1 List.not_mem_nil ?e3; (case e3 => assumption); (case e1 => walk_at "f")))
local macro_rules | `(tactic| walk_at "k") => `(tactic| first
  | with_reducible assumption
  | ((with_reducible refine' hx_of ?a1 ?a0); (case a1 => walk_at "h"); (case a0 => with_reducible exact rfl)))
local macro_rules | `(tactic| walk_at "1") => `(tactic| first
  | with_reducible refine w_seq ?_
  | with_reducible refine w_asg ?_
  | with_reducible refine w_gname ?_
  | with_reducible refine w_ret ?_
  | with_reducible refine w_drop ?_
  | with_reducible refine w_ifS ?_
  | with_reducible refine w_c ?_
  | ((with_reducible refine' w_var ?e1 ?_); (case e1 => exact rfl))
  | with_reducible refine w_op ?_
  | with_reducible refine w_I0 ?_
  | with_reducible refine w_eqI ?_
  | with_reducible refine w_neI ?_
  | with_reducible refine w_nil ?_
  | with_reducible refine w_cons ?_
  | with_reducible refine w_call ?_
  | with_reducible refine w_CB ?_
  | with_reducible refine w_test ?_
  | with_reducible refine w_tB ?_
  | with_reducible refine w_exbl ?_
  | with_reducible refine w_not ?_
  | with_reducible refine w_and ?_
  | with_reducible refine w_or ?_
  | with_reducible refine w_if ?_
  | with_reducible refine w_next ?_
  | with_reducible refine w_retN ?_
  | with_reducible refine w_iteF ?_
  | with_reducible refine w_iteT ?_
  | with_reducible refine w_iteNT ?_
  | with_reducible refine w_iteNF ?_
  | ((with_reducible refine w_iteP ?e1 ?_); (case e1 => with_reducible first | exact rfl | assumption))
  | ((with_reducible refine w_iteNP ?e1 ?_); (case e1 => with_reducible first | exact rfl | assumption))
  | ((with_reducible refine w_iteQ ?e1 ?_); (case e1 => with_reducible assumption))
  | ((with_reducible refine w_iteNQ ?e1 ?_); (case e1 => with_reducible assumption))
  | with_reducible refine w_lst ?_
  | with_reducible refine w_tup ?_
  | with_reducible refine w_bm ?_
  | with_reducible refine w_bm0 ?_
  | with_reducible refine w_chain ?_
  | with_reducible refine w_sub ?_
  | with_reducible refine w_un ?_
  | with_reducible refine w_U ?_
  | with_reducible refine w_par ?_
  | with_reducible refine w_parE ?_
  | with_reducible refine w_par3 ?_
  | with_reducible refine w_par3E ?_
  | ((with_reducible refine' w_aug ?e1 ?_); (case e1 => exact rfl))
  | with_reducible refine w_ipI ?_
  | ((with_reducible refine' w_ipM ?e1 ?_); (case e1 => walk_at "c"))
  | with_reducible refine w_fld ?_
  | with_reducible refine w_tfld ?_
  | ((with_reducible refine' w_powW ?e1 ?_); (case e1 => walk_at "c"); (try dsimp only [Int.reduceToNat, Int.reducePow]))
  | ((with_reducible refine' w_I ?e1 ?_); (case e1 => walk_at "c"))
  | ((with_reducible refine' w_ixL (SqL.of ?e1) ?e2 ?_); (case e1 => walk_at "k"); (case e2 => exact rfl))
  | ((with_reducible refine' w_ixT (SqT.of ?e1) ?e2 ?_); (case e1 => walk_at "k"); (case e2 => exact rfl))
  | ((with_reducible refine' w_setL ?e1 ?e2 ?_); (case e1 => walk_at "k"); (case e2 => exact rfl))
  | ((with_reducible refine' w_ixLi (SqL.of ?e1) ?e2 ?e3 ?e4 ?_); (case e1 => walk_at "k"); (case e2 => exact rfl); (case e3 => omega); (case e4 => (simp only [unV, List.length_cons, List.length_nil]; omega)); intro n hn; simp only [unV, List.mem_cons, List.not_mem_nil, or_false] at hn)
  | ((with_reducible refine' w_ixTi (SqT.of ?e1) ?e2 ?e3 ?e4 ?_); (case e1 => walk_at "k"); (case e2 => exact rfl); (case e3 => omega); (case e4 => (simp only [unV, List.length_cons, List.length_nil]; omega)); intro n hn; simp only [unV, List.mem_cons, List.not_mem_nil, or_false] at hn)
  | ((with_reducible refine' w_ixLast (SqL.of ?e1) ?e3 ?_); (case e1 => walk_at "k"); (case e3 => assumption); intro ini n hn)
  | ((with_reducible refine' w_ixLm (SqL.of ?e1) ?e3 ?e4 ?_); (case e1 => walk_at "k"); (case e3 => omega); (case e4 => (first | omega | (simp only [List.length_append, List.length_cons, List.length_nil, List.length_set]; omega))); intro n hn)
  | ((with_reducible refine' w_lenI (SqL.of ?e1) ?_); (case e1 => walk_at "k"))
  | ((with_reducible refine' w_len (SqL.of ?e1) ?_); (case e1 => walk_at "k"))
  | ((with_reducible refine' w_tyL ?e1 ?_); (case e1 => walk_at "k"))
  | ((with_reducible refine' w_appendI ?e1 ?e2 ?_); (case e1 => walk_at "k"); (case e2 => omega))
  | with_reducible refine w_max2 ?_
  | with_reducible refine w_min2 ?_
  | with_reducible refine w_abs ?_
  | with_reducible refine w_intI ?_
  | with_reducible refine w_intB ?_
  | ((with_reducible refine' w_sum (SqL.of ?e1) ?_); (case e1 => walk_at "k"))
  | ((with_reducible refine' w_neNil (SqL.of ?e1) (SqL.of ?e2) ?_); (case e2 => walk_at "k"); (case e1 => walk_at "k"))
  | ((with_reducible refine' w_eqNil (SqL.of ?e1) (SqL.of ?e2) ?_); (case e2 => walk_at "k"); (case e1 => walk_at "k"))
  | ((with_reducible refine' w_eqLI (SqL.of ?e1) (SqL.of ?e2) ?_); (case e1 => walk_at "k"); (case e2 => walk_at "k"))
  | ((with_reducible refine' w_neLI (SqL.of ?e1) (SqL.of ?e2) ?_); (case e1 => walk_at "k"); (case e2 => walk_at "k"))
  | with_reducible refine w_for ?_
  | with_reducible refine w_lc ?_
  | with_reducible refine w_iList ?_
  | with_reducible refine w_iTup ?_
  | ((with_reducible refine' w_iTupE (SqT.of ?e1) ?_); (case e1 => walk_at "k"))
  | with_reducible refine w_rng1 ?_
  | with_reducible refine w_rng2 ?_
  | ((with_reducible refine' w_iListE (SqL.of ?e1) ?_); (case e1 => walk_at "k"))
  | ((with_reducible refine w_rng1E ?_ ?_ ?_); omega; omega)
  | ((with_reducible refine w_rng2E ?_ ?_); omega)
  | with_reducible refine w_fldaug ?_
  | ((with_reducible refine' w_fldP ?e1 ?e2 ?e3 ?e4 ?e5 ?_); (case e1 => walk_at "k"); (case e2 => assumption); (case e3 => assumption); (case e4 => exact Nat.le_of_ble_eq_true rfl); (case e5 => walk_at "fl"))
  | ((with_reducible refine' w_fldA ?e1 ?e2 ?e3 ?e5 ?_); (case e1 => walk_at "k"); (case e2 => assumption); (case e3 => assumption); (case e5 => walk_at "fl"))
  | ((with_reducible refine' w_fldQ ?e1 ?e4 ?e5 ?_); (case e1 => walk_at "k"); (case e4 => exact Nat.le_of_ble_eq_true rfl); (case e5 => walk_at "fl"))
  | ((with_reducible refine' w_fldG ?e1 ?e2 ?e3 ?e5 ?_); (case e1 => walk_at "k"); (case e2 => assumption); (case e3 => assumption); (case e5 => walk_at "fl"))
  | with_reducible refine w_meth ?_
  | ((with_reducible refine' w_methE ?e1 ?e5 ?_); (case e1 => walk_at "k"); (case e5 => walk_at "fl"))
  | with_reducible refine w_prop ?_
  | ((with_reducible refine' w_propE ?e1 ?_); (case e1 => walk_at "k"))
  | with_reducible refine w_make ?_
  | with_reducible refine w_rAdd ?_
  | with_reducible refine w_rSub ?_
  | ((with_reducible refine' w_listof (SqL.of ?e1) ?_); (case e1 => walk_at "k"); intro p np)
  | with_reducible refine w_tYes ?_
  | ((with_reducible refine' w_appEI ?e1 ?e2 ?_); (case e1 => walk_at "k"); (case e2 => omega))
  | ((with_reducible refine' w_appEB ?e1 ?e2 ?_); (case e1 => walk_at "k"); (case e2 => omega))
  | with_reducible refine w_whT ?_
  | with_reducible refine w_lenSet ?_
  | ((with_reducible refine' w_lenSE (SqL.of ?e1) ?e2 ?_); (case e1 => walk_at "k"); (case e2 => omega))
  | ((with_reducible refine' w_isi ?e1 ?e2 ?_); (case e1 => (first | exact .base (.int _) | exact .base .non | exact .base (.bl _) | exact .base (.str _) | (refine' tyx_lst ?f1; (case f1 => walk_at "k")) | (refine' tyx_tup ?f1; (case f1 => walk_at "k")))); (case e2 => (first | exact kit_ty (r := true) (by decide +kernel) | exact kit_ty (r := false) (by decide +kernel))))
  | with_reducible refine w_sortKw ?_
  | ((with_reducible refine' w_sortedKw (SqL.of ?e1) ?_); (case e1 => walk_at "k"); intro ns' p hperm hord np)
  | ((with_reducible refine' w_sortedI (SqL.of ?e1) ?_); (case e1 => walk_at "k"); intro ns' p hperm hord np)
  | ((with_reducible refine' w_extendI ?e1 ?e2 ?e3 ?_); (case e1 => walk_at "k"); (case e2 => walk_at "k"); (case e3 => (first | omega | (simp only [List.length_replicate]; omega))))
  | ((with_reducible refine' w_rep1 ?e1 ?e2 ?e3 ?_); (case e1 => walk_at "k"); (case e2 => omega); (case e3 => omega); intro p np)
  | ((with_reducible refine' w_maxL (SqL.of ?e1) ?e2 ?_); (case e1 => walk_at "k"); (case e2 => (first | omega | (simp; done))); intro m hm hle)
  | ((with_reducible refine' w_minL (SqL.of ?e1) ?e2 ?_); (case e1 => walk_at "k"); (case e2 => (first | omega | (simp; done))); intro m hm hle)
  | ((with_reducible refine' w_catI ?e1 ?e2 ?e3 ?_); (case e1 => walk_at "k"); (case e2 => walk_at "k"); (case e3 => (first | omega | (simp only [List.length_replicate]; omega))); intro p np)
  | ((with_reducible refine' w_catIL ?e1 ?e2 ?e3 ?e4 ?_); (case e1 => walk_at "k"); (case e2 => walk_at "k"); (case e3 => exact rfl); (case e4 => (simp only [unV, List.length_cons, List.length_nil]; omega)); intro p np; dsimp only [unV])
  | ((with_reducible refine' w_catLI ?e1 ?e2 ?e3 ?e4 ?_); (case e1 => walk_at "k"); (case e2 => walk_at "k"); (case e3 => exact rfl); (case e4 => (simp only [unV, List.length_cons, List.length_nil]; omega)); intro p np; dsimp only [unV])
  | with_reducible refine w_callK0 ?_
  | ((with_reducible refine w_kwE ?e1 ?_); (case e1 => exact rfl))
  | with_reducible refine w_makeK ?_
  | ((with_reducible refine w_mkE ?e1 ?_); (case e1 => exact rfl))
  | with_reducible refine w_methK ?_
  | ((with_reducible refine' w_methKE ?e1 ?e5 ?_); (case e1 => walk_at "k"); (case e5 => walk_at "fl"))
  | ((with_reducible refine w_mkwE ?e1 ?_); (case e1 => exact rfl))
  | with_reducible refine w_enum ?_
  | with_reducible refine w_zip ?_
  | with_reducible refine w_gNil ?_
  | with_reducible refine w_gCons ?_
  | ((with_reducible refine' w_gTup (SqT.of ?e1) ?e2 ?_); (case e1 => walk_at "k"); (case e2 => exact rfl))
  | ((with_reducible refine' w_gLst (SqL.of ?e1) ?e2 ?_); (case e1 => walk_at "k"); (case e2 => exact rfl))
  | ((with_reducible refine' w_enumE (SqL.of ?e1) ?_); (case e1 => walk_at "k"))
  | ((with_reducible refine' w_zipE (SqL.of ?e1) (SqL.of ?e2) ?_); (case e1 => walk_at "k"); (case e2 => walk_at "k"))
  | with_reducible refine w_dget ?_
  | ((with_reducible refine' w_dgetE ?e1 ?e5 ?_); (case e1 => walk_at "k"); (case e5 => walk_at "dl"))
  | with_reducible refine w_dput ?_
  | ((with_reducible refine' w_dputE ?e1 ?e4 ?e5 ?_); (case e1 => walk_at "k"); (case e4 => exact Nat.le_of_ble_eq_true rfl); (case e5 => walk_at "dl"))
  | with_reducible refine w_daug ?_
  | ((with_reducible refine' w_daugE ?e1 ?e5 ?_); (case e1 => walk_at "k"); (case e5 => walk_at "dl"))
  | (with_reducible refine w_disp ?_; intro p np)
  | with_reducible refine w_pairN ?_
  | (with_reducible refine w_dnewK ?_; intro p np)
  | with_reducible refine w_dnotIn ?_
  | ((with_reducible refine' w_dnotInE ?e1 ?_); (case e1 => walk_at "k"))
  | with_reducible refine w_pairC ?_
  | ((with_reducible refine' w_dspE ?e1 ?e2 ?e3 ?e4 ?_); (case e1 => walk_at "k"); (case e2 => exact rfl); (case e3 => exact Nat.le_of_ble_eq_true rfl); (case e4 => walk_at "dn"))
  | ((with_reducible refine' w_pop0 ?e1 ?_); (case e1 => walk_at "k"))
  | ((with_reducible refine' w_reprI (log_lt ?e1) ?_); (case e1 => omega))
  | with_reducible refine w_eqS ?_
  | with_reducible refine w_eqB ?_
  | with_reducible refine w_neB ?_
  | with_reducible refine w_neS ?_
  | with_reducible refine w_sl ?_
  | with_reducible refine w_noPart ?_
  | with_reducible refine w_part ?_
  | with_reducible refine w_partE ?_
  | ((with_reducible refine' w_slI (SqL.of ?e1) ?_); (case e1 => walk_at "k"); intro p np)
  | ((with_reducible refine' w_lcount (SqL.of ?e1) ?_); (case e1 => walk_at "k"))
  | ((with_reducible refine' w_popAt ?e1 ?e2 ?e3 ?e4 ?_); (case e1 => walk_at "k"); (case e2 => omega); (case e3 => omega); (case e4 => omega); intro n hn)
  | ((with_reducible refine' w_setLI ?e1 ?e2 ?e3 ?_); (case e1 => walk_at "k"); (case e2 => omega); (case e3 => (first | omega | (simp only [List.length_set]; omega))))
  | ((with_reducible refine' w_catLL ?e1 ?e2 ?e3 ?e4 ?e5 ?_); (case e1 => walk_at "k"); (case e2 => walk_at "k"); (case e3 => exact rfl); (case e4 => exact rfl); (case e5 => exact Nat.le_of_ble_eq_true rfl); intro p np; dsimp only [unV])
  | with_reducible refine w_andV ?_
  | with_reducible refine w_orV ?_
  | with_reducible refine w_notV ?_
  | with_reducible refine w_revL ?_
  | ((with_reducible refine' w_revE (SqL.of ?e1) ?_); (case e1 => walk_at "k"); intro p np)
  | with_reducible refine w_gThen ?_
  | with_reducible refine w_gWh ?_
  | with_reducible refine w_listG ?_
  | with_reducible refine w_callG ?_
  | (with_reducible refine w_listGE ?_; intro p np)
  | with_reducible refine w_gPlain ?_
  | ((with_reducible refine w_gYield ?_ ?_); omega)
  | with_reducible refine w_g0 ?_
  | with_reducible refine w_at ?_
  | with_reducible refine w_rng3 ?_
  | ((with_reducible refine' w_appendR ?e1 ?e2 ?_); (case e1 => walk_at "k"); (case e2 => omega))
  | ((with_reducible refine w_rng3N ?_ ?_); omega)
  | with_reducible refine w_sls ?_
  | with_reducible refine w_isNN ?_
  | with_reducible refine w_isNI ?_
  | with_reducible refine w_isNR ?_
  | with_reducible refine w_notNN ?_
  | with_reducible refine w_notNI ?_
  | with_reducible refine w_notNR ?_
  | with_reducible refine w_orT ?_
  | with_reducible refine w_orN ?_
  | ((with_reducible refine' w_orI ?e1 ?_); (case e1 => omega))
  | ((with_reducible refine' w_rep3 ?e1 ?_); (case e1 => walk_at "k"); intro p np)
  | ((with_reducible refine' w_appV ?e1 ?e2 ?_); (case e1 => walk_at "k"); (case e2 => exact Nat.le_of_ble_eq_true rfl))
  | refine ⟨szle rfl, fun p np => ?_⟩)
local macro_rules | `(tactic| walk_at "g") => `(tactic| repeat walk_at "1")
local macro_rules | `(tactic| walk_at "H") => `(tactic| first | walk_at "k" | fail "heap")
local macro_rules | `(tactic| walk_at "F") => `(tactic| first | walk_at "f" | fail "frame")
local macro_rules | `(tactic| walk_at "Z") => `(tactic| first | walk_at "z" | fail "free")
local macro_rules | `(tactic| walk_at "N") => `(tactic| first | walk_at "n" | fail "differ")
local macro_rules | `(tactic| walk_at "P") => `(tactic| first | walk_at "p" | fail "pool")
local macro_rules | `(tactic| walk_at "G") => `(tactic| first | walk_at "1" | fail "step")
local macro_rules | `(tactic| walk_at "c") => `(tactic| first
  | with_reducible assumption
  | ((with_reducible refine wide_div (b := 400) ?_ ?_ (by decide) (by decide)) <;> omega)
  | ((with_reducible refine wide_mul (a := 400) (b := 400) ?_ ?_ (by decide) (by decide) (by decide)) <;> omega)
  | ((with_reducible refine CPowW.of 400 (by decide) ?_ (by decide) (by decide)); omega)
  | ((with_reducible show (0 : Int) < _); first | decide | omega))
/-! ### steps about exceptions -/
local macro_rules | `(tactic| walk_at "1") => `(tactic| first
  | with_reducible refine w_try ?_
  | with_reducible refine w_callX ?_
  | with_reducible refine w_callXE ?_
  | with_reducible refine w_callXK ?_
  | ((with_reducible refine w_kwXE ?e1 ?_); (case e1 => exact rfl))
  | with_reducible refine w_methX ?_
  | with_reducible refine w_methXK ?_
  | ((with_reducible refine' w_methXE ?e1 ?e5 ?_); (case e1 => walk_at "k"); (case e5 => walk_at "fl"))
  | with_reducible refine w_mrunXE ?_
  | ((with_reducible refine w_mkwXE ?e1 ?_); (case e1 => exact rfl))
  | with_reducible refine w_makeX ?_
  | with_reducible refine w_makeXE ?_
  | with_reducible refine w_makeXK ?_
  | ((with_reducible refine w_makeXKE ?e1 ?_); (case e1 => exact rfl))
  | with_reducible refine w_raise ?_
  | with_reducible refine w_veI ?_
  | with_reducible refine w_ost ?_
  | with_reducible refine w_xfH ?_
  | ((with_reducible refine' w_xfE ?e1 ?e2 ?e3 ?_); (case e1 => walk_at "k"); (case e2 => walk_at "k"); (case e3 => walk_at "xa"))
  | ((with_reducible refine' w_isE ?e1 ?e2 ?e3 ?e4 ?e5 ?_); (case e1 => walk_at "k"); (case e2 => walk_at "k"); (case e3 => walk_at "xa"); (case e4 => (first | exact .ty _ | exact .own _)); (case e5 => walk_at "ki"))
  | ((with_reducible refine' w_isET ?e0 ?e1 ?e2 ?e3 ?e4 ?e5 ?_); (case e0 => walk_at "k"); (case e1 => walk_at "k"); (case e2 => walk_at "k"); (case e3 => walk_at "xa"); (case e4 => walk_at "cl"); (case e5 => walk_at "ka"))
  | ((with_reducible refine' w_listofT (SqT.of ?e1) ?_); (case e1 => walk_at "k"); intro p np)
  | ((with_reducible refine w_caught ?e1 ?_); (case e1 => walk_at "ex"); intro ca nca))
local macro_rules | `(tactic| walk_at "cl") => `(tactic| with_reducible first
  | exact .nil
  | (refine' Paired.cons ?e1 ?e2; (case e1 => (first | exact .ty _ | exact .own _)); (case e2 => walk_at "cl")))
local macro_rules | `(tactic| walk_at "ka") => `(tactic| first
  | exact kit_any_nil
  | (refine' kit_any_no ?e1 ?e2; (case e1 => walk_at "ki"); (case e2 => walk_at "ka"))
  | (refine' kit_any_yes ?e1; (case e1 => walk_at "ki")))
/-! ### steps about generators -/
local macro_rules | `(tactic| walk_at "1") => `(tactic| first
  | with_reducible refine w_methG ?_
  | with_reducible refine w_methGK ?_
  | with_reducible refine w_grunE ?_
  | ((with_reducible refine w_gkwE ?e1 ?_); (case e1 => exact rfl))
  | with_reducible refine w_callGK ?_
  | ((with_reducible refine w_gkw0 ?e1 ?_); (case e1 => exact rfl))
  | with_reducible refine w_gFor ?_
  | with_reducible refine w_listRg ?_
  | with_reducible refine w_rg2 ?_
  | with_reducible refine w_rg1 ?_
  | with_reducible refine w_rg2E ?_
  | with_reducible refine w_rg1E ?_
  | ((with_reducible refine w_rgLE ?e1 ?e2 ?e3 ?e4 ?_); (case e1 => omega); (case e2 => omega); (case e3 => omega); (case e4 => omega); intro p np)
  | with_reducible refine w_forGR ?_
  | with_reducible refine w_methGR ?_
  | with_reducible refine w_grunR ?_
  | with_reducible refine w_cmetX ?_
  | with_reducible refine w_cmetE ?_
  | ((with_reducible refine w_makeLX ?e1 ?_); (case e1 => exact rfl)))
namespace K25
open PySem PySem.Spec PyProof.Rows L2 Pg
def top (i : Nat) : Stmt := PySem.Challenge.pw_pagecounts_k25_equal_live_books.main.body.getD i (.Pass ⟨0, 0, 0, 0⟩)
abbrev s_law_draw : Stmt := (top 18)
abbrev sc_law_draw_N : List Str := ["pool", "many", "drawn", "mixed"]
theorem sc_law_draw : FnScope sc_law_draw_N ["pool", "many"] (defScope s_law_draw) := ⟨rfl, rfl, rfl, by decide +kernel, rfl, by decide +kernel, by decide +kernel⟩
abbrev s_law_length : Stmt := (top 19)
abbrev sc_law_length_N : List Str := ["pool", "far"]
theorem sc_law_length : FnScope sc_law_length_N ["pool", "far"] (defScope s_law_length) := ⟨rfl, rfl, rfl, by decide +kernel, rfl, by decide +kernel, by decide +kernel⟩
abbrev s_law_book : Stmt := (top 20)
abbrev sc_law_book_N : List Str := ["pool", "most", "far", "found", "turn"]
theorem sc_law_book : FnScope sc_law_book_N ["pool", "most", "far"] (defScope s_law_book) := ⟨rfl, rfl, rfl, by decide +kernel, rfl, by decide +kernel, by decide +kernel⟩
abbrev s_law_pool : Stmt := (top 17)
abbrev sc_law_pool_N : List Str := ["script", "at", "cell"]
theorem sc_law_pool : FnScope sc_law_pool_N ["script", "at"] (defScope s_law_pool) := ⟨rfl, rfl, rfl, by decide +kernel, rfl, by decide +kernel, by decide +kernel⟩
abbrev s_chapter_pages : Stmt := (top 8)
abbrev sc_chapter_pages_N : List Str := ["length", "size"]
theorem sc_chapter_pages : FnScope sc_chapter_pages_N ["length", "size"] (defScope s_chapter_pages) := ⟨rfl, rfl, rfl, by decide +kernel, rfl, by decide +kernel, by decide +kernel⟩
abbrev s_count_pages : Stmt := (top 9)
abbrev sc_count_pages_N : List Str := ["book", "size", "length"]
theorem sc_count_pages : FnScope sc_count_pages_N ["book", "size"] (defScope s_count_pages) := ⟨rfl, rfl, rfl, by decide +kernel, rfl, by decide +kernel, by decide +kernel⟩
abbrev s_InvalidBook___init__ : Stmt := (inClass (top 3) 0)
abbrev sc_InvalidBook___init___N : List Str := ["self", "value"]
theorem sc_InvalidBook___init__ : FnScope sc_InvalidBook___init___N ["self", "value"] (defScope s_InvalidBook___init__) := ⟨rfl, rfl, rfl, by decide +kernel, rfl, by decide +kernel, by decide +kernel⟩
abbrev s_check_book : Stmt := (top 7)
abbrev sc_check_book_N : List Str := ["book", "index", "length"]
theorem sc_check_book : FnScope sc_check_book_N ["book"] (defScope s_check_book) := ⟨rfl, rfl, rfl, by decide +kernel, rfl, by decide +kernel, by decide +kernel⟩
abbrev s_LiveBook___init__ : Stmt := (inClass (top 14) 0)
abbrev sc_LiveBook___init___N : List Str := ["self", "book"]
theorem sc_LiveBook___init__ : FnScope sc_LiveBook___init___N ["self", "book"] (defScope s_LiveBook___init__) := ⟨rfl, rfl, rfl, by decide +kernel, rfl, by decide +kernel, by decide +kernel⟩
abbrev s_LiveBook_add : Stmt := (inClass (top 14) 6)
abbrev sc_LiveBook_add_N : List Str := ["self", "lengths"]
theorem sc_LiveBook_add : FnScope sc_LiveBook_add_N ["self", "lengths"] (defScope s_LiveBook_add) := ⟨rfl, rfl, rfl, by decide +kernel, rfl, by decide +kernel, by decide +kernel⟩
abbrev s_LiveBook_book : Stmt := (inClass (top 14) 3)
abbrev sc_LiveBook_book_N : List Str := ["self"]
theorem sc_LiveBook_book : FnScope sc_LiveBook_book_N ["self"] (defScope s_LiveBook_book) := ⟨rfl, rfl, rfl, by decide +kernel, rfl, by decide +kernel, by decide +kernel⟩
abbrev s_InvalidNumber___init__ : Stmt := (inClass (top 4) 0)
abbrev sc_InvalidNumber___init___N : List Str := ["self", "value"]
theorem sc_InvalidNumber___init__ : FnScope sc_InvalidNumber___init___N ["self", "value"] (defScope s_InvalidNumber___init__) := ⟨rfl, rfl, rfl, by decide +kernel, rfl, by decide +kernel, by decide +kernel⟩
abbrev s_NothingToUndo___init__ : Stmt := (inClass (top 5) 0)
abbrev sc_NothingToUndo___init___N : List Str := ["self", "value"]
theorem sc_NothingToUndo___init__ : FnScope sc_NothingToUndo___init___N ["self", "value"] (defScope s_NothingToUndo___init__) := ⟨rfl, rfl, rfl, by decide +kernel, rfl, by decide +kernel, by decide +kernel⟩
abbrev s_sizes_that_differ : Stmt := (top 15)
abbrev sc_sizes_that_differ_N : List Str := ["whole", "parts", "size"]
theorem sc_sizes_that_differ : FnScope sc_sizes_that_differ_N ["whole", "parts"] (defScope s_sizes_that_differ) := ⟨rfl, rfl, rfl, by decide +kernel, rfl, by decide +kernel, by decide +kernel⟩
abbrev s_LiveBook_chapters : Stmt := (inClass (top 14) 4)
abbrev sc_LiveBook_chapters_N : List Str := ["self"]
theorem sc_LiveBook_chapters : FnScope sc_LiveBook_chapters_N ["self"] (defScope s_LiveBook_chapters) := ⟨rfl, rfl, rfl, by decide +kernel, rfl, by decide +kernel, by decide +kernel⟩
abbrev s_LiveBook_lines : Stmt := (inClass (top 14) 5)
abbrev sc_LiveBook_lines_N : List Str := ["self"]
theorem sc_LiveBook_lines : FnScope sc_LiveBook_lines_N ["self"] (defScope s_LiveBook_lines) := ⟨rfl, rfl, rfl, by decide +kernel, rfl, by decide +kernel, by decide +kernel⟩
abbrev s_LiveBook_split : Stmt := (inClass (top 14) 7)
abbrev sc_LiveBook_split_N : List Str := ["self", "chapter", "line", "present", "length", "parts"]
theorem sc_LiveBook_split : FnScope sc_LiveBook_split_N ["self", "chapter", "line"] (defScope s_LiveBook_split) := ⟨rfl, rfl, rfl, by decide +kernel, rfl, by decide +kernel, by decide +kernel⟩
abbrev s_LiveBook_join : Stmt := (inClass (top 14) 8)
abbrev sc_LiveBook_join_N : List Str := ["self", "chapter", "present", "parts"]
theorem sc_LiveBook_join : FnScope sc_LiveBook_join_N ["self", "chapter"] (defScope s_LiveBook_join) := ⟨rfl, rfl, rfl, by decide +kernel, rfl, by decide +kernel, by decide +kernel⟩
abbrev s_LiveBook_undo : Stmt := (inClass (top 14) 9)
abbrev sc_LiveBook_undo_N : List Str := ["self"]
theorem sc_LiveBook_undo : FnScope sc_LiveBook_undo_N ["self"] (defScope s_LiveBook_undo) := ⟨rfl, rfl, rfl, by decide +kernel, rfl, by decide +kernel, by decide +kernel⟩
abbrev s_same_counts : Stmt := (top 11)
abbrev sc_same_counts_N : List Str := ["first", "second"]
theorem sc_same_counts : FnScope sc_same_counts_N ["first", "second"] (defScope s_same_counts) := ⟨rfl, rfl, rfl, by decide +kernel, rfl, by decide +kernel, by decide +kernel⟩
abbrev s_LiveBook___eq__ : Stmt := (inClass (top 14) 1)
abbrev sc_LiveBook___eq___N : List Str := ["self", "other"]
theorem sc_LiveBook___eq__ : FnScope sc_LiveBook___eq___N ["self", "other"] (defScope s_LiveBook___eq__) := ⟨rfl, rfl, rfl, by decide +kernel, rfl, by decide +kernel, by decide +kernel⟩
abbrev s_law_mixed : Stmt := (top 21)
abbrev sc_law_mixed_N : List Str := ["pool", "lengths", "left", "one"]
theorem sc_law_mixed : FnScope sc_law_mixed_N ["pool", "lengths"] (defScope s_law_mixed) := ⟨rfl, rfl, rfl, by decide +kernel, rfl, by decide +kernel, by decide +kernel⟩
abbrev s_law_varied : Stmt := (top 22)
abbrev sc_law_varied_N : List Str := ["pool", "lengths", "found", "way", "at", "other"]
theorem sc_law_varied : FnScope sc_law_varied_N ["pool", "lengths"] (defScope s_law_varied) := ⟨rfl, rfl, rfl, by decide +kernel, rfl, by decide +kernel, by decide +kernel⟩
abbrev s_law_object : Stmt := (top 23)
abbrev sc_law_object_N : List Str := ["pool", "lengths", "way", "live", "one"]
theorem sc_law_object : FnScope sc_law_object_N ["pool", "lengths"] (defScope s_law_object) := ⟨rfl, rfl, rfl, by decide +kernel, rfl, by decide +kernel, by decide +kernel⟩
abbrev s_law_right : Stmt := (top 24)
abbrev sc_law_right_N : List Str := ["pool", "lengths", "one", "turn", "others", "later", "two", "due"]
theorem sc_law_right : FnScope sc_law_right_N ["pool"] (defScope s_law_right) := ⟨rfl, rfl, rfl, by decide +kernel, rfl, by decide +kernel, by decide +kernel⟩
abbrev s_law : Stmt := (top 25)
abbrev sc_law_N : List Str := ["script", "at", "pool", "turn"]
theorem sc_law : FnScope sc_law_N ["script"] (defScope s_law) := ⟨rfl, rfl, rfl, by decide +kernel, rfl, by decide +kernel, by decide +kernel⟩
theorem LiveBook_get_past (a0 : V) : List.lookup ("past" : Str) ([("past", a0)] : List (Str × V)) = some a0 := by
  exact lk_eq
theorem LiveBook_put_past (v : V) (a0 : V) : putF ("past" : Str) v ([("past", a0)] : List (Str × V)) = ([("past", v)] : List (Str × V)) := by
  rw [putF_eq]
theorem LiveBook_ini_past (v : V)  : putF ("past" : Str) v ([] : List (Str × V)) = ([("past", v)] : List (Str × V)) := by
  rfl
theorem LiveBook_no_add (a0 : V) : List.lookup ("add" : Str) ([("past", a0)] : List (Str × V)) = none := by
  rw [lk_ne (by decide +kernel)]
  rfl
theorem LiveBook_no_split (a0 : V) : List.lookup ("split" : Str) ([("past", a0)] : List (Str × V)) = none := by
  rw [lk_ne (by decide +kernel)]
  rfl
theorem LiveBook_no_join (a0 : V) : List.lookup ("join" : Str) ([("past", a0)] : List (Str × V)) = none := by
  rw [lk_ne (by decide +kernel)]
  rfl
theorem LiveBook_no_undo (a0 : V) : List.lookup ("undo" : Str) ([("past", a0)] : List (Str × V)) = none := by
  rw [lk_ne (by decide +kernel)]
  rfl
theorem LiveBook_no___eq__ (a0 : V) : List.lookup ("__eq__" : Str) ([("past", a0)] : List (Str × V)) = none := by
  rw [lk_ne (by decide +kernel)]
  rfl
local macro_rules | `(tactic| walk_at "fl") => `(tactic| first
  | exact LiveBook_get_past _
  | exact LiveBook_put_past _ _
  | exact LiveBook_ini_past _ 
  | exact LiveBook_no_add _
  | exact LiveBook_no_split _
  | exact LiveBook_no_join _
  | exact LiveBook_no_undo _
  | exact LiveBook_no___eq__ _)
/-- where the classes stand -/
structure Cs where
  LiveBook : Addr
  InvalidBook : Addr
  InvalidNumber : Addr
  NothingToUndo : Addr
  BookError : Addr
  nil_ : Unit
/-- what the top has written -/
structure Txt (K : PySem.W.Frag) (mg : Str → Option Value) (c : Cs) : Prop where
  triv_ : True
  n_abs : mg "abs" = none
  n_enumerate : mg "enumerate" = none
  n_isinstance : mg "isinstance" = none
  n_len : mg "len" = none
  n_list : mg "list" = none
  n_max : mg "max" = none
  n_min : mg "min" = none
  n_range : mg "range" = none
  n_sorted : mg "sorted" = none
  n_sum : mg "sum" = none
  c_MOST_SIZE : ∃ t, mg "MOST_SIZE" = some (.int 100 t)
  k_LiveBook : ClsAt K mg "LiveBook" c.LiveBook
  na_LiveBook_past : NoAttr K c.LiveBook "past"
  q_LiveBook : EqCls K c.LiveBook
  xb_ : ExBase K mg "BookError" c.BookError
  xd_ : PySem.W.hasDictIn K c.BookError = true
  xt_ : PySem.W.typeIn K (.ref c.BookError) = some (.type "type")
  xe_ : PySem.W.subIn K (.ref c.BookError) (.type "BaseException") = some true
  x_InvalidBook : ExAt K mg "InvalidBook" c.InvalidBook
  x_InvalidNumber : ExAt K mg "InvalidNumber" c.InvalidNumber
  x_NothingToUndo : ExAt K mg "NothingToUndo" c.NothingToUndo
  sb_InvalidBook_InvalidBook : PySem.W.subIn K (.ref c.InvalidBook) (.ref c.InvalidBook) = some true
  sb_InvalidBook_InvalidNumber : PySem.W.subIn K (.ref c.InvalidBook) (.ref c.InvalidNumber) = some false
  sb_InvalidBook_NothingToUndo : PySem.W.subIn K (.ref c.InvalidBook) (.ref c.NothingToUndo) = some false
  sb_InvalidBook_BookError : PySem.W.subIn K (.ref c.InvalidBook) (.ref c.BookError) = some true
  sb_InvalidBook_ValueError : PySem.W.subIn K (.ref c.InvalidBook) (.type "ValueError") = some true
  sb_InvalidNumber_InvalidBook : PySem.W.subIn K (.ref c.InvalidNumber) (.ref c.InvalidBook) = some false
  sb_InvalidNumber_InvalidNumber : PySem.W.subIn K (.ref c.InvalidNumber) (.ref c.InvalidNumber) = some true
  sb_InvalidNumber_NothingToUndo : PySem.W.subIn K (.ref c.InvalidNumber) (.ref c.NothingToUndo) = some false
  sb_InvalidNumber_BookError : PySem.W.subIn K (.ref c.InvalidNumber) (.ref c.BookError) = some true
  sb_InvalidNumber_ValueError : PySem.W.subIn K (.ref c.InvalidNumber) (.type "ValueError") = some true
  sb_NothingToUndo_InvalidBook : PySem.W.subIn K (.ref c.NothingToUndo) (.ref c.InvalidBook) = some false
  sb_NothingToUndo_InvalidNumber : PySem.W.subIn K (.ref c.NothingToUndo) (.ref c.InvalidNumber) = some false
  sb_NothingToUndo_NothingToUndo : PySem.W.subIn K (.ref c.NothingToUndo) (.ref c.NothingToUndo) = some true
  sb_NothingToUndo_BookError : PySem.W.subIn K (.ref c.NothingToUndo) (.ref c.BookError) = some true
  sb_NothingToUndo_ValueError : PySem.W.subIn K (.ref c.NothingToUndo) (.type "ValueError") = some true
  f_law_draw : FunAt K mg "_law_draw" s_law_draw
  f_law_length : FunAt K mg "_law_length" s_law_length
  f_law_book : FunAt K mg "_law_book" s_law_book
  f_law_pool : FunAt K mg "_law_pool" s_law_pool
  f_chapter_pages : FunAt K mg "chapter_pages" s_chapter_pages
  f_count_pages : FunAt K mg "count_pages" s_count_pages
  f_InvalidBook___init__ : MethAt K c.InvalidBook "__init__" "InvalidBook.__init__" s_InvalidBook___init__
  f_check_book : FunAt K mg "check_book" s_check_book
  f_LiveBook___init__ : MethAt K c.LiveBook "__init__" "LiveBook.__init__" s_LiveBook___init__
  f_LiveBook_add : MethAt K c.LiveBook "add" "LiveBook.add" s_LiveBook_add
  f_LiveBook_book : PropAt K c.LiveBook "book" "LiveBook.book" s_LiveBook_book
  f_InvalidNumber___init__ : MethAt K c.InvalidNumber "__init__" "InvalidNumber.__init__" s_InvalidNumber___init__
  f_NothingToUndo___init__ : MethAt K c.NothingToUndo "__init__" "NothingToUndo.__init__" s_NothingToUndo___init__
  f_sizes_that_differ : FunAt K mg "sizes_that_differ" s_sizes_that_differ
  f_LiveBook_chapters : PropAt K c.LiveBook "chapters" "LiveBook.chapters" s_LiveBook_chapters
  f_LiveBook_lines : PropAt K c.LiveBook "lines" "LiveBook.lines" s_LiveBook_lines
  f_LiveBook_split : MethAt K c.LiveBook "split" "LiveBook.split" s_LiveBook_split
  f_LiveBook_join : MethAt K c.LiveBook "join" "LiveBook.join" s_LiveBook_join
  f_LiveBook_undo : MethAt K c.LiveBook "undo" "LiveBook.undo" s_LiveBook_undo
  f_same_counts : FunAt K mg "same_counts" s_same_counts
  f_LiveBook___eq__ : MethAt K c.LiveBook "__eq__" "LiveBook.__eq__" s_LiveBook___eq__
  f_law_mixed : FunAt K mg "_law_mixed" s_law_mixed
  f_law_varied : FunAt K mg "_law_varied" s_law_varied
  f_law_object : FunAt K mg "_law_object" s_law_object
  f_law_right : FunAt K mg "_law_right" s_law_right
  f_law : FunAt K mg "law" s_law
theorem kit_InvalidBook_InvalidBook {K : PySem.W.Frag} {mg : Str → Option Value} {c : Cs} (T : Txt K mg c) : PySem.W.kitOne K (.ref c.InvalidBook) (.ref c.InvalidBook) = some true := kit_ex T.x_InvalidBook.hd T.x_InvalidBook.o.tyC T.sb_InvalidBook_InvalidBook T.sb_InvalidBook_InvalidBook
theorem exm_InvalidBook_InvalidBook {K : PySem.W.Frag} {mg : Str → Option Value} {c : Cs} (T : Txt K mg c) : PySem.W.exmOne K (.ref c.InvalidBook) (.ref c.InvalidBook) = some true := PySem.W.exm_ref T.x_InvalidBook.o.exC T.x_InvalidBook.hd T.x_InvalidBook.o.tyC T.sb_InvalidBook_InvalidBook
theorem kit_InvalidBook_InvalidNumber {K : PySem.W.Frag} {mg : Str → Option Value} {c : Cs} (T : Txt K mg c) : PySem.W.kitOne K (.ref c.InvalidBook) (.ref c.InvalidNumber) = some false := kit_ex T.x_InvalidNumber.hd T.x_InvalidNumber.o.tyC T.sb_InvalidBook_InvalidBook T.sb_InvalidBook_InvalidNumber
theorem exm_InvalidBook_InvalidNumber {K : PySem.W.Frag} {mg : Str → Option Value} {c : Cs} (T : Txt K mg c) : PySem.W.exmOne K (.ref c.InvalidBook) (.ref c.InvalidNumber) = some false := PySem.W.exm_ref T.x_InvalidNumber.o.exC T.x_InvalidNumber.hd T.x_InvalidNumber.o.tyC T.sb_InvalidBook_InvalidNumber
theorem kit_InvalidBook_NothingToUndo {K : PySem.W.Frag} {mg : Str → Option Value} {c : Cs} (T : Txt K mg c) : PySem.W.kitOne K (.ref c.InvalidBook) (.ref c.NothingToUndo) = some false := kit_ex T.x_NothingToUndo.hd T.x_NothingToUndo.o.tyC T.sb_InvalidBook_InvalidBook T.sb_InvalidBook_NothingToUndo
theorem exm_InvalidBook_NothingToUndo {K : PySem.W.Frag} {mg : Str → Option Value} {c : Cs} (T : Txt K mg c) : PySem.W.exmOne K (.ref c.InvalidBook) (.ref c.NothingToUndo) = some false := PySem.W.exm_ref T.x_NothingToUndo.o.exC T.x_NothingToUndo.hd T.x_NothingToUndo.o.tyC T.sb_InvalidBook_NothingToUndo
theorem kit_InvalidBook_BookError {K : PySem.W.Frag} {mg : Str → Option Value} {c : Cs} (T : Txt K mg c) : PySem.W.kitOne K (.ref c.InvalidBook) (.ref c.BookError) = some true := kit_ex T.xd_ T.xt_ T.sb_InvalidBook_InvalidBook T.sb_InvalidBook_BookError
theorem exm_InvalidBook_BookError {K : PySem.W.Frag} {mg : Str → Option Value} {c : Cs} (T : Txt K mg c) : PySem.W.exmOne K (.ref c.InvalidBook) (.ref c.BookError) = some true := PySem.W.exm_ref T.xe_ T.xd_ T.xt_ T.sb_InvalidBook_BookError
theorem kit_InvalidBook_ValueError {K : PySem.W.Frag} {mg : Str → Option Value} {c : Cs} (T : Txt K mg c) : PySem.W.kitOne K (.ref c.InvalidBook) (.type "ValueError") = some true := kit_exT (by decide +kernel) T.sb_InvalidBook_ValueError
theorem kit_InvalidNumber_InvalidBook {K : PySem.W.Frag} {mg : Str → Option Value} {c : Cs} (T : Txt K mg c) : PySem.W.kitOne K (.ref c.InvalidNumber) (.ref c.InvalidBook) = some false := kit_ex T.x_InvalidBook.hd T.x_InvalidBook.o.tyC T.sb_InvalidNumber_InvalidNumber T.sb_InvalidNumber_InvalidBook
theorem exm_InvalidNumber_InvalidBook {K : PySem.W.Frag} {mg : Str → Option Value} {c : Cs} (T : Txt K mg c) : PySem.W.exmOne K (.ref c.InvalidNumber) (.ref c.InvalidBook) = some false := PySem.W.exm_ref T.x_InvalidBook.o.exC T.x_InvalidBook.hd T.x_InvalidBook.o.tyC T.sb_InvalidNumber_InvalidBook
theorem kit_InvalidNumber_InvalidNumber {K : PySem.W.Frag} {mg : Str → Option Value} {c : Cs} (T : Txt K mg c) : PySem.W.kitOne K (.ref c.InvalidNumber) (.ref c.InvalidNumber) = some true := kit_ex T.x_InvalidNumber.hd T.x_InvalidNumber.o.tyC T.sb_InvalidNumber_InvalidNumber T.sb_InvalidNumber_InvalidNumber
theorem exm_InvalidNumber_InvalidNumber {K : PySem.W.Frag} {mg : Str → Option Value} {c : Cs} (T : Txt K mg c) : PySem.W.exmOne K (.ref c.InvalidNumber) (.ref c.InvalidNumber) = some true := PySem.W.exm_ref T.x_InvalidNumber.o.exC T.x_InvalidNumber.hd T.x_InvalidNumber.o.tyC T.sb_InvalidNumber_InvalidNumber
theorem kit_InvalidNumber_NothingToUndo {K : PySem.W.Frag} {mg : Str → Option Value} {c : Cs} (T : Txt K mg c) : PySem.W.kitOne K (.ref c.InvalidNumber) (.ref c.NothingToUndo) = some false := kit_ex T.x_NothingToUndo.hd T.x_NothingToUndo.o.tyC T.sb_InvalidNumber_InvalidNumber T.sb_InvalidNumber_NothingToUndo
theorem exm_InvalidNumber_NothingToUndo {K : PySem.W.Frag} {mg : Str → Option Value} {c : Cs} (T : Txt K mg c) : PySem.W.exmOne K (.ref c.InvalidNumber) (.ref c.NothingToUndo) = some false := PySem.W.exm_ref T.x_NothingToUndo.o.exC T.x_NothingToUndo.hd T.x_NothingToUndo.o.tyC T.sb_InvalidNumber_NothingToUndo
theorem kit_InvalidNumber_BookError {K : PySem.W.Frag} {mg : Str → Option Value} {c : Cs} (T : Txt K mg c) : PySem.W.kitOne K (.ref c.InvalidNumber) (.ref c.BookError) = some true := kit_ex T.xd_ T.xt_ T.sb_InvalidNumber_InvalidNumber T.sb_InvalidNumber_BookError
theorem exm_InvalidNumber_BookError {K : PySem.W.Frag} {mg : Str → Option Value} {c : Cs} (T : Txt K mg c) : PySem.W.exmOne K (.ref c.InvalidNumber) (.ref c.BookError) = some true := PySem.W.exm_ref T.xe_ T.xd_ T.xt_ T.sb_InvalidNumber_BookError
theorem kit_InvalidNumber_ValueError {K : PySem.W.Frag} {mg : Str → Option Value} {c : Cs} (T : Txt K mg c) : PySem.W.kitOne K (.ref c.InvalidNumber) (.type "ValueError") = some true := kit_exT (by decide +kernel) T.sb_InvalidNumber_ValueError
theorem kit_NothingToUndo_InvalidBook {K : PySem.W.Frag} {mg : Str → Option Value} {c : Cs} (T : Txt K mg c) : PySem.W.kitOne K (.ref c.NothingToUndo) (.ref c.InvalidBook) = some false := kit_ex T.x_InvalidBook.hd T.x_InvalidBook.o.tyC T.sb_NothingToUndo_NothingToUndo T.sb_NothingToUndo_InvalidBook
theorem exm_NothingToUndo_InvalidBook {K : PySem.W.Frag} {mg : Str → Option Value} {c : Cs} (T : Txt K mg c) : PySem.W.exmOne K (.ref c.NothingToUndo) (.ref c.InvalidBook) = some false := PySem.W.exm_ref T.x_InvalidBook.o.exC T.x_InvalidBook.hd T.x_InvalidBook.o.tyC T.sb_NothingToUndo_InvalidBook
theorem kit_NothingToUndo_InvalidNumber {K : PySem.W.Frag} {mg : Str → Option Value} {c : Cs} (T : Txt K mg c) : PySem.W.kitOne K (.ref c.NothingToUndo) (.ref c.InvalidNumber) = some false := kit_ex T.x_InvalidNumber.hd T.x_InvalidNumber.o.tyC T.sb_NothingToUndo_NothingToUndo T.sb_NothingToUndo_InvalidNumber
theorem exm_NothingToUndo_InvalidNumber {K : PySem.W.Frag} {mg : Str → Option Value} {c : Cs} (T : Txt K mg c) : PySem.W.exmOne K (.ref c.NothingToUndo) (.ref c.InvalidNumber) = some false := PySem.W.exm_ref T.x_InvalidNumber.o.exC T.x_InvalidNumber.hd T.x_InvalidNumber.o.tyC T.sb_NothingToUndo_InvalidNumber
theorem kit_NothingToUndo_NothingToUndo {K : PySem.W.Frag} {mg : Str → Option Value} {c : Cs} (T : Txt K mg c) : PySem.W.kitOne K (.ref c.NothingToUndo) (.ref c.NothingToUndo) = some true := kit_ex T.x_NothingToUndo.hd T.x_NothingToUndo.o.tyC T.sb_NothingToUndo_NothingToUndo T.sb_NothingToUndo_NothingToUndo
theorem exm_NothingToUndo_NothingToUndo {K : PySem.W.Frag} {mg : Str → Option Value} {c : Cs} (T : Txt K mg c) : PySem.W.exmOne K (.ref c.NothingToUndo) (.ref c.NothingToUndo) = some true := PySem.W.exm_ref T.x_NothingToUndo.o.exC T.x_NothingToUndo.hd T.x_NothingToUndo.o.tyC T.sb_NothingToUndo_NothingToUndo
theorem kit_NothingToUndo_BookError {K : PySem.W.Frag} {mg : Str → Option Value} {c : Cs} (T : Txt K mg c) : PySem.W.kitOne K (.ref c.NothingToUndo) (.ref c.BookError) = some true := kit_ex T.xd_ T.xt_ T.sb_NothingToUndo_NothingToUndo T.sb_NothingToUndo_BookError
theorem exm_NothingToUndo_BookError {K : PySem.W.Frag} {mg : Str → Option Value} {c : Cs} (T : Txt K mg c) : PySem.W.exmOne K (.ref c.NothingToUndo) (.ref c.BookError) = some true := PySem.W.exm_ref T.xe_ T.xd_ T.xt_ T.sb_NothingToUndo_BookError
theorem kit_NothingToUndo_ValueError {K : PySem.W.Frag} {mg : Str → Option Value} {c : Cs} (T : Txt K mg c) : PySem.W.kitOne K (.ref c.NothingToUndo) (.type "ValueError") = some true := kit_exT (by decide +kernel) T.sb_NothingToUndo_ValueError
local macro_rules | `(tactic| walk_at "ki") => `(tactic| first
  | exact kit_InvalidBook_InvalidBook (by assumption)
  | exact kit_InvalidBook_InvalidNumber (by assumption)
  | exact kit_InvalidBook_NothingToUndo (by assumption)
  | exact kit_InvalidBook_BookError (by assumption)
  | exact kit_InvalidBook_ValueError (by assumption)
  | exact kit_InvalidNumber_InvalidBook (by assumption)
  | exact kit_InvalidNumber_InvalidNumber (by assumption)
  | exact kit_InvalidNumber_NothingToUndo (by assumption)
  | exact kit_InvalidNumber_BookError (by assumption)
  | exact kit_InvalidNumber_ValueError (by assumption)
  | exact kit_NothingToUndo_InvalidBook (by assumption)
  | exact kit_NothingToUndo_InvalidNumber (by assumption)
  | exact kit_NothingToUndo_NothingToUndo (by assumption)
  | exact kit_NothingToUndo_BookError (by assumption)
  | exact kit_NothingToUndo_ValueError (by assumption))
local macro_rules | `(tactic| walk_at "ex") => `(tactic| first
  | exact exm_InvalidBook_InvalidBook (by assumption)
  | exact exm_InvalidBook_BookError (by assumption)
  | exact exm_InvalidNumber_InvalidNumber (by assumption)
  | exact exm_InvalidNumber_BookError (by assumption)
  | exact exm_NothingToUndo_NothingToUndo (by assumption)
  | exact exm_NothingToUndo_BookError (by assumption))
local macro_rules | `(tactic| walk_at "xa") => `(tactic| first
  | exact Txt.x_InvalidBook (by assumption)
  | exact Txt.x_InvalidNumber (by assumption)
  | exact Txt.x_NothingToUndo (by assumption))
def spLaw (K : PySem.W.Frag) : Sp := fun vs H Q _ => ∃ (a : Addr) (ns : List Int), vs = [.ref a] ∧ SqL K H a (ns.map V.int) ∧ ns.length ≤ 63 ∧ ∀ H', Q (.bl true) H'
section
variable {P : Program} {w : World} {K : PySem.W.Frag} {mg : Str → Option Value} {base : Heap} {c : Cs}

/-- a pool at a: what is left of the cell, the mixing number, how many numbers were mixed -/
def Pool (H : Hp) (a : Addr) (n : Int) : Prop := ∃ d m : Int, H a = some (.lst [.int d, .int m, .int n]) ∧ 0 ≤ m ∧ m < 2 ^ 64 ∧ 0 ≤ n
theorem Pool.new {H : Hp} {a p : Addr} {n : Int} {o : HO} (h : Pool H a n) (np : H p = none) : Pool (upd H p o) a n := by
  obtain ⟨d, m, h1, h2⟩ := h
  exact ⟨d, m, at_upd h1 np, h2⟩
theorem Pool.make {H : Hp} {a p dx : Addr} {n : Int} {o u : HO} (h : Pool H a n) (n1 : H dx = none) (n2 : H p = none) : Pool (upd (upd H dx u) p o) a n := by
  obtain ⟨d, m, h1, h2⟩ := h
  exact ⟨d, m, at_make h1 n1 n2, h2⟩
theorem Pool.ne {H : Hp} {a p : Addr} {n : Int} (h : Pool H a n) (np : H p = none) : p ≠ a := by
  obtain ⟨d, m, h1, h2⟩ := h
  exact (ne_of_none h1 np).symm
theorem Pool.fr {H H' : Hp} {a : Addr} {n : Int} {S : List Addr} (h : Pool H a n) (f : Fr S H H') (ns : a ∉ S) : Pool H' a n := by
  obtain ⟨d, m, h1, h2⟩ := h
  exact ⟨d, m, f.at ns h1, h2⟩
def spDraw : Sp := fun vs H Q _ => ∃ (a : Addr) (k n : Int), vs = [.ref a, .int n] ∧ Pool H a k ∧ 0 < n ∧ n < 2 ^ 300 ∧ k < 2 ^ 40 ∧
  ∀ (r k' : Int) (H' : Hp), 0 ≤ r → r < n → k' ≤ k + 1 → Pool H' a k' → Fr [a] H H' → Q (.int r) H'
theorem spDraw.go {H : Hp} {a : Addr} {k n : Int} {Q : VK} {E : XK} (p : Pool H a k) (n0 : 0 < n) (n1 : n < 2 ^ 300) (k1 : k < 2 ^ 40)
    (h : ∀ (r k' : Int) (H' : Hp), 0 ≤ r → r < n → k' ≤ k + 1 → Pool H' a k' → Fr [a] H H' → Q (.int r) H') : spDraw ([.ref a, .int n] ++ []) H Q E := ⟨a, k, n, rfl, p, n0, n1, k1, h⟩
theorem Pool.put {H : Hp} {a p : Addr} {n : Int} {o : HO} (h : Pool H a n) (np : p ≠ a) : Pool (upd H p o) a n := by
  obtain ⟨d, m, h1, h2⟩ := h
  exact ⟨d, m, by rw [upd_ne np.symm]; exact h1, h2⟩
/-- a drawn length -/
def spLength : Sp := fun vs H Q _ => ∃ (a : Addr) (k n : Int), vs = [.ref a, .int n] ∧ Pool H a k ∧ 0 < n ∧ n < 2 ^ 300 ∧ k < 2 ^ 39 ∧
  ∀ (r k' : Int) (H' : Hp), 1 ≤ r → (r ≤ n ∨ r ≤ 200) → k' ≤ k + 2 → Pool H' a k' → Fr [a] H H' → Q (.int r) H'
local macro_rules | `(tactic| walk_at "p") => `(tactic| first
  | assumption
  | (refine' Pool.make ?e2 ?e1 ?e3; (case e1 => assumption); (case e3 => assumption); (case e2 => walk_at "p"))
  | (refine' Pool.new ?e2 ?e1; (case e1 => assumption); (case e2 => walk_at "p"))
  | (refine' Pool.put ?e2 ?e1; (case e1 => walk_at "n"); (case e2 => walk_at "p"))
  | (refine' Pool.fr ?e2 ?e1 ?e3; (case e1 => assumption); (case e3 => exact List.not_mem_nil); (case e2 => walk_at "p"))
  | (refine' Pool.fr ?e2 ?e1 (nn2 ?e3); (case e1 => assumption); (case e3 => walk_at "n"); (case e2 => walk_at "p")))
local macro_rules | `(tactic| walk_at "n") => `(tactic| first
  | assumption
  | exact Ne.symm (by assumption)
  | (refine' Pool.ne ?e2 ?e1; (case e1 => assumption); (case e2 => walk_at "p"))
  | (refine' Ne.symm (Pool.ne ?e2 ?e1); (case e1 => assumption); (case e2 => walk_at "p")))
local macro_rules | `(tactic| walk_at "1") => `(tactic| ((with_reducible refine' spDraw.go ?e1 ?e2 ?e3 ?e4 ?_); (case e1 => walk_at "p"); (case e2 => omega); (case e3 => omega); (case e4 => omega); intro r k' H' r0 r1 rk rp rf))
/-- a drawn book -/
def spBook : Sp := fun vs H Q _ => ∃ (a : Addr) (k m n : Int), vs = [.ref a, .int m, .int n] ∧ Pool H a k ∧ 0 ≤ m ∧ m ≤ 100 ∧ 0 < n ∧ n < 2 ^ 300 ∧ k < 2 ^ 38 ∧
  ∀ (p : Addr) (xs : List Int) (k' : Int) (H' : Hp), xs.length ≤ m.toNat → (∀ x ∈ xs, 1 ≤ x ∧ (x ≤ n ∨ x ≤ 200)) → k' ≤ k + 401 → Pool H' a k' → Fr [a] H H' → H p = none → H' p = some (.lst (xs.map V.int)) → Q (.ref p) H'
set_option maxHeartbeats 4000000 in
theorem ok_law_draw (T : Txt K mg c) : DefAt P w K mg base "_law_draw" s_law_draw 1 ["pool", "many"] spDraw := by
  have cls_LiveBook := T.k_LiveBook.c
  have na_LiveBook_past := T.na_LiveBook_past
  refine T.f_law_draw.ok sc_law_draw (fun vs H Q E h => ?_) (fun _ _ _ _ _ _ us hl => match us, hl with | [_, _], _ => rfl) (fun f cdv A outer s H vs Q E hr h => ?_)
  · obtain ⟨a, k, n, rfl, ⟨d, m, ha, m0, m1, c0⟩, n0, n1, c1, q⟩ := h
    rfl
  · obtain ⟨a, k, n, rfl, ⟨d, m, ha, m0, m1, c0⟩, n0, n1, c1, q⟩ := h
    refine ⟨_, (pss_cons (ps_if (pt_cmpR op_gt (pe_ix ix_list (pv 0) pe_int (fun _ _ => rfl)) pe_int (nomark _)) (pss_cons (ps_set (i := 2) sc_law_draw.nd rfl (Or.inl rfl) (pe_op op_mod (pe_ix ix_list (pv 0) pe_int (fun _ _ => rfl)) (pv 1)))
    (pss_cons (ps_asg (pe_op op_fdivW (pe_ix ix_list (pv 0) pe_int (fun _ _ => rfl)) (pv 1)) (pg_sub (pv 0) pe_int set_list))
    (pss_one (ps_ret (pv 2))))) pss_nil)
    (pss_cons (ps_asg (pe_op op_add (pe_ix ix_list (pv 0) pe_int (fun _ _ => rfl)) pe_int) (pg_sub (pv 0) pe_int set_list))
    (pss_cons (ps_set (i := 3) sc_law_draw.nd rfl (Or.inl rfl) (pe_op op_mod (pe_op op_powW (pe_op op_add (pe_ix ix_list (pv 0) pe_int (fun _ _ => rfl)) (pe_op op_mulW pe_int (pe_ix ix_list (pv 0) pe_int (fun _ _ => rfl)))) pe_int) pe_int))
    (pss_cons (ps_set (i := 3) sc_law_draw.nd rfl (Or.inl rfl) (pe_op op_mod (pe_op op_powW (pe_op op_add (pv 3) (pe_op op_mulW pe_int (pe_ix ix_list (pv 0) pe_int (fun _ _ => rfl)))) pe_int) pe_int))
    (pss_one (ps_ret (pe_op op_mod (pe_op op_fdivW (pv 3) pe_int) (pv 1)))))))), ?_⟩
    refine w_start (σ' := [some (.ref a), some (.int n), none, none]) rfl ?_
    walk_at "g"
    refine w_ite (fun hd => ?_) (fun hd => ?_)
    · walk_at "g"
      exact q _ k _ (Int.emod_nonneg _ (by omega)) (Int.emod_lt_of_pos _ n0) (by omega) ⟨_, _, upd_same, m0, m1, c0⟩ (Fr.refl.put (.inr (by simp)))
    · walk_at "g"
      exact q _ (k + 1) _ (Int.emod_nonneg _ (by omega)) (Int.emod_lt_of_pos _ n0) (by omega) ⟨_, _, upd_same, m0, m1, by omega⟩ (Fr.refl.put (.inr (by simp)))
set_option maxHeartbeats 4000000 in
theorem ok_law_length (T : Txt K mg c) : DefAt P w K mg base "_law_length" s_law_length 2 ["pool", "far"] spLength := by
  have D_law_draw := ok_law_draw (P := P) (w := w) (base := base) T
  have cls_LiveBook := T.k_LiveBook.c
  have na_LiveBook_past := T.na_LiveBook_past
  refine T.f_law_length.ok sc_law_length (fun vs H Q E h => ?_) (fun _ _ _ _ _ _ us hl => match us, hl with | [_, _], _ => rfl) (fun f cdv A outer s H vs Q E hr h => ?_)
  · obtain ⟨a, k, n, rfl, hp, n0, n1, k1, q⟩ := h
    rfl
  · obtain ⟨a, k, n, rfl, hp, n0, n1, k1, q⟩ := h
    refine ⟨_, (pss_one (ps_ret (pe_op op_add pe_int (pe_callD D_law_draw (hr.mono (by decide)) (pa_cons (pv 0) (pa_cons (pe_ix ix_list (pe_lst (pa_cons pe_int (pa_cons pe_int (pa_cons pe_int (pa_cons (pv 1) pa_nil))))) (pe_callD D_law_draw (hr.mono (by decide)) (pa_cons (pv 0) (pa_cons pe_int pa_nil))) (fun _ _ => rfl)) pa_nil)))))), ?_⟩
    refine w_start (σ' := [some (.ref a), some (.int n)]) rfl ?_
    walk_at "g"
    rename_i p np r2 k2 H2 ra rb rk2 rp2 rf2 z hz r k3 H3 r0 r1 rk rp rf
    exact q _ k3 _ (by omega) (by omega) (by omega) rp (by walk_at "F")
set_option maxHeartbeats 4000000 in
theorem ok_law_book (T : Txt K mg c) : DefAt P w K mg base "_law_book" s_law_book 3 ["pool", "most", "far"] spBook := by
  have D_law_draw := ok_law_draw (P := P) (w := w) (base := base) T
  have D_law_length := ok_law_length (P := P) (w := w) (base := base) T
  have cls_LiveBook := T.k_LiveBook.c
  have na_LiveBook_past := T.na_LiveBook_past
  refine T.f_law_book.ok sc_law_book (fun vs H Q E h => ?_) (fun _ _ _ _ _ _ us hl => match us, hl with | [_, _, _], _ => rfl) (fun f cdv A outer s H vs Q E hr h => ?_)
  · obtain ⟨a, k, m, n, rfl, hp, m0, m1, n0, n1, k1, q⟩ := h
    rfl
  · obtain ⟨a, k, m, n, rfl, hp, m0, m1, n0, n1, k1, q⟩ := h
    refine ⟨_, (pss_cons (ps_set (i := 3) sc_law_book.nd rfl (Or.inl rfl) (pe_lst pa_nil))
    (pss_cons (ps_for PassesOwn.never rfl (pi_range1 (by rfl) T.n_range (pa_cons (pe_callD D_law_draw (hr.mono (by decide)) (pa_cons (pv 0) (pa_cons (pe_op op_add (pv 1) pe_int) pa_nil))) pa_nil)) (pg_name (i := 4) sc_law_book.nd rfl (Or.inl rfl)) (pss_one (ps_if (PW.pt (pw_and (pt_cmpR (op_neD hr.units) (pv 3) (pe_lst pa_nil) (nomark _)) (pw_and1 (pt_cmpR op_eq (pe_callD D_law_draw (hr.mono (by decide)) (pa_cons (pv 0) (pa_cons pe_int pa_nil))) pe_int (nomark _))))) (pss_one (ps_expr (pe_bm PySem.F.plainAttrs_list PySem.F.slot_list_append PySem.F.type_list_append mt_append (pv 3) (pa_cons (pe_ix ix_list (pv 3) (pe_callD D_law_draw (hr.mono (by decide)) (pa_cons (pv 0) (pa_cons (pe_callB call_lenN (by rfl) T.n_len (by decide +kernel) (pa_cons (pv 3) pa_nil)) pa_nil))) (fun _ _ => rfl)) pa_nil)))) (pss_one (ps_expr (pe_bm PySem.F.plainAttrs_list PySem.F.slot_list_append PySem.F.type_list_append mt_append (pv 3) (pa_cons (pe_callD D_law_length (hr.mono (by decide)) (pa_cons (pv 0) (pa_cons (pv 2) pa_nil))) pa_nil)))))))
    (pss_one (ps_ret (pv 3))))), ?_⟩
    refine w_start (σ' := [some (.ref a), some (.int m), some (.int n), none, none]) rfl ?_
    walk_at "g"
    rename_i p np r k2 H2 r0 r1 rk rp rf
    refine f_range (fun i σ' H3 => ∃ (v : Option V) (xs : List Int) (k3 : Int), σ' = [some (.ref a), some (.int m), some (.int n), some (.ref p), v] ∧ Pool H3 a k3 ∧ k3 ≤ k + 1 + 4 * i ∧ Fr [a] H H3 ∧ H3 p = some (.lst (xs.map V.int)) ∧ xs.length = i ∧ ∀ x ∈ xs, 1 ≤ x ∧ (x ≤ n ∨ x ≤ 200)) ?_ ?_ ?_
    · exact ⟨none, [], k2, rfl, rp, by omega, by walk_at "F", (by walk_at "H" : H2 p = some (.lst [])), rfl, by simp⟩
    · rintro i σ' H3 hi ⟨v, xs, k3, rfl, hp3, hk3, hf3, h3, hl, hx⟩
      walk_at "g"
      refine w_iteN (fun hne => ?_) (fun he => ?_)
      · have hpos := List.length_pos_iff.mpr hne
        walk_at "g"
        refine w_ite (fun h0 => ?_) (fun h0 => ?_)
        · walk_at "g"
          rename_i x hx'
          exact ⟨_, xs ++ [x], _, rfl, by walk_at "P", by omega, by walk_at "F", upd_same, len_snoc hl, mem_snoc hx (hx x (List.mem_of_getElem? hx'))⟩
        · walk_at "g"
          refine ⟨a, _, n, rfl, by walk_at "P", n0, n1, by omega, fun x k4 H4 x0 x1 kk pp ff => ?_⟩
          walk_at "g"
          exact ⟨_, xs ++ [x], _, rfl, by walk_at "P", by omega, by walk_at "F", upd_same, len_snoc hl, mem_snoc hx ⟨x0, x1⟩⟩
      · walk_at "g"
        refine ⟨a, _, n, rfl, by walk_at "P", n0, n1, by omega, fun x k4 H4 x0 x1 kk pp ff => ?_⟩
        walk_at "g"
        exact ⟨_, xs ++ [x], _, rfl, by walk_at "P", by omega, by walk_at "F", upd_same, len_snoc hl, mem_snoc hx ⟨x0, x1⟩⟩
    · rintro σ' H3 ⟨v, xs, k3, rfl, hp3, hk3, hf3, h3, hl, hx⟩
      walk_at "g"
      exact q p xs k3 H3 (by omega) hx (by omega) hp3 hf3 np h3
def spPoolOf (K : PySem.W.Frag) : Sp := fun vs H Q _ => ∃ (a : Addr) (ns : List Int) (n : Int), vs = [.ref a, .int n] ∧ SqL K H a (ns.map V.int) ∧ ns.length ≤ 63 ∧ 0 ≤ n ∧ n < 64 ∧ ∀ p H', Fr [] H H' → H p = none → Pool H' p 0 → Q (.ref p) H'
set_option maxHeartbeats 4000000 in
theorem ok_law_pool (T : Txt K mg c) : DefAt P w K mg base "_law_pool" s_law_pool 1 ["script", "at"] (spPoolOf K) := by
  have cls_LiveBook := T.k_LiveBook.c
  have na_LiveBook_past := T.na_LiveBook_past
  refine T.f_law_pool.ok sc_law_pool (fun vs H Q E h => ?_) (fun _ _ _ _ _ _ us hl => match us, hl with | [_, _], _ => rfl) (fun f cdv A outer s H vs Q E hr h => ?_)
  · obtain ⟨a, ns, n, rfl, hS, hl, n0, n1, q⟩ := h
    rfl
  · obtain ⟨a, ns, n, rfl, hS, hl, n0, n1, q⟩ := h
    refine ⟨_, (pss_cons (ps_set (i := 2) sc_law_pool.nd rfl (Or.inl rfl) pe_int)
    (pss_cons (ps_if (pt_cmpR op_lt (pv 1) (pe_callB call_lenN (by rfl) T.n_len (by decide +kernel) (pa_cons (pv 0) pa_nil)) (nomark _)) (pss_one (ps_set (i := 2) sc_law_pool.nd rfl (Or.inl rfl) (pe_ix ix_list (pv 0) (pv 1) (fun _ _ => rfl)))) pss_nil)
    (pss_one (ps_ret (pe_lst (pa_cons (pe_callB (call_max2N rfl) (by rfl) T.n_max (by decide +kernel) (pa_cons pe_int (pa_cons (pe_op op_sub (pe_callB call_absN (by rfl) T.n_abs (by decide +kernel) (pa_cons (pv 2) pa_nil)) (pe_op op_powW pe_int pe_int)) pa_nil))) (pa_cons (pe_op op_add (pe_op op_mod (pv 2) pe_int) (pe_op op_mulW pe_int (pe_op op_add (pv 1) pe_int))) (pa_cons pe_int pa_nil)))))))), ?_⟩
    refine w_start (σ' := [some (.ref a), some (.int n), none]) rfl ?_
    walk_at "g"
    refine w_lenI hS ?_
    walk_at "g"
    refine w_ite (fun h => ?_) (fun h => ?_)
    · walk_at "g"
      refine w_ixLm hS n0 h (fun cell hc => ?_)
      walk_at "g"
      exact q _ _ (by walk_at "F") (by assumption) ⟨_, _, upd_same, by omega, by omega, by omega⟩
    · walk_at "g"
      exact q _ _ (by walk_at "F") (by assumption) ⟨_, _, upd_same, by omega, by omega, by omega⟩
/-- pages of a chapter, of a book -/
def cp (l s : Int) : Int := (l + s - 1) / s
def pg (ns : List Int) (s : Int) : Int := (ns.map fun l => cp l s).sum
def spPages (K : PySem.W.Frag) : Sp := fun vs H Q _ => ∃ (p : Addr) (ns : List Int) (s : Int), vs = [.ref p, .int s] ∧ H p = some (.lst (ns.map V.int)) ∧ ns.length ≤ 1000000 ∧ 0 < s ∧ s < 2 ^ 390 ∧ ∀ H', Fr [] H H' → Q (.int (pg ns s)) H'
def spCp : Sp := fun vs H Q _ => ∃ (l s : Int), vs = [.int l, .int s] ∧ 0 < s ∧ s < 2 ^ 390 ∧ Q (.int (cp l s)) H
set_option maxHeartbeats 4000000 in
theorem ok_chapter_pages (T : Txt K mg c) : DefAt P w K mg base "chapter_pages" s_chapter_pages 1 ["length", "size"] spCp := by
  have cls_LiveBook := T.k_LiveBook.c
  have na_LiveBook_past := T.na_LiveBook_past
  refine T.f_chapter_pages.ok sc_chapter_pages (fun vs H Q E h => ?_) (fun _ _ _ _ _ _ us hl => match us, hl with | [_, _], _ => rfl) (fun f cdv A outer s H vs Q E hr h => ?_)
  · obtain ⟨l, n, rfl, n0, n1, q⟩ := h
    rfl
  · obtain ⟨l, n, rfl, n0, n1, q⟩ := h
    refine ⟨_, (pss_one (ps_ret (pe_op op_fdivW (pe_op op_sub (pe_op op_add (pv 0) (pv 1)) pe_int) (pv 1)))), ?_⟩
    refine w_start (σ' := [some (.int l), some (.int n)]) rfl ?_
    walk_at "g"
    exact q
set_option maxHeartbeats 4000000 in
theorem ok_count_pages (T : Txt K mg c) : DefAt P w K mg base "count_pages" s_count_pages 2 ["book", "size"] (spPages K) := by
  have D_chapter_pages := ok_chapter_pages (P := P) (w := w) (base := base) T
  have cls_LiveBook := T.k_LiveBook.c
  have na_LiveBook_past := T.na_LiveBook_past
  refine T.f_count_pages.ok sc_count_pages (fun vs H Q E h => ?_) (fun _ _ _ _ _ _ us hl => match us, hl with | [_, _], _ => rfl) (fun f cdv A outer s H vs Q E hr h => ?_)
  · obtain ⟨p, ns, n, rfl, hp, hl, n0, n1, q⟩ := h
    rfl
  · obtain ⟨p, ns, n, rfl, hp, hl, n0, n1, q⟩ := h
    refine ⟨_, (pss_one (ps_ret (pe_callB (cr_sum rfl) (by rfl) T.n_sum (by decide +kernel) (pa_cons (pe_lc (own := [("length", 2)]) (tt := tYes) rfl sc_count_pages.nd (pi_list (pv 0)) (blkOk_by (N := sc_count_pages_N) (sc := defScope s_count_pages) (by decide +kernel)) (fun _ _ _ _ _ => (pg_name (i := 2) sc_count_pages.nd rfl (Or.inl rfl))) (fun _ _ _ _ _ => pts_nil) (fun _ _ _ _ _ => (pe_callD D_chapter_pages (hr.mono (by decide)) (pa_cons (pv 2) (pa_cons (pv 1) pa_nil))))) pa_nil)))), ?_⟩
    refine w_start (σ' := [some (.ref p), some (.int n), none]) rfl ?_
    walk_at "g"
    refine l_map ns (fun l => cp l n) (SqL.of hp) (fun _ => rfl) (by omega) (fun i l H2 hi f2 Q2 k2 => ?_) (fun L H2 hL f2 h2 => ?_)
    · walk_at "g"
      exact ⟨l, n, rfl, n0, n1, k2 _ Fr.refl⟩
    · walk_at "g"
      exact q _ f2
/-! ### books and sizes looked at; what is raised -/
/-- i is the index of the first length below 1 -/
def BadAt (ns : List Int) (i : Nat) : Prop := ∃ n, ns[i]? = some n ∧ n < 1 ∧ ∀ (j : Nat) (m : Int), j < i → ns[j]? = some m → 1 ≤ m
theorem BadAt.uniq {ns : List Int} {i j : Nat} (h : BadAt ns i) (k : BadAt ns j) : i = j := by
  obtain ⟨n, h1, h2, h3⟩ := h
  obtain ⟨m, k1, k2, k3⟩ := k
  rcases Nat.lt_trichotomy i j with z | z | z
  · have := k3 i n z h1
    omega
  · exact z
  · have := h3 j m z k1
    omega
theorem BadAt.not {ns : List Int} {i : Nat} (h : BadAt ns i) (k : ∀ n ∈ ns, 1 ≤ n) : False := by
  obtain ⟨n, h1, h2, h3⟩ := h
  have := k n (List.mem_of_getElem? h1)
  omega
theorem BadAt.lt {ns : List Int} {i : Nat} (h : BadAt ns i) : i < ns.length := by
  obtain ⟨n, h1, h2, h3⟩ := h
  exact (List.getElem?_eq_some_iff.mp h1).1
theorem good_or_bad : ∀ ns : List Int, (∀ n ∈ ns, 1 ≤ n) ∨ ∃ i, BadAt ns i
  | [] => .inl (by simp)
  | n :: ns => by
    by_cases h : n < 1
    · exact .inr ⟨0, n, rfl, h, fun j m hj => by omega⟩
    · rcases good_or_bad ns with z | ⟨i, x, h1, h2, h3⟩
      · exact .inl fun y hy => by
          rcases List.mem_cons.mp hy with e | e
          · omega
          · exact z y e
      · refine .inr ⟨i + 1, x, by simpa using h1, h2, fun j m hj hm => ?_⟩
        cases j with
        | zero =>
          simp at hm
          omega
        | succ j => exact h3 j m (by omega) (by simpa using hm)
/-- an exception of class D with this value is let out at H'' -/
def Raised (E : XK) (H : Hp) (D : Addr) (y : V) : Prop := ∀ (d : Addr) (H'' : Hp), Fr [] H H'' → H d = none → H'' d = some (.xd [("value", y)]) → E (.ref D) (some d) H''
theorem Raised.fr {E : XK} {H H' : Hp} {D : Addr} {y : V} (h : Raised E H D y) (f : Fr [] H H') : Raised E H' D y := fun d H'' f2 nd hd => h d H'' (f.trans f2) (f.free List.not_mem_nil nd) hd
theorem Raised.go {W : WX} {σ : L2.St} {H H' : Hp} {D : Addr} {y : V} (h : Raised (wAt W σ) H D y) (f : Fr [] H H') : ∀ d, H' d = none → W (.ref D) (some d) σ (upd H' d (.xd [("value", y)])) := fun d nd => h d _ (f.new nd) (f.free List.not_mem_nil nd) upd_same
theorem Raised.at {E : XK} {H H' : Hp} {D : Addr} {y : V} (h : Raised E H D y) (f : Fr [] H H') : ∀ d, H' d = none → E (.ref D) (some d) (upd H' d (.xd [("value", y)])) := fun d nd => h d _ (f.new nd) (f.free List.not_mem_nil nd) upd_same
def spCheckBookX (K : PySem.W.Frag) (c : Cs) : Sp := fun vs H Q E => ∃ (p : Addr) (ns : List Int), vs = [.ref p] ∧ H p = some (.lst (ns.map V.int)) ∧ ns.length ≤ 1000000 ∧ ((∀ n ∈ ns, 1 ≤ n) → ∀ H', Fr [] H H' → Q .non H') ∧
  ∀ i : Nat, BadAt ns i → Raised E H c.InvalidBook (.int i)
def spCheckSizeX (c : Cs) : Sp := fun vs H Q E => ∃ (s : Int), vs = [.int s] ∧ (1 ≤ s → Q .non H) ∧ (s < 1 → Raised E H c.InvalidBook (.int s))
set_option maxHeartbeats 4000000 in
theorem ok_InvalidBook___init__ (T : Txt K mg c) : MDefAt P w K mg base c.InvalidBook "__init__" "InvalidBook.__init__" s_InvalidBook___init__ 1 ["self", "value"] (spEInit K c.InvalidBook) := by
  have cls_LiveBook := T.k_LiveBook.c
  have na_LiveBook_past := T.na_LiveBook_past
  refine T.f_InvalidBook___init__.ok sc_InvalidBook___init__ (fun vs H Q E h => ?_) (fun _ _ _ _ _ _ us hl => match us, hl with | [_, _], _ => rfl) (fun f cdv A outer s H vs Q E hr h => ?_)
  · obtain ⟨a, y, rfl, ha, q⟩ := h
    rfl
  · obtain ⟨a, y, rfl, ha, q⟩ := h
    refine ⟨_, (pss_cons (ps_expr (pe_beinit T.xb_ (pa_cons (pv 0) (pa_cons pe_str pa_nil))))
    (pss_one (ps_ost (pv 0) (pv 1)))), ?_⟩
    refine w_start (σ' := [some (.ref a), some (y)]) rfl ?_
    walk_at "g"
    refine w_veIE (by simp) T.x_InvalidBook.o ha ?_
    walk_at "g"
    refine w_ostE T.x_InvalidBook.o T.x_InvalidBook.no ha (fun dx nd ne => ?_)
    walk_at "g"
    exact q dx nd ne
set_option maxHeartbeats 4000000 in
theorem ok_check_book (T : Txt K mg c) : DefAtX P w K mg base "check_book" s_check_book 3 ["book"] (spCheckBookX K c) := by
  have D_InvalidBook___init__ := ok_InvalidBook___init__ (P := P) (w := w) (base := base) T
  have cls_LiveBook := T.k_LiveBook.c
  have na_LiveBook_past := T.na_LiveBook_past
  refine T.f_check_book.okX sc_check_book (fun vs H Q E h => ?_) (fun _ _ _ _ _ _ us hl => match us, hl with | [_], _ => rfl) (fun f cdv A outer s H vs Q E hr h => ?_)
  · obtain ⟨p, ns, rfl, hp, hl, q, e⟩ := h
    rfl
  · obtain ⟨p, ns, rfl, hp, hl, q, e⟩ := h
    refine ⟨_, (pss_one (ps_for (passes_of rfl) rfl (pi_enum (by rfl) T.n_enumerate (pa_cons (pv 0) pa_nil)) (pg_tup rfl (pgs_cons (pg_name (i := 1) sc_check_book.nd rfl (Or.inl rfl)) (pgs_cons (pg_name (i := 2) sc_check_book.nd rfl (Or.inl rfl)) pgs_nil))) (pss_one (ps_if (pt_cmpR op_lt (pv 2) pe_int (nomark _)) (pss_one (ps_raiseX T.x_InvalidBook D_InvalidBook___init__ (hr.mono (by decide)) (takes_of rfl rfl rfl rfl) (pv 1))) pss_nil)))), ?_⟩
    refine w_start (σ' := [some (.ref p), none, none]) rfl ?_
    walk_at "g"
    refine f_enum (ns.map V.int) (fun i σ' H2 => ∃ v u : Option V, σ' = [some (.ref p), v, u] ∧ Fr [] H H2 ∧ ∀ (j : Nat) (m : Int), j < i → ns[j]? = some m → 1 ≤ m) ⟨none, none, rfl, Fr.refl, fun j m hj => by omega⟩ ?_ ?_ ?_
    · rintro i σ' H2 _ ⟨v, u, rfl, f2, _⟩
      exact SqL.of (f2.at0 hp)
    · rintro i x tp σ' H2 hx ⟨v, u, rfl, f2, h2⟩ htp
      obtain ⟨n, hn, rfl⟩ := map_at hx
      walk_at "g"
      refine w_ite (fun h => ?_) (fun h => ?_)
      · walk_at "g"
        refine w_raiseE ((e i ⟨n, hn, h, h2⟩).at (f2.new htp))
      · walk_at "g"
        refine ⟨_, _, rfl, by walk_at "F", fun j m hj hm => ?_⟩
        rcases Nat.lt_succ_iff_lt_or_eq.mp hj with z | z
        · exact h2 j m z hm
        · rw [z, hn] at hm
          cases hm
          omega
    · rintro σ' H2 ⟨v, u, rfl, f2, h2⟩
      refine q (fun n hn => ?_) _ f2
      obtain ⟨j, hj⟩ := List.getElem?_of_mem hn
      exact h2 j n (by rw [List.length_map]; exact (List.getElem?_eq_some_iff.mp hj).1) hj
/-- all of these stand in the heap -/
def Old (H : Hp) (A : List Addr) : Prop := ∀ v ∈ A, ∃ o, H v = some o
theorem Old.nin {H : Hp} {A : List Addr} {u : Addr} (h : Old H A) (n : H u = none) : u ∉ A := fun hm => by
  obtain ⟨o, e⟩ := h u hm
  rw [n] at e
  cases e
theorem Old.fr {H H' : Hp} {A : List Addr} (h : Old H A) (f : Fr [] H H') : Old H' A := fun v hv => by
  obtain ⟨o, e⟩ := h v hv
  exact ⟨o, f.at0 e⟩
/-- a live book at a: what it was before, what it is; none of its places is in A -/
structure Live (c : Cs) (H : Hp) (a dx : Addr) (init : List (List Int)) (ns : List Int) (A : List Addr) : Prop where
  ex : ∃ (p r : Addr) (ri : List Addr), H a = some (.ins c.LiveBook dx [("past", .ref p)]) ∧ H p = some (.lst ((ri ++ [r]).map V.ref)) ∧ ListsAt H ri init ∧ H r = some (.lst (ns.map V.int)) ∧ ∀ u ∈ a :: p :: r :: ri, u ∉ A
theorem Live.fr {c : Cs} {H H' : Hp} {a dx : Addr} {init : List (List Int)} {ns : List Int} {A S : List Addr} (h : Live c H a dx init ns A) (f : Fr S H H') (hS : ∀ s ∈ S, s ∈ A) : Live c H' a dx init ns A := by
  obtain ⟨p, r, ri, h1, h2, h3, h4, h5⟩ := h.ex
  have n : ∀ u ∈ a :: p :: r :: ri, u ∉ S := fun u hu hs => h5 u hu (hS u hs)
  exact ⟨p, r, ri, f.at (n a (by simp)) h1, f.at (n p (by simp)) h2, ⟨h3.len, fun i q l e1 e2 => f.at (n q (by simp [List.mem_of_getElem? e1])) (h3.at_ i q l e1 e2)⟩, f.at (n r (by simp)) h4, h5⟩
def spLInitX (K : PySem.W.Frag) (c : Cs) : Sp := fun vs H Q E => ∃ (a dx p : Addr) (ns : List Int) (A : List Addr), vs = [.ref a, .ref p] ∧ H a = some (.ins c.LiveBook dx []) ∧ H p = some (.lst (ns.map V.int)) ∧ ns.length ≤ 1000000 ∧ a ∉ A ∧ Old H A ∧
  ((∀ n ∈ ns, 1 ≤ n) → ∀ H', Live c H' a dx [] ns A → Fr [a] H H' → Q .non H') ∧ ∀ i : Nat, BadAt ns i → Raised E H c.InvalidBook (.int i)
def spLAdd (K : PySem.W.Frag) (c : Cs) : Sp := fun vs H Q E => ∃ (a dx t : Addr) (init : List (List Int)) (ns xs : List Int) (A : List Addr), vs = [.ref a, .ref t] ∧ Live c H a dx init ns A ∧ Old H A ∧ H t = some (.tup (xs.map V.int)) ∧ init.length ≤ 100000 ∧ ns.length ≤ 1000000 ∧ xs.length ≤ 1000 ∧
  ((∀ n ∈ xs, 1 ≤ n) → ∀ H', Live c H' a dx (init ++ [ns]) (ns ++ xs) A → Fr [a] H H' → Q .non H') ∧ ∀ i : Nat, BadAt xs i → Raised E H c.InvalidBook (.int i)
def spLBook (K : PySem.W.Frag) (c : Cs) : Sp := fun vs H Q _ => ∃ (a dx : Addr) (init : List (List Int)) (ns : List Int) (A : List Addr), vs = [.ref a] ∧ Live c H a dx init ns A ∧ ∀ p, H p = none → Q (.ref p) (upd H p (.lst (ns.map V.int)))
set_option maxHeartbeats 4000000 in
theorem ok_LiveBook___init__ (T : Txt K mg c) : MDefAtX P w K mg base c.LiveBook "__init__" "LiveBook.__init__" s_LiveBook___init__ 4 ["self", "book"] (spLInitX K c) := by
  have D_check_book := ok_check_book (P := P) (w := w) (base := base) T
  have cls_LiveBook := T.k_LiveBook.c
  have na_LiveBook_past := T.na_LiveBook_past
  refine T.f_LiveBook___init__.okX sc_LiveBook___init__ (fun vs H Q E h => ?_) (fun _ _ _ _ _ _ us hl => match us, hl with | [_, _], _ => rfl) (fun f cdv A outer s H vs Q E hr h => ?_)
  · obtain ⟨a, dx, p, ns, A0, rfl, ha, hp, hl, aA, hA, q, e⟩ := h
    rfl
  · obtain ⟨a, dx, p, ns, A0, rfl, ha, hp, hl, aA, hA, q, e⟩ := h
    refine ⟨_, (pss_cons (ps_expr (pe_callX D_check_book (hr.mono (by decide)) (takes_of rfl rfl rfl rfl) (pa_cons (pv 1) pa_nil)))
    (pss_one (ps_fld (pv 0) (pe_lst (pa_cons (pe_callTy call_listN (by rfl) T.n_list (by decide +kernel) (pa_cons (pv 1) pa_nil)) pa_nil)) rfl))), ?_⟩
    refine w_start (σ' := [some (.ref a), some (.ref p)]) rfl ?_
    walk_at "g"
    refine ⟨p, ns, rfl, hp, hl, fun h1 H2 f2 => ?_, e⟩
    have hp2 := f2.at0 hp
    have ha2 := f2.at0 ha
    have hA2 := hA.fr f2
    walk_at "g"
    rename_i r nr pp npp
    have rA := hA2.nin nr
    have pA := (hA2.fr (Fr.refl.new nr)).nin npp
    have pa : pp ≠ a := (ne_of_none (at_upd ha2 nr) npp).symm
    have ra : r ≠ a := (ne_of_none ha2 nr).symm
    have k1 : upd (upd (upd H2 r (.lst (ns.map V.int))) pp (.lst [.ref r])) a (.ins c.LiveBook dx [("past", .ref pp)]) pp = some (.lst (([] ++ [r]).map V.ref)) := by
      rw [upd_ne pa]
      exact upd_same
    have k2 : upd (upd (upd H2 r (.lst (ns.map V.int))) pp (.lst [.ref r])) a (.ins c.LiveBook dx [("past", .ref pp)]) r = some (.lst (ns.map V.int)) := by
      rw [upd_ne ra]
      exact at_upd upd_same npp
    refine q h1 _ ⟨pp, r, [], upd_same, k1, .nil, k2, fun u hu => ?_⟩ (((f2.nil.new nr).new npp).put (.inr (by simp)))
    simp only [List.mem_cons, List.not_mem_nil, or_false] at hu
    rcases hu with rfl | rfl | rfl
    · exact aA
    · exact pA
    · exact rA
set_option maxHeartbeats 4000000 in
theorem ok_LiveBook_add (T : Txt K mg c) : MDefAtS P w K mg base c.LiveBook "add" "LiveBook.add" s_LiveBook_add 4 ["self"] "lengths" (spLAdd K c) := by
  have D_check_book := ok_check_book (P := P) (w := w) (base := base) T
  have cls_LiveBook := T.k_LiveBook.c
  have na_LiveBook_past := T.na_LiveBook_past
  refine T.f_LiveBook_add.okS sc_LiveBook_add (fun kV doc pm an cdv ct => StX.bind_star1 (B := fun us => bindArgs (PySem.W.fnOf "add" "LiveBook.add" (defArgs s_LiveBook_add) (defBody s_LiveBook_add) (defScope s_LiveBook_add) .none kV doc pm an cdv ct) ⟨us, []⟩) (fun _ => rfl) (fun _ _ _ => rfl)) (fun f cdv A outer s H vs Q E hr h => ?_)
  · obtain ⟨a, dx, t, init, ns, xs, A0, rfl, hL, hA, ht, z1, z2, z3, q, e⟩ := h
    refine ⟨_, (pss_cons (ps_expr (pe_callX D_check_book (hr.mono (by decide)) (takes_of rfl rfl rfl rfl) (pa_cons (pe_callTy call_listN (by rfl) T.n_list (by decide +kernel) (pa_cons (pv 1) pa_nil)) pa_nil)))
    (pss_one (ps_fld (pv 0) (pe_op op_cat (pe_fld (pv 0) rfl) (pe_lst (pa_cons (pe_op op_cat (pe_ix ix_list (pe_fld (pv 0) rfl) (pe_un un_neg pe_int) (fun _ _ => rfl)) (pe_callTy call_listN (by rfl) T.n_list (by decide +kernel) (pa_cons (pv 1) pa_nil))) pa_nil))) rfl))), ?_⟩
    refine w_start (σ' := [some (.ref a), some (.ref t)]) rfl ?_
    walk_at "g"
    rename_i l0 nl0
    refine ⟨l0, xs, rfl, upd_same, by omega, fun h1 H2 f2 => ?_, fun i hb => (e i hb).fr (Fr.refl.new nl0)⟩
    have f02 : Fr [] H H2 := (Fr.refl.new nl0).trans f2
    have hA2 := hA.fr f02
    have ht2 := f02.at0 ht
    obtain ⟨p, r, ri, k1, k2, k3, k4, k5⟩ := (hL.fr f02 (by simp)).ex
    have hz := k3.len
    clear f2
    walk_at "g"
    refine w_ixLastR k2 ?_
    walk_at "g"
    rename_i l5 nl5 r6 nr6 p7 np7
    refine w_catR (ps := ri ++ [r]) (qs := [r6]) (at_upd (at_upd (at_upd k2 nl5) nr6) np7) upd_same (by simp; omega) (fun p8 np8 => ?_)
    walk_at "g"
    have n2 : ∀ {u : Addr} {o : HO}, H2 u = some o → upd (upd (upd (upd H2 l5 (.lst (xs.map V.int))) r6 (.lst ((ns ++ xs).map V.int))) p7 (.lst [.ref r6])) p8 (.lst ((ri ++ [r] ++ [r6]).map V.ref)) u = some o := fun h => at_upd (at_upd (at_upd (at_upd h nl5) nr6) np7) np8
    have f28 : Fr [] H2 (upd (upd (upd (upd H2 l5 (.lst (xs.map V.int))) r6 (.lst ((ns ++ xs).map V.int))) p7 (.lst [.ref r6])) p8 (.lst ((ri ++ [r] ++ [r6]).map V.ref))) := (((Fr.refl.new nl5).new nr6).new np7).new np8
    have p8a : p8 ≠ a := (ne_of_none (at_upd (at_upd (at_upd k1 nl5) nr6) np7) np8).symm
    have r6a : r6 ≠ a := (ne_of_none (at_upd k1 nl5) nr6).symm
    have ra : r ≠ a := fun e => by
      rw [e, k1] at k4
      cases k4
    have p8A := (((hA2.fr (Fr.refl.new nl5)).fr (Fr.refl.new nr6)).fr (Fr.refl.new np7)).nin np8
    have r6A := (hA2.fr (Fr.refl.new nl5)).nin nr6
    refine q h1 _ ⟨p8, r6, ri ++ [r], upd_same, ?_, ?_, ?_, fun u hu => ?_⟩ ((f02.nil.trans f28.nil).put (.inr (by simp)))
    · rw [upd_ne p8a]
      exact upd_same
    · refine ⟨by simp [k3.len], fun i q' l e1 e2 => ?_⟩
      have e3 := (k3.app (.one k4)).at_ i q' l e1 e2
      have qa : q' ≠ a := fun e => by
        rw [e, k1] at e3
        cases e3
      rw [upd_ne qa]
      exact n2 e3
    · rw [upd_ne r6a]
      exact at_upd (at_upd upd_same np7) np8
    · simp only [List.mem_cons, List.mem_append, List.not_mem_nil, or_false] at hu
      rcases hu with rfl | rfl | rfl | hu | rfl
      · exact k5 _ (by simp)
      · exact p8A
      · exact r6A
      · exact k5 _ (by simp [hu])
      · exact k5 _ (by simp)
set_option maxHeartbeats 4000000 in
theorem ok_LiveBook_book (T : Txt K mg c) : PDefAt P w K mg base c.LiveBook "book" "LiveBook.book" s_LiveBook_book 1 (spLBook K c) := by
  have cls_LiveBook := T.k_LiveBook.c
  have na_LiveBook_past := T.na_LiveBook_past
  refine T.f_LiveBook_book.ok sc_LiveBook_book (fun vs H Q E h => ?_) (fun _ _ _ _ _ _ us hl => match us, hl with | [_], _ => rfl) (fun f cdv A outer s H vs Q E hr h => ?_)
  · obtain ⟨a, dx, init, ns, A0, rfl, hL, q⟩ := h
    rfl
  · obtain ⟨a, dx, init, ns, A0, rfl, hL, q⟩ := h
    refine ⟨_, (pss_one (ps_ret (pe_callTy call_listN (by rfl) T.n_list (by decide +kernel) (pa_cons (pe_ix ix_list (pe_fld (pv 0) rfl) (pe_un un_neg pe_int) (fun _ _ => rfl)) pa_nil)))), ?_⟩
    refine w_start (σ' := [some (.ref a)]) rfl ?_
    walk_at "g"
    obtain ⟨p, r, ri, k1, k2, k3, k4, k5⟩ := hL.ex
    walk_at "g"
    refine w_ixLastR k2 ?_
    walk_at "g"
    exact q _ (by assumption)
set_option maxHeartbeats 4000000 in
theorem ok_InvalidNumber___init__ (T : Txt K mg c) : MDefAt P w K mg base c.InvalidNumber "__init__" "InvalidNumber.__init__" s_InvalidNumber___init__ 1 ["self", "value"] (spEInit K c.InvalidNumber) := by
  have cls_LiveBook := T.k_LiveBook.c
  have na_LiveBook_past := T.na_LiveBook_past
  refine T.f_InvalidNumber___init__.ok sc_InvalidNumber___init__ (fun vs H Q E h => ?_) (fun _ _ _ _ _ _ us hl => match us, hl with | [_, _], _ => rfl) (fun f cdv A outer s H vs Q E hr h => ?_)
  · obtain ⟨a, y, rfl, ha, q⟩ := h
    rfl
  · obtain ⟨a, y, rfl, ha, q⟩ := h
    refine ⟨_, (pss_cons (ps_expr (pe_beinit T.xb_ (pa_cons (pv 0) (pa_cons pe_str pa_nil))))
    (pss_one (ps_ost (pv 0) (pv 1)))), ?_⟩
    refine w_start (σ' := [some (.ref a), some (y)]) rfl ?_
    walk_at "g"
    refine w_veIE (by simp) T.x_InvalidNumber.o ha ?_
    walk_at "g"
    refine w_ostE T.x_InvalidNumber.o T.x_InvalidNumber.no ha (fun dx nd ne => ?_)
    walk_at "g"
    exact q dx nd ne
set_option maxHeartbeats 4000000 in
theorem ok_NothingToUndo___init__ (T : Txt K mg c) : MDefAt P w K mg base c.NothingToUndo "__init__" "NothingToUndo.__init__" s_NothingToUndo___init__ 1 ["self", "value"] (spEInit K c.NothingToUndo) := by
  have cls_LiveBook := T.k_LiveBook.c
  have na_LiveBook_past := T.na_LiveBook_past
  refine T.f_NothingToUndo___init__.ok sc_NothingToUndo___init__ (fun vs H Q E h => ?_) (fun _ _ _ _ _ _ us hl => match us, hl with | [_, _], _ => rfl) (fun f cdv A outer s H vs Q E hr h => ?_)
  · obtain ⟨a, y, rfl, ha, q⟩ := h
    rfl
  · obtain ⟨a, y, rfl, ha, q⟩ := h
    refine ⟨_, (pss_cons (ps_expr (pe_beinit T.xb_ (pa_cons (pv 0) (pa_cons pe_str pa_nil))))
    (pss_one (ps_ost (pv 0) (pv 1)))), ?_⟩
    refine w_start (σ' := [some (.ref a), some (y)]) rfl ?_
    walk_at "g"
    refine w_veIE (by simp) T.x_NothingToUndo.o ha ?_
    walk_at "g"
    refine w_ostE T.x_NothingToUndo.o T.x_NothingToUndo.no ha (fun dx nd ne => ?_)
    walk_at "g"
    exact q dx nd ne
/-! ### live books: chapters, lines, split, join, undo, titles -/
theorem Live.more {c : Cs} {H : Hp} {a dx v : Addr} {init : List (List Int)} {ns : List Int} {A : List Addr} (h : Live c H a dx init ns A) (n : ∀ u ∈ [a], u ≠ v) (nv : ∀ o : List V, H v ≠ some (.lst o)) : Live c H a dx init ns (v :: A) := by
  obtain ⟨p, r, ri, h1, h2, h3, h4, h5⟩ := h.ex
  refine ⟨p, r, ri, h1, h2, h3, h4, fun u hu hv => ?_⟩
  rcases List.mem_cons.mp hv with e | e
  · subst e
    rcases List.mem_cons.mp hu with z | z
    · exact n a (by simp) z.symm
    · rcases List.mem_cons.mp z with z | z
      · rw [z] at nv; exact nv _ h2
      · rcases List.mem_cons.mp z with z | z
        · rw [z] at nv; exact nv _ h4
        · obtain ⟨i, hi⟩ := List.getElem?_of_mem z
          obtain ⟨l, hl⟩ : ∃ l, init[i]? = some l := ⟨init[i]'(by have := (List.getElem?_eq_some_iff.mp hi).1; have := h3.len; omega), List.getElem?_eq_getElem _⟩
          exact nv _ (h3.at_ i u l hi hl)
  · exact h5 u hu e
/-- a new address is none of its places -/
theorem Live.new {c : Cs} {H : Hp} {a dx v : Addr} {init : List (List Int)} {ns : List Int} {A : List Addr} (h : Live c H a dx init ns A) (n : H v = none) : Live c H a dx init ns (v :: A) := by
  obtain ⟨p, r, ri, h1, h2, h3, h4, h5⟩ := h.ex
  refine h.more (fun u hu e => ?_) (fun o e => by rw [n] at e; cases e)
  rw [List.mem_singleton] at hu
  subst hu
  rw [e, n] at h1
  cases h1
theorem Live.here {c : Cs} {H : Hp} {a dx : Addr} {init : List (List Int)} {ns : List Int} {A : List Addr} (h : Live c H a dx init ns A) : H a = some (.ins c.LiveBook dx [("past", .ref h.ex.choose)]) := h.ex.choose_spec.choose_spec.choose_spec.1
theorem Live.less {c : Cs} {H : Hp} {a dx : Addr} {init : List (List Int)} {ns : List Int} {A B : List Addr} (h : Live c H a dx init ns A) (s : ∀ u ∈ B, u ∈ A) : Live c H a dx init ns B := by
  obtain ⟨p, r, ri, h1, h2, h3, h4, h5⟩ := h.ex
  exact ⟨p, r, ri, h1, h2, h3, h4, fun u hu hv => h5 u hu (s u hv)⟩
/-- the sizes from 1 on at which two books differ -/
def difN (xs ys : List Int) : Nat → List Int
  | 0 => []
  | n + 1 => difN xs ys n ++ (if pg xs (1 + n) = pg ys (1 + n) then [] else [1 + (n : Int)])
theorem difN_len (xs ys : List Int) : ∀ n, (difN xs ys n).length ≤ n
  | 0 => by simp [difN]
  | n + 1 => by
    have := difN_len xs ys n
    rw [difN, List.length_append]
    split <;> simp <;> omega
theorem difN_comm (xs ys : List Int) : ∀ n, difN xs ys n = difN ys xs n
  | 0 => rfl
  | n + 1 => by
    rw [difN, difN, difN_comm xs ys n]
    by_cases h : pg xs (1 + n) = pg ys (1 + n)
    · rw [if_pos h, if_pos h.symm]
    · rw [if_neg h, if_neg (fun z => h z.symm)]
def spDiffer (K : PySem.W.Frag) : Sp := fun vs H Q _ => ∃ (p q : Addr) (xs ys : List Int), vs = [.ref p, .ref q] ∧ H p = some (.lst (xs.map V.int)) ∧ H q = some (.lst (ys.map V.int)) ∧ xs.length ≤ 1000 ∧ ys.length ≤ 1000 ∧
  ∀ r H', Fr [] H H' → H r = none → H' r = some (.lst ((difN xs ys 100).map V.int)) → Q (.ref r) H'
/-- a book with chapter i split behind line l; with chapters i, i + 1 joined -/
def splitI (ns : List Int) (i : Nat) (l x : Int) : List Int := ns.take i ++ [l, x - l] ++ ns.drop (i + 1)
def joinI (ns : List Int) (i : Nat) (x y : Int) : List Int := ns.take i ++ [x + y] ++ ns.drop (i + 2)
theorem cutI_mid (ns : List Int) {i j : Nat} (h : i ≤ j) (hj : j ≤ ns.length) : cutI ns (some (i : Int)) (some (j : Int)) = (ns.drop i).take (j - i) := by
  unfold cutI
  rw [HT.sIx_nat, HT.sIx_nat, Nat.min_eq_left hj, Nat.min_eq_left (by omega)]
theorem take2 {ns : List Int} {i : Nat} {x y : Int} (hx : ns[i]? = some x) (hy : ns[i + 1]? = some y) : (ns.drop i).take 2 = [x, y] := by
  have h1 := (List.getElem?_eq_some_iff.mp hx)
  have h2 := (List.getElem?_eq_some_iff.mp hy)
  obtain ⟨l1, e1⟩ := h1
  obtain ⟨l2, e2⟩ := h2
  rw [List.drop_eq_getElem_cons l1, List.drop_eq_getElem_cons l2, e1, e2]
  rfl
theorem cutV_init {xs : List V} {y : V} : cutV (xs ++ [y]) none (some (-1)) = xs := by
  show ((xs ++ [y]).drop (HT.sIx (xs ++ [y]).length 0 none)).take (HT.sIx (xs ++ [y]).length (xs ++ [y]).length (some (-1)) - HT.sIx (xs ++ [y]).length 0 none) = xs
  have e1 : HT.sIx (xs ++ [y]).length 0 none = 0 := rfl
  have e2 : HT.sIx (xs ++ [y]).length (xs ++ [y]).length (some (-1)) = xs.length := by
    simp only [HT.sIx, List.length_append, List.length_singleton]
    rw [if_pos (by omega)]
    omega
  rw [e1, e2, List.drop_zero, Nat.sub_zero, List.take_left]
theorem w_slInit {K : PySem.W.Frag} {H : Hp} {Q : VK} {a r : Addr} {ri : List Addr} (h : H a = some (.lst ((ri ++ [r]).map V.ref))) (q : ∀ p, H p = none → Q (.ref p) (upd H p (.lst (ri.map V.ref)))) : rSlL K (.ref a) none (some (-1)) H Q :=
  ⟨a, _, rfl, SqL.of h, fun p hp => by
    rw [List.map_append]
    show Q _ (upd H p (.lst (cutV (ri.map V.ref ++ [V.ref r]) none (some (-1)))))
    rw [cutV_init]
    exact q p hp⟩
/-- a live book whose past is written anew: p' the new past, r' the new present -/
theorem Live.put {c : Cs} {H : Hp} {a dx p' r' : Addr} {init : List (List Int)} {ms : List Int} {ri : List Addr} {A : List Addr} {o : HO} (ho : H a = some o) (hno : ∀ l : List V, o ≠ .lst l) (h1 : H p' = some (.lst ((ri ++ [r']).map V.ref))) (h2 : ListsAt H ri init) (h3 : H r' = some (.lst (ms.map V.int))) (h4 : ∀ u ∈ a :: p' :: r' :: ri, u ∉ A) :
    Live c (upd H a (.ins c.LiveBook dx [("past", .ref p')])) a dx init ms A := by
  have ne : ∀ {u : Addr} {l : List V}, H u = some (.lst l) → u ≠ a := fun {u l} e z => by
    rw [z, ho] at e
    exact hno l (Option.some.inj e)
  refine ⟨p', r', ri, upd_same, by rw [upd_ne (ne h1)]; exact h1, ⟨h2.len, fun i q l e1 e2 => ?_⟩, by rw [upd_ne (ne h3)]; exact h3, h4⟩
  have e3 := h2.at_ i q l e1 e2
  rw [upd_ne (ne e3)]
  exact e3
def spLChap (c : Cs) : Sp := fun vs H Q _ => ∃ (a dx : Addr) (init : List (List Int)) (ns : List Int) (A : List Addr), vs = [.ref a] ∧ Live c H a dx init ns A ∧ Q (.int ns.length) H
def spLLines (c : Cs) : Sp := fun vs H Q _ => ∃ (a dx : Addr) (init : List (List Int)) (ns : List Int) (A : List Addr), vs = [.ref a] ∧ Live c H a dx init ns A ∧ Q (.int ns.sum) H
def spLSplit (K : PySem.W.Frag) (c : Cs) : Sp := fun vs H Q E => ∃ (a dx : Addr) (m l : Int) (init : List (List Int)) (ns : List Int) (A : List Addr), vs = [.ref a, .int m, .int l] ∧ Live c H a dx init ns A ∧ Old H A ∧ init.length ≤ 100000 ∧ ns.length ≤ 1000000 ∧
  (∀ x, 1 ≤ m → m ≤ ns.length → ns[(m - 1).toNat]? = some x → 1 ≤ l → l < x → ∀ r H', Live c H' a dx (init ++ [ns]) (splitI ns (m - 1).toNat l x) A → Fr [a] H H' → H r = none → H' r = some (.lst ((difN [x] [l, x - l] 100).map V.int)) → Q (.ref r) H') ∧
  (¬(1 ≤ m ∧ m ≤ ns.length) → Raised E H c.InvalidNumber (.int m)) ∧ (∀ x, 1 ≤ m → m ≤ ns.length → ns[(m - 1).toNat]? = some x → ¬(1 ≤ l ∧ l < x) → Raised E H c.InvalidNumber (.int l))
def spLJoin (K : PySem.W.Frag) (c : Cs) : Sp := fun vs H Q E => ∃ (a dx : Addr) (m : Int) (init : List (List Int)) (ns : List Int) (A : List Addr), vs = [.ref a, .int m] ∧ Live c H a dx init ns A ∧ Old H A ∧ init.length ≤ 100000 ∧ ns.length ≤ 1000000 ∧
  (∀ x y, 1 ≤ m → m < ns.length → ns[(m - 1).toNat]? = some x → ns[m.toNat]? = some y → ∀ r H', Live c H' a dx (init ++ [ns]) (joinI ns (m - 1).toNat x y) A → Fr [a] H H' → H r = none → H' r = some (.lst ((difN [x + y] [x, y] 100).map V.int)) → Q (.ref r) H') ∧
  (¬(1 ≤ m ∧ m < ns.length) → Raised E H c.InvalidNumber (.int m))
def spLUndo (K : PySem.W.Frag) (c : Cs) : Sp := fun vs H Q E => ∃ (a dx : Addr) (init : List (List Int)) (ns : List Int) (A : List Addr), vs = [.ref a] ∧ Live c H a dx init ns A ∧ Old H A ∧ init.length ≤ 100000 ∧
  (∀ init' ns', init = init' ++ [ns'] → ∀ H', Live c H' a dx init' ns' A → Fr [a] H H' → Q .non H') ∧ (init = [] → Raised E H c.NothingToUndo (.int 0))
/-- the first pages -/
def starts (ns : List Int) (s : Int) : List Int := (List.range ns.length).map fun i => 1 + pg (ns.take i) s
theorem starts_len (ns : List Int) (s : Int) : (starts ns s).length = ns.length := by simp [starts]
theorem starts_take {ns : List Int} {s : Int} {i : Nat} (h : i < ns.length) : (starts ns s).take (i + 1) = (starts ns s).take i ++ [1 + pg (ns.take i) s] := by
  rw [List.take_succ]
  have : (starts ns s)[i]? = some (1 + pg (ns.take i) s) := by simp [starts, h]
  rw [this]
  rfl
theorem pg_take {ns : List Int} {s x : Int} {i : Nat} (h : ns[i]? = some x) : pg (ns.take (i + 1)) s = pg (ns.take i) s + cp x s := by
  rw [List.take_succ, h]
  simp [pg]
theorem pg_one (x s : Int) : pg [x] s = cp x s := by simp [pg]
def spLTitles (K : PySem.W.Frag) (c : Cs) : SpG := fun vs H Q E => ∃ (a dx : Addr) (s : Int) (init : List (List Int)) (ns : List Int) (A : List Addr), vs = [.ref a, .int s] ∧ Live c H a dx init ns A ∧ ns.length ≤ 1000000 ∧ s < 2 ^ 390 ∧
  (1 ≤ s → ∀ H', Fr [] H H' → Q ((starts ns s).map V.int) H') ∧ (s < 1 → Raised E H c.InvalidBook (.int s))
set_option maxHeartbeats 4000000 in
theorem ok_sizes_that_differ (T : Txt K mg c) : DefAt P w K mg base "sizes_that_differ" s_sizes_that_differ 3 ["whole", "parts"] (spDiffer K) := by
  have D_count_pages := ok_count_pages (P := P) (w := w) (base := base) T
  have cls_LiveBook := T.k_LiveBook.c
  have na_LiveBook_past := T.na_LiveBook_past
  refine T.f_sizes_that_differ.ok sc_sizes_that_differ (fun vs H Q E h => ?_) (fun _ _ _ _ _ _ us hl => match us, hl with | [_, _], _ => rfl) (fun f cdv A outer s H vs Q E hr h => ?_)
  · obtain ⟨p1, p2, xs, ys, rfl, h1, h2, l1, l2, q⟩ := h
    rfl
  · obtain ⟨p1, p2, xs, ys, rfl, h1, h2, l1, l2, q⟩ := h
    refine ⟨_, (pss_one (ps_ret (pe_lc (own := [("size", 2)])  rfl sc_sizes_that_differ.nd (pi_range2 (by rfl) T.n_range (pa_cons pe_int (pa_cons (pe_op op_add (pe_gint T.c_MOST_SIZE) pe_int) pa_nil))) (blkOk_by (N := sc_sizes_that_differ_N) (sc := defScope s_sizes_that_differ) (by decide +kernel)) (fun _ _ _ _ _ => (pg_name (i := 2) sc_sizes_that_differ.nd rfl (Or.inl rfl))) (fun _ _ _ _ _ => (pts_one (pt_cmpR op_ne (pe_callD D_count_pages (hr.mono (by decide)) (pa_cons (pv 0) (pa_cons (pv 2) pa_nil))) (pe_callD D_count_pages (hr.mono (by decide)) (pa_cons (pv 1) (pa_cons (pv 2) pa_nil))) (nomark _)))) (fun _ _ _ _ _ => (pv 2))))), ?_⟩
    refine w_start (σ' := [some (.ref p1), some (.ref p2), none]) rfl ?_
    walk_at "g"
    refine l_range (fun L i H' => Fr [] H H' ∧ H' L = some (.lst ((difN xs ys i).map V.int))) (fun L hL => ⟨Fr.refl.new hL, upd_same⟩) (fun L i H' hL hi h => ?_) (fun L H' hL h => ?_)
    · obtain ⟨g1, g2⟩ := h
      refine w_gname ⟨rfl, ?_⟩
      walk_at "g"
      refine ⟨p1, xs, 1 + (i : Int), rfl, g1.at0 h1, by omega, by omega, by omega, fun H2 f2 => ?_⟩
      walk_at "g"
      refine ⟨p2, ys, 1 + (i : Int), rfl, (g1.trans f2).at0 h2, by omega, by omega, by omega, fun H3 f3 => ?_⟩
      have g2' := f3.at0 (f2.at0 g2)
      have f03 := (g1.trans f2).trans f3
      have hz := difN_len xs ys i
      walk_at "g"
      refine w_iteN (fun hne => ?_) (fun heq => ?_)
      · walk_at "g"
        refine ⟨f03.put (.inl hL), ?_⟩
        rw [upd_same, difN, if_neg hne]
      · refine ⟨f03, ?_⟩
        rw [difN, if_pos heq, List.append_nil]
        exact g2'
    · obtain ⟨g1, g2⟩ := h
      exact q L H' g1 hL g2
set_option maxHeartbeats 4000000 in
theorem ok_LiveBook_chapters (T : Txt K mg c) : PDefAt P w K mg base c.LiveBook "chapters" "LiveBook.chapters" s_LiveBook_chapters 1 (spLChap c) := by
  have cls_LiveBook := T.k_LiveBook.c
  have na_LiveBook_past := T.na_LiveBook_past
  refine T.f_LiveBook_chapters.ok sc_LiveBook_chapters (fun vs H Q E h => ?_) (fun _ _ _ _ _ _ us hl => match us, hl with | [_], _ => rfl) (fun f cdv A outer s H vs Q E hr h => ?_)
  · obtain ⟨a, dx, init, ns, A0, rfl, hL, q⟩ := h
    rfl
  · obtain ⟨a, dx, init, ns, A0, rfl, hL, q⟩ := h
    refine ⟨_, (pss_one (ps_ret (pe_callB call_lenN (by rfl) T.n_len (by decide +kernel) (pa_cons (pe_ix ix_list (pe_fld (pv 0) rfl) (pe_un un_neg pe_int) (fun _ _ => rfl)) pa_nil)))), ?_⟩
    refine w_start (σ' := [some (.ref a)]) rfl ?_
    walk_at "g"
    obtain ⟨p, r, ri, k1, k2, k3, k4, k5⟩ := hL.ex
    walk_at "g"
    refine w_ixLastR k2 ?_
    walk_at "g"
    exact q
set_option maxHeartbeats 4000000 in
theorem ok_LiveBook_lines (T : Txt K mg c) : PDefAt P w K mg base c.LiveBook "lines" "LiveBook.lines" s_LiveBook_lines 1 (spLLines c) := by
  have cls_LiveBook := T.k_LiveBook.c
  have na_LiveBook_past := T.na_LiveBook_past
  refine T.f_LiveBook_lines.ok sc_LiveBook_lines (fun vs H Q E h => ?_) (fun _ _ _ _ _ _ us hl => match us, hl with | [_], _ => rfl) (fun f cdv A outer s H vs Q E hr h => ?_)
  · obtain ⟨a, dx, init, ns, A0, rfl, hL, q⟩ := h
    rfl
  · obtain ⟨a, dx, init, ns, A0, rfl, hL, q⟩ := h
    refine ⟨_, (pss_one (ps_ret (pe_callB (cr_sum rfl) (by rfl) T.n_sum (by decide +kernel) (pa_cons (pe_ix ix_list (pe_fld (pv 0) rfl) (pe_un un_neg pe_int) (fun _ _ => rfl)) pa_nil)))), ?_⟩
    refine w_start (σ' := [some (.ref a)]) rfl ?_
    walk_at "g"
    obtain ⟨p, r, ri, k1, k2, k3, k4, k5⟩ := hL.ex
    walk_at "g"
    refine w_ixLastR k2 ?_
    walk_at "g"
    exact q
set_option maxHeartbeats 4000000 in
theorem ok_LiveBook_split (T : Txt K mg c) : MDefAtX P w K mg base c.LiveBook "split" "LiveBook.split" s_LiveBook_split 4 ["self", "chapter", "line"] (spLSplit K c) := by
  have D_InvalidNumber___init__ := ok_InvalidNumber___init__ (P := P) (w := w) (base := base) T
  have D_sizes_that_differ := ok_sizes_that_differ (P := P) (w := w) (base := base) T
  have cls_LiveBook := T.k_LiveBook.c
  have na_LiveBook_past := T.na_LiveBook_past
  refine T.f_LiveBook_split.okX sc_LiveBook_split (fun vs H Q E h => ?_) (fun _ _ _ _ _ _ us hl => match us, hl with | [_, _, _], _ => rfl) (fun f cdv A outer s H vs Q E hr h => ?_)
  · obtain ⟨a, dx, m, l, init, ns, A0, rfl, hL, hA, z1, z2, q, e1, e2⟩ := h
    rfl
  · obtain ⟨a, dx, m, l, init, ns, A0, rfl, hL, hA, z1, z2, q, e1, e2⟩ := h
    refine ⟨_, (pss_cons (ps_set (i := 3) sc_LiveBook_split.nd rfl (Or.inl rfl) (pe_ix ix_list (pe_fld (pv 0) rfl) (pe_un un_neg pe_int) (fun _ _ => rfl)))
    (pss_cons (ps_if (pt_not (pt_chain op_le op_le pe_int (pv 1) (pe_callB call_lenN (by rfl) T.n_len (by decide +kernel) (pa_cons (pv 3) pa_nil)))) (pss_one (ps_raiseX T.x_InvalidNumber D_InvalidNumber___init__ (hr.mono (by decide)) (takes_of rfl rfl rfl rfl) (pv 1))) pss_nil)
    (pss_cons (ps_set (i := 4) sc_LiveBook_split.nd rfl (Or.inl rfl) (pe_ix ix_list (pv 3) (pe_op op_sub (pv 1) pe_int) (fun _ _ => rfl)))
    (pss_cons (ps_if (pt_not (pt_chain op_le op_lt pe_int (pv 2) (pv 4))) (pss_one (ps_raiseX T.x_InvalidNumber D_InvalidNumber___init__ (hr.mono (by decide)) (takes_of rfl rfl rfl rfl) (pv 2))) pss_nil)
    (pss_cons (ps_set (i := 5) sc_LiveBook_split.nd rfl (Or.inl rfl) (pe_lst (pa_cons (pv 2) (pa_cons (pe_op op_sub (pv 4) (pv 2)) pa_nil))))
    (pss_cons (ps_fld (pv 0) (pe_op op_cat (pe_fld (pv 0) rfl) (pe_lst (pa_cons (pe_op op_cat (pe_op op_cat (pe_slice sl_list (pv 3) po_none (po_some (pe_op op_sub (pv 1) pe_int))) (pv 5)) (pe_slice sl_list (pv 3) (po_some (pv 1)) po_none)) pa_nil))) rfl)
    (pss_one (ps_ret (pe_callD D_sizes_that_differ (hr.mono (by decide)) (pa_cons (pe_lst (pa_cons (pv 4) pa_nil)) (pa_cons (pv 5) pa_nil))))))))))), ?_⟩
    refine w_start (σ' := [some (.ref a), some (.int m), some (.int l), none, none, none]) rfl ?_
    walk_at "g"
    obtain ⟨p, r, ri, k1, k2, k3, k4, k5⟩ := hL.ex
    have hz := k3.len
    walk_at "g"
    refine w_ixLastR k2 ?_
    walk_at "g"
    refine w_ite (fun m1 => ?_) (fun m1 => ?_)
    · walk_at "g"
      refine w_iteN (fun m2 => ?_) (fun m2 => ?_)
      · walk_at "g"
        exact w_raiseE ((e1 (by omega)).at Fr.refl)
      · walk_at "g"
        rename_i x hx
        refine w_ite (fun l1 => ?_) (fun l1 => ?_)
        · walk_at "g"
          refine w_iteN (fun l2 => ?_) (fun l2 => ?_)
          · walk_at "g"
            exact w_raiseE ((e2 x m1 (by omega) hx (by omega)).at Fr.refl)
          · walk_at "g"
            rename_i p1 np1 p2 np2
            have hc1 := cutI_len ns none (some (m - 1))
            have hc2 := cutI_len ns (some m) none
            refine w_catI (ms := [l, x - l]) upd_same (at_upd upd_same np2) (by simp only [List.length_cons, List.length_nil]; omega) (fun p3 np3 => ?_)
            walk_at "g"
            rename_i p4 np4
            refine w_catI (by walk_at "H") upd_same (by simp only [List.length_append, List.length_cons, List.length_nil]; omega) (fun p5 np5 => ?_)
            walk_at "g"
            rename_i p6 np6
            refine w_catR (ps := ri ++ [r]) (qs := [p5]) (by walk_at "H") upd_same (by simp; omega) (fun p7 np7 => ?_)
            walk_at "g"
            rename_i p8 np8
            have n7 : H p7 = none := Fr.free (S := []) (by walk_at "F") List.not_mem_nil np7
            have n5 : H p5 = none := Fr.free (S := []) (by walk_at "F") List.not_mem_nil np5
            have hp5 := at_upd (u := .lst ((ri ++ [r] ++ [p5]).map V.ref)) (at_upd (u := .lst [.ref p5]) (upd_same (H := upd (upd (upd (upd H p1 (.lst [.int l, .int (x - l)])) p2 (.lst ((cutI ns none (some (m - 1))).map V.int))) p3 (.lst ((cutI ns none (some (m - 1)) ++ [l, x - l]).map V.int))) p4 (.lst ((cutI ns (some m) none).map V.int))) (a := p5) (o := .lst ((cutI ns none (some (m - 1)) ++ [l, x - l] ++ cutI ns (some m) none).map V.int))) np6) np7
            have hp1 : (upd (upd (upd (upd (upd (upd (upd H p1 (.lst [.int l, .int (x - l)])) p2 (.lst ((cutI ns none (some (m - 1))).map V.int))) p3 (.lst ((cutI ns none (some (m - 1)) ++ [l, x - l]).map V.int))) p4 (.lst ((cutI ns (some m) none).map V.int))) p5 (.lst ((cutI ns none (some (m - 1)) ++ [l, x - l] ++ cutI ns (some m) none).map V.int))) p6 (.lst [.ref p5])) p7 (.lst ((ri ++ [r] ++ [p5]).map V.ref))) p1 = some (.lst [.int l, .int (x - l)]) := at_upd (at_upd (at_upd (at_upd (at_upd (at_upd upd_same np2) np3) np4) np5) np6) np7
            have hp7 := upd_same (H := upd (upd (upd (upd (upd (upd H p1 (.lst [.int l, .int (x - l)])) p2 (.lst ((cutI ns none (some (m - 1))).map V.int))) p3 (.lst ((cutI ns none (some (m - 1)) ++ [l, x - l]).map V.int))) p4 (.lst ((cutI ns (some m) none).map V.int))) p5 (.lst ((cutI ns none (some (m - 1)) ++ [l, x - l] ++ cutI ns (some m) none).map V.int))) p6 (.lst [.ref p5])) (a := p7) (o := .lst ((ri ++ [r] ++ [p5]).map V.ref))
            have f07 : Fr [] H (upd (upd (upd (upd (upd (upd (upd H p1 (.lst [.int l, .int (x - l)])) p2 (.lst ((cutI ns none (some (m - 1))).map V.int))) p3 (.lst ((cutI ns none (some (m - 1)) ++ [l, x - l]).map V.int))) p4 (.lst ((cutI ns (some m) none).map V.int))) p5 (.lst ((cutI ns none (some (m - 1)) ++ [l, x - l] ++ cutI ns (some m) none).map V.int))) p6 (.lst [.ref p5])) p7 (.lst ((ri ++ [r] ++ [p5]).map V.ref))) := by walk_at "F"
            generalize upd (upd (upd (upd (upd (upd (upd H p1 (.lst [.int l, .int (x - l)])) p2 (.lst ((cutI ns none (some (m - 1))).map V.int))) p3 (.lst ((cutI ns none (some (m - 1)) ++ [l, x - l]).map V.int))) p4 (.lst ((cutI ns (some m) none).map V.int))) p5 (.lst ((cutI ns none (some (m - 1)) ++ [l, x - l] ++ cutI ns (some m) none).map V.int))) p6 (.lst [.ref p5])) p7 (.lst ((ri ++ [r] ++ [p5]).map V.ref)) = H7 at hp5 hp1 hp7 f07 np8 ⊢
            have ha7 := f07.at0 k1
            have ep : cutI ns none (some (m - 1)) ++ [l, x - l] ++ cutI ns (some m) none = splitI ns (m - 1).toNat l x := by
              have e1 : m - 1 = (((m - 1).toNat : Nat) : Int) := by omega
              have e2 : m = (((m - 1).toNat + 1 : Nat) : Int) := by omega
              have e3 : cutI ns none (some (m - 1)) = ns.take (m - 1).toNat := by
                rw [e1, cutI_take]
                rfl
              have e4 : cutI ns (some m) none = ns.drop ((m - 1).toNat + 1) := by
                conv => lhs; rw [e2]
                rw [cutI_drop]
              rw [e3, e4, splitI]
            rw [ep] at hp5
            have L7 : Live c (upd H7 a (.ins c.LiveBook dx [("past", .ref p7)])) a dx (init ++ [ns]) (splitI ns (m - 1).toNat l x) A0 := by
              refine Live.put ha7 (fun l e => nomatch e) hp7 ((k3.app (.one k4)).fr f07) hp5 (fun u hu => ?_)
              simp only [List.mem_cons, List.mem_append, List.not_mem_nil, or_false] at hu
              rcases hu with rfl | rfl | rfl | hu | rfl
              · exact k5 _ (by simp)
              · exact hA.nin n7
              · exact hA.nin n5
              · exact k5 _ (by simp [hu])
              · exact k5 _ (by simp)
            have p1a : p1 ≠ a := (ne_of_none k1 np1).symm
            have h1a : (upd H7 a (.ins c.LiveBook dx [("past", .ref p7)])) p1 = some (.lst [.int l, .int (x - l)]) := by
              rw [upd_ne p1a]
              exact hp1
            have f0a : Fr [a] H (upd H7 a (.ins c.LiveBook dx [("past", .ref p7)])) := f07.nil.put (.inr (by simp))
            refine ⟨p8, p1, [x], [l, x - l], rfl, upd_same, at_upd h1a np8, by simp, by simp, fun r' H' f' nr hr => ?_⟩
            have f8 := (f0a.new (o := .lst [.int x]) np8).trans f'.nil
            refine q x m1 (by omega) hx l1 l2 r' H' ((L7.fr (S := []) (Fr.refl.new np8) (by simp)).fr f' (by simp)) f8 ?_ hr
            exact f0a.free (nn2 (ne_of_none upd_same (Fr.free (S := []) ((Fr.refl.new np8)) List.not_mem_nil nr)).symm) (Fr.free (S := []) ((Fr.refl.new np8)) List.not_mem_nil nr)
        · walk_at "g"
          exact w_raiseE ((e2 x m1 (by omega) hx (by omega)).at Fr.refl)
    · walk_at "g"
      exact w_raiseE ((e1 (by omega)).at Fr.refl)
set_option maxHeartbeats 4000000 in
theorem ok_LiveBook_join (T : Txt K mg c) : MDefAtX P w K mg base c.LiveBook "join" "LiveBook.join" s_LiveBook_join 4 ["self", "chapter"] (spLJoin K c) := by
  have D_InvalidNumber___init__ := ok_InvalidNumber___init__ (P := P) (w := w) (base := base) T
  have D_sizes_that_differ := ok_sizes_that_differ (P := P) (w := w) (base := base) T
  have cls_LiveBook := T.k_LiveBook.c
  have na_LiveBook_past := T.na_LiveBook_past
  refine T.f_LiveBook_join.okX sc_LiveBook_join (fun vs H Q E h => ?_) (fun _ _ _ _ _ _ us hl => match us, hl with | [_, _], _ => rfl) (fun f cdv A outer s H vs Q E hr h => ?_)
  · obtain ⟨a, dx, m, init, ns, A0, rfl, hL, hA, z1, z2, q, e1⟩ := h
    rfl
  · obtain ⟨a, dx, m, init, ns, A0, rfl, hL, hA, z1, z2, q, e1⟩ := h
    refine ⟨_, (pss_cons (ps_set (i := 2) sc_LiveBook_join.nd rfl (Or.inl rfl) (pe_ix ix_list (pe_fld (pv 0) rfl) (pe_un un_neg pe_int) (fun _ _ => rfl)))
    (pss_cons (ps_if (pt_not (pt_chain op_le op_lt pe_int (pv 1) (pe_callB call_lenN (by rfl) T.n_len (by decide +kernel) (pa_cons (pv 2) pa_nil)))) (pss_one (ps_raiseX T.x_InvalidNumber D_InvalidNumber___init__ (hr.mono (by decide)) (takes_of rfl rfl rfl rfl) (pv 1))) pss_nil)
    (pss_cons (ps_set (i := 3) sc_LiveBook_join.nd rfl (Or.inl rfl) (pe_slice sl_list (pv 2) (po_some (pe_op op_sub (pv 1) pe_int)) (po_some (pe_op op_add (pv 1) pe_int))))
    (pss_cons (ps_fld (pv 0) (pe_op op_cat (pe_fld (pv 0) rfl) (pe_lst (pa_cons (pe_op op_cat (pe_op op_cat (pe_slice sl_list (pv 2) po_none (po_some (pe_op op_sub (pv 1) pe_int))) (pe_lst (pa_cons (pe_callB (cr_sum rfl) (by rfl) T.n_sum (by decide +kernel) (pa_cons (pv 3) pa_nil)) pa_nil))) (pe_slice sl_list (pv 2) (po_some (pe_op op_add (pv 1) pe_int)) po_none)) pa_nil))) rfl)
    (pss_one (ps_ret (pe_callD D_sizes_that_differ (hr.mono (by decide)) (pa_cons (pe_lst (pa_cons (pe_callB (cr_sum rfl) (by rfl) T.n_sum (by decide +kernel) (pa_cons (pv 3) pa_nil)) pa_nil)) (pa_cons (pv 3) pa_nil))))))))), ?_⟩
    refine w_start (σ' := [some (.ref a), some (.int m), none, none]) rfl ?_
    walk_at "g"
    obtain ⟨p, r, ri, k1, k2, k3, k4, k5⟩ := hL.ex
    have hz := k3.len
    walk_at "g"
    refine w_ixLastR k2 ?_
    walk_at "g"
    refine w_ite (fun m1 => ?_) (fun m1 => ?_)
    · walk_at "g"
      refine w_iteN (fun m2 => ?_) (fun m2 => ?_)
      · walk_at "g"
        exact w_raiseE ((e1 (by omega)).at Fr.refl)
      · walk_at "g"
        rename_i p1 np1 p2 np2 p3 np3
        have hc1 := cutI_len ns none (some (m - 1))
        have hc2 := cutI_len ns (some (m + 1)) none
        refine w_catI (ms := [(cutI ns (some (m - 1)) (some (m + 1))).sum]) (by walk_at "H") upd_same (by simp only [List.length_cons, List.length_nil]; omega) (fun p4 np4 => ?_)
        walk_at "g"
        rename_i p5 np5
        refine w_catI (by walk_at "H") upd_same (by simp only [List.length_append, List.length_cons, List.length_nil]; omega) (fun p6 np6 => ?_)
        walk_at "g"
        rename_i p7 np7
        refine w_catR (ps := ri ++ [r]) (qs := [p6]) (by walk_at "H") upd_same (by simp; omega) (fun p8 np8 => ?_)
        walk_at "g"
        rename_i p9 np9
        obtain ⟨x, hx⟩ : ∃ x, ns[(m - 1).toNat]? = some x := ⟨_, List.getElem?_eq_getElem (by omega)⟩
        obtain ⟨y, hy⟩ : ∃ y, ns[m.toNat]? = some y := ⟨_, List.getElem?_eq_getElem (by omega)⟩
        have eparts : cutI ns (some (m - 1)) (some (m + 1)) = [x, y] := by
          obtain ⟨i, rfl⟩ : ∃ i : Nat, m = i + 1 := ⟨(m - 1).toNat, by omega⟩
          have e1 : (i : Int) + 1 - 1 = ((i : Nat) : Int) := by omega
          have e2 : (i : Int) + 1 + 1 = ((i + 2 : Nat) : Int) := by omega
          have e3 : ((i : Int) + 1).toNat = i + 1 := by omega
          have e4 : ((i : Int) + 1 - 1).toNat = i := by omega
          rw [e1, e2, cutI_mid ns (by omega) (by omega), show i + 2 - i = 2 by omega]
          rw [e4] at hx
          rw [e3] at hy
          exact take2 hx hy
        have ep : cutI ns none (some (m - 1)) ++ [(cutI ns (some (m - 1)) (some (m + 1))).sum] ++ cutI ns (some (m + 1)) none = joinI ns (m - 1).toNat x y := by
          have e1 : m - 1 = (((m - 1).toNat : Nat) : Int) := by omega
          have e2 : m + 1 = (((m - 1).toNat + 2 : Nat) : Int) := by omega
          have e3 : cutI ns none (some (m - 1)) = ns.take (m - 1).toNat := by
            rw [e1, cutI_take]
            rfl
          have e4 : cutI ns (some (m + 1)) none = ns.drop ((m - 1).toNat + 2) := by
            rw [e2, cutI_drop]
          have e5 : ([x, y] : List Int).sum = x + y := by simp
          rw [eparts, e3, e4, e5, joinI]
        have es : (cutI ns (some (m - 1)) (some (m + 1))).sum = x + y := by
          rw [eparts]
          simp
        have n8 : H p8 = none := Fr.free (S := []) (by walk_at "F") List.not_mem_nil np8
        have n6 : H p6 = none := Fr.free (S := []) (by walk_at "F") List.not_mem_nil np6
        have n1 : H p1 = none := np1
        rw [ep, es, eparts] at np9 ⊢
        rw [ep, es, eparts] at np8
        rw [ep, es, eparts] at np7
        rw [es, eparts] at np6 np5
        rw [es, eparts] at np4
        rw [eparts] at np3 np2
        have hp6 := at_upd (u := .lst ((ri ++ [r] ++ [p6]).map V.ref)) (at_upd (u := .lst [.ref p6]) (upd_same (H := upd (upd (upd (upd (upd H p1 (.lst ([x, y].map V.int))) p2 (.lst ((cutI ns none (some (m - 1))).map V.int))) p3 (.lst [.int (x + y)])) p4 (.lst ((cutI ns none (some (m - 1)) ++ [x + y]).map V.int))) p5 (.lst ((cutI ns (some (m + 1)) none).map V.int))) (a := p6) (o := .lst ((joinI ns (m - 1).toNat x y).map V.int))) np7) np8
        have hp1 : (upd (upd (upd (upd (upd (upd (upd (upd H p1 (.lst ([x, y].map V.int))) p2 (.lst ((cutI ns none (some (m - 1))).map V.int))) p3 (.lst [.int (x + y)])) p4 (.lst ((cutI ns none (some (m - 1)) ++ [x + y]).map V.int))) p5 (.lst ((cutI ns (some (m + 1)) none).map V.int))) p6 (.lst ((joinI ns (m - 1).toNat x y).map V.int))) p7 (.lst [.ref p6])) p8 (.lst ((ri ++ [r] ++ [p6]).map V.ref))) p1 = some (.lst ([x, y].map V.int)) := at_upd (at_upd (at_upd (at_upd (at_upd (at_upd (at_upd upd_same np2) np3) np4) np5) np6) np7) np8
        have hp8 := upd_same (H := upd (upd (upd (upd (upd (upd (upd H p1 (.lst ([x, y].map V.int))) p2 (.lst ((cutI ns none (some (m - 1))).map V.int))) p3 (.lst [.int (x + y)])) p4 (.lst ((cutI ns none (some (m - 1)) ++ [x + y]).map V.int))) p5 (.lst ((cutI ns (some (m + 1)) none).map V.int))) p6 (.lst ((joinI ns (m - 1).toNat x y).map V.int))) p7 (.lst [.ref p6])) (a := p8) (o := .lst ((ri ++ [r] ++ [p6]).map V.ref))
        have f08 : Fr [] H (upd (upd (upd (upd (upd (upd (upd (upd H p1 (.lst ([x, y].map V.int))) p2 (.lst ((cutI ns none (some (m - 1))).map V.int))) p3 (.lst [.int (x + y)])) p4 (.lst ((cutI ns none (some (m - 1)) ++ [x + y]).map V.int))) p5 (.lst ((cutI ns (some (m + 1)) none).map V.int))) p6 (.lst ((joinI ns (m - 1).toNat x y).map V.int))) p7 (.lst [.ref p6])) p8 (.lst ((ri ++ [r] ++ [p6]).map V.ref))) := by walk_at "F"
        generalize upd (upd (upd (upd (upd (upd (upd (upd H p1 (.lst ([x, y].map V.int))) p2 (.lst ((cutI ns none (some (m - 1))).map V.int))) p3 (.lst [.int (x + y)])) p4 (.lst ((cutI ns none (some (m - 1)) ++ [x + y]).map V.int))) p5 (.lst ((cutI ns (some (m + 1)) none).map V.int))) p6 (.lst ((joinI ns (m - 1).toNat x y).map V.int))) p7 (.lst [.ref p6])) p8 (.lst ((ri ++ [r] ++ [p6]).map V.ref)) = H8 at hp6 hp1 hp8 f08 np9 ⊢
        have ha8 := f08.at0 k1
        have L8 : Live c (upd H8 a (.ins c.LiveBook dx [("past", .ref p8)])) a dx (init ++ [ns]) (joinI ns (m - 1).toNat x y) A0 := by
          refine Live.put ha8 (fun l e => nomatch e) hp8 ((k3.app (.one k4)).fr f08) hp6 (fun u hu => ?_)
          simp only [List.mem_cons, List.mem_append, List.not_mem_nil, or_false] at hu
          rcases hu with rfl | rfl | rfl | hu | rfl
          · exact k5 _ (by simp)
          · exact hA.nin n8
          · exact hA.nin n6
          · exact k5 _ (by simp [hu])
          · exact k5 _ (by simp)
        have p1a : p1 ≠ a := (ne_of_none k1 n1).symm
        have h1a : (upd H8 a (.ins c.LiveBook dx [("past", .ref p8)])) p1 = some (.lst ([x, y].map V.int)) := by
          rw [upd_ne p1a]
          exact hp1
        have f0a : Fr [a] H (upd H8 a (.ins c.LiveBook dx [("past", .ref p8)])) := f08.nil.put (.inr (by simp))
        refine ⟨p9, p1, [x + y], [x, y], rfl, upd_same, at_upd h1a np9, by simp, by simp, fun r' H' f' nr hr => ?_⟩
        have f8 := (f0a.new (o := .lst [.int (x + y)]) np9).trans f'.nil
        refine q x y m1 (by omega) hx hy r' H' ((L8.fr (S := []) (Fr.refl.new np9) (by simp)).fr f' (by simp)) f8 ?_ hr
        exact f0a.free (nn2 (ne_of_none upd_same (Fr.free (S := []) ((Fr.refl.new np9)) List.not_mem_nil nr)).symm) (Fr.free (S := []) ((Fr.refl.new np9)) List.not_mem_nil nr)
    · walk_at "g"
      exact w_raiseE ((e1 (by omega)).at Fr.refl)
set_option maxHeartbeats 4000000 in
theorem ok_LiveBook_undo (T : Txt K mg c) : MDefAtX P w K mg base c.LiveBook "undo" "LiveBook.undo" s_LiveBook_undo 3 ["self"] (spLUndo K c) := by
  have D_NothingToUndo___init__ := ok_NothingToUndo___init__ (P := P) (w := w) (base := base) T
  have cls_LiveBook := T.k_LiveBook.c
  have na_LiveBook_past := T.na_LiveBook_past
  refine T.f_LiveBook_undo.okX sc_LiveBook_undo (fun vs H Q E h => ?_) (fun _ _ _ _ _ _ us hl => match us, hl with | [_], _ => rfl) (fun f cdv A outer s H vs Q E hr h => ?_)
  · obtain ⟨a, dx, init, ns, A0, rfl, hL, hA, z1, q, e⟩ := h
    rfl
  · obtain ⟨a, dx, init, ns, A0, rfl, hL, hA, z1, q, e⟩ := h
    refine ⟨_, (pss_cons (ps_if (pt_cmpR op_eq (pe_callB call_lenN (by rfl) T.n_len (by decide +kernel) (pa_cons (pe_fld (pv 0) rfl) pa_nil)) pe_int (nomark _)) (pss_one (ps_raiseX T.x_NothingToUndo D_NothingToUndo___init__ (hr.mono (by decide)) (takes_of rfl rfl rfl rfl) pe_int)) pss_nil)
    (pss_one (ps_fld (pv 0) (pe_slice sl_list (pe_fld (pv 0) rfl) po_none (po_some (pe_un un_neg pe_int))) rfl))), ?_⟩
    refine w_start (σ' := [some (.ref a)]) rfl ?_
    walk_at "g"
    obtain ⟨p, r, ri, k1, k2, k3, k4, k5⟩ := hL.ex
    have hz := k3.len
    walk_at "g"
    refine w_ite (fun m1 => ?_) (fun m1 => ?_)
    · walk_at "g"
      refine w_raiseE ((e ?_).at Fr.refl)
      simp at m1
      exact List.length_eq_zero_iff.mp (by omega)
    · walk_at "g"
      refine w_slInit k2 (fun p2 np2 => ?_)
      walk_at "g"
      have ni : init.length ≠ 0 := fun z => by simp at m1; omega
      have hne : init ≠ [] := fun z => ni (by rw [z]; rfl)
      have hre : ri ≠ [] := fun z => ni (by rw [← hz, z]; rfl)
      obtain ⟨init', ns', rfl⟩ : ∃ i' n', init = i' ++ [n'] := ⟨init.dropLast, init.getLast hne, (List.dropLast_concat_getLast hne).symm⟩
      obtain ⟨ri', r', rfl⟩ : ∃ i' n', ri = i' ++ [n'] := ⟨ri.dropLast, ri.getLast hre, (List.dropLast_concat_getLast hre).symm⟩
      simp only [List.length_append, List.length_singleton] at hz
      have h3' : ListsAt H ri' init' := ⟨by omega, fun i q' l e1 e2 => k3.at_ i q' l (by rw [List.getElem?_append_left (List.getElem?_eq_some_iff.mp e1).1]; exact e1) (by rw [List.getElem?_append_left (List.getElem?_eq_some_iff.mp e2).1]; exact e2)⟩
      have h4' : H r' = some (.lst (ns'.map V.int)) := k3.at_ ri'.length r' ns' (by simp) (by rw [show ri'.length = init'.length by omega]; simp)
      refine q init' ns' rfl _ (Live.put (at_upd k1 np2) (fun l e => nomatch e) upd_same (h3'.fr (Fr.refl.new np2)) (at_upd h4' np2) (fun u hu => ?_)) (((Fr.refl.new np2)).put (.inr (by simp)))
      simp only [List.mem_cons] at hu
      rcases hu with rfl | rfl | rfl | hu
      · exact k5 _ (by simp)
      · exact hA.nin np2
      · exact k5 _ (by simp)
      · exact k5 _ (by simp [hu])
theorem added_go {K : PySem.W.Frag} {c : Cs} {H : Hp} {Q : VK} {E : XK} {a dx : Addr} {init : List (List Int)} {ns xs : List Int} {A : List Addr} (hL : Live c H a dx init ns A) (hA : Old H A) (hx : xs.length ≤ 1000) (z1 : init.length ≤ 100000) (z2 : ns.length ≤ 1000000)
    (q : (∀ n ∈ xs, 1 ≤ n) → ∀ H', Live c H' a dx (init ++ [ns]) (ns ++ xs) A → Fr [a] H H' → Q .non H') (e : ∀ i : Nat, BadAt xs i → Raised E H c.InvalidBook (.int i)) : stSp 1 (spLAdd K c) (.ref a :: xs.map V.int) H Q E := by
  refine ⟨[.ref a], xs.map V.int, rfl, rfl, by rw [List.length_map]; exact szle' (by omega), fun t nt => ?_⟩
  refine ⟨a, dx, t, init, ns, xs, A, rfl, hL.fr (S := []) (Fr.refl.new nt) (by simp), hA.fr (Fr.refl.new nt), upd_same, z1, z2, by omega, fun hg H' hL' f' => ?_, fun i hb => (e i hb).fr (Fr.refl.new nt)⟩
  exact q hg H' hL' ((Fr.refl.new nt).trans f')
def spSameL : Sp := fun vs H Q _ => ∃ (a b : Addr) (xs ys : List Int), vs = [.ref a, .ref b] ∧ H a = some (.lst (xs.map V.int)) ∧ H b = some (.lst (ys.map V.int)) ∧ xs.length ≤ 1000 ∧ ys.length ≤ 1000 ∧ (∀ x ∈ xs, 1 ≤ x) ∧ (∀ x ∈ ys, 1 ≤ x) ∧
  ∀ H', Fr [] H H' → Q (.bl (decide (xs.Perm ys))) H'
/-- a live book that may be compared -/
def LiveOk (c : Cs) (H : Hp) (a : Addr) (ns : List Int) : Prop := ∃ dx init A, Live c H a dx init ns A ∧ ns.length ≤ 1000 ∧ ∀ n ∈ ns, 1 ≤ n
def spLEq (K : PySem.W.Frag) (c : Cs) : Sp := fun vs H Q _ => ∃ (a : Addr) (y : V) (ns : List Int), vs = [.ref a, y] ∧ LiveOk c H a ns ∧ ((Kd H y ∧ Q (.bl false) H) ∨ ∃ b ms, y = .ref b ∧ LiveOk c H b ms ∧ ∀ H', Fr [] H H' → Q (.bl (decide (ns.Perm ms))) H')
theorem sorted_eq_iff {xs ys as bs : List Int} (p1 : as.Perm xs) (o1 : as.Pairwise (· ≤ ·)) (p2 : bs.Perm ys) (o2 : bs.Pairwise (· ≤ ·)) : as = bs ↔ xs.Perm ys := by
  constructor
  · rintro rfl
    exact p1.symm.trans p2
  · intro h
    exact List.Perm.eq_of_pairwise (fun a b _ _ h1 h2 => by omega) o1 o2 (p1.trans (h.trans p2.symm))
theorem LiveOk.ins {c : Cs} {H : Hp} {a : Addr} {ns : List Int} (h : LiveOk c H a ns) : ∃ dx fs, H a = some (.ins c.LiveBook dx fs) := by
  obtain ⟨dx, init, A, L, _⟩ := h
  obtain ⟨p, r, ri, h1, _⟩ := L.ex
  exact ⟨dx, _, h1⟩
theorem LiveOk.fr {c : Cs} {H H' : Hp} {a : Addr} {ns : List Int} (h : LiveOk c H a ns) (f : Fr [] H H') : LiveOk c H' a ns := by
  obtain ⟨dx, init, A, L, z⟩ := h
  exact ⟨dx, init, A, L.fr f (by simp), z⟩
theorem eqL {K : PySem.W.Frag} {c : Cs} {H : Hp} {Q : VK} {a b : Addr} {ns ms : List Int} (h1 : LiveOk c H a ns) (h2 : LiveOk c H b ms) (q : ∀ H', Fr [] H H' → Q (.bl (decide (ns.Perm ms))) H') : rEqI c.LiveBook (spLEq K c) (.ref a) (.ref b) H Q := by
  obtain ⟨dx, fs, i1⟩ := h1.ins
  obtain ⟨dy, gs, i2⟩ := h2.ins
  exact ⟨a, b, dx, dy, fs, gs, rfl, rfl, i1, i2, a, _, ns, rfl, h1, .inr ⟨b, ms, rfl, h2, fun H' f => ⟨_, rfl, q H' f⟩⟩⟩
theorem neL {K : PySem.W.Frag} {c : Cs} {H : Hp} {Q : VK} {a b : Addr} {ns ms : List Int} (h1 : LiveOk c H a ns) (h2 : LiveOk c H b ms) (q : ∀ H', Fr [] H H' → Q (.bl (!decide (ns.Perm ms))) H') : rNeI c.LiveBook (spLEq K c) (.ref a) (.ref b) H Q := by
  obtain ⟨dx, fs, i1⟩ := h1.ins
  obtain ⟨dy, gs, i2⟩ := h2.ins
  exact ⟨a, b, dx, dy, fs, gs, rfl, rfl, i1, i2, a, _, ns, rfl, h1, .inr ⟨b, ms, rfl, h2, fun H' f => ⟨_, rfl, q H' f⟩⟩⟩
theorem neLO {K : PySem.W.Frag} {c : Cs} {H : Hp} {Q : VK} {a b : Addr} {ns : List Int} {ys : List V} (h1 : LiveOk c H a ns) (h2 : H b = some (.lst ys)) (q : Q (.bl true) H) : rNeO c.LiveBook (spLEq K c) (.ref a) (.ref b) H Q := by
  obtain ⟨dx, fs, i1⟩ := h1.ins
  exact ⟨a, b, dx, fs, ys, rfl, rfl, i1, h2, ⟨a, _, ns, rfl, h1, .inl ⟨.inr (.inr (.inr ⟨b, ys, rfl, h2⟩)), rfl, rfl⟩⟩, q⟩
theorem notInL {K : PySem.W.Frag} {c : Cs} {H : Hp} {Q : VK} {a b : Addr} {ns : List Int} {ys : List V} (h1 : LiveOk c H a ns) (h2 : H b = some (.lst ys)) (hk : ∀ z ∈ ys, Kd H z) (q : Q (.bl true) H) : rNotInO c.LiveBook (spLEq K c) (.ref a) (.ref b) H Q := by
  obtain ⟨dx, fs, i1⟩ := h1.ins
  exact ⟨a, dx, fs, b, ys, rfl, rfl, i1, h2, hk, fun z hz => ⟨a, _, ns, rfl, h1, .inl ⟨hk z hz, rfl, rfl⟩⟩, q⟩
set_option maxHeartbeats 4000000 in
theorem ok_same_counts (T : Txt K mg c) : DefAt P w K mg base "same_counts" s_same_counts 4 ["first", "second"] spSameL := by
  have D_check_book := ok_check_book (P := P) (w := w) (base := base) T
  have cls_LiveBook := T.k_LiveBook.c
  have na_LiveBook_past := T.na_LiveBook_past
  refine T.f_same_counts.ok sc_same_counts (fun vs H Q E h => ?_) (fun _ _ _ _ _ _ us hl => match us, hl with | [_, _], _ => rfl) (fun f cdv A outer s H vs Q E hr h => ?_)
  · obtain ⟨a, b, xs, ys, rfl, ha, hb, la, lb, pa, pb, q⟩ := h
    rfl
  · obtain ⟨a, b, xs, ys, rfl, ha, hb, la, lb, pa, pb, q⟩ := h
    refine ⟨_, (pss_cons (ps_expr (pe_callX D_check_book (hr.mono (by decide)) takes0 (pa_cons (pv 0) pa_nil)))
    (pss_cons (ps_expr (pe_callX D_check_book (hr.mono (by decide)) takes0 (pa_cons (pv 1) pa_nil)))
    (pss_one (ps_ret (pe_cmpR (op_eqD hr.units) (pe_callB cr_sortedI (by rfl) T.n_sorted (by decide +kernel) (pa_cons (pv 0) pa_nil)) (pe_callB cr_sortedI (by rfl) T.n_sorted (by decide +kernel) (pa_cons (pv 1) pa_nil)) (nomark _)))))), ?_⟩
    refine w_start (σ' := [some (.ref a), some (.ref b)]) rfl ?_
    walk_at "g"
    refine ⟨a, xs, rfl, ha, by omega, fun _ H2 f2 => ?_, fun i h => (h.not pa).elim⟩
    walk_at "g"
    refine ⟨b, ys, rfl, f2.at0 hb, by omega, fun _ H3 f3 => ?_, fun i h => (h.not pb).elim⟩
    have ha3 := f3.at0 (f2.at0 ha)
    have hb3 := f3.at0 (f2.at0 hb)
    walk_at "g"
    rename_i as p1 perm1 ord1 np1 bs p2 perm2 ord2 np2
    rw [decide_eq_decide.mpr (sorted_eq_iff perm1 ord1 perm2 ord2)]
    exact q _ (by walk_at "F")
set_option maxHeartbeats 4000000 in
theorem ok_LiveBook___eq__ (T : Txt K mg c) : MDefAt P w K mg base c.LiveBook "__eq__" "LiveBook.__eq__" s_LiveBook___eq__ 5 ["self", "other"] (spLEq K c) := by
  have D_same_counts := ok_same_counts (P := P) (w := w) (base := base) T
  have cls_LiveBook := T.k_LiveBook.c
  have na_LiveBook_past := T.na_LiveBook_past
  refine T.f_LiveBook___eq__.ok sc_LiveBook___eq__ (fun vs H Q E h => ?_) (fun _ _ _ _ _ _ us hl => match us, hl with | [_, _], _ => rfl) (fun f cdv A outer s H vs Q E hr h => ?_)
  · obtain ⟨a, y, ns, rfl, hL, hq⟩ := h
    rfl
  · obtain ⟨a, y, ns, rfl, hL, hq⟩ := h
    refine ⟨_, (pss_cons (ps_if (pt_not (pt_val (pe_callB call_isi (by rfl) T.n_isinstance (by decide +kernel) (pa_cons (pv 1) (pa_cons (pe_gcls T.k_LiveBook.g) pa_nil))))) (pss_one (ps_ret pe_bl)) pss_nil)
    (pss_one (ps_ret (pe_callD D_same_counts (hr.mono (by decide)) (pa_cons (pe_ix ix_list (pe_fld (pv 0) rfl) (pe_un un_neg pe_int) (fun _ _ => rfl)) (pa_cons (pe_ix ix_list (pe_fld (pv 1) rfl) (pe_un un_neg pe_int) (fun _ _ => rfl)) pa_nil)))))), ?_⟩
    refine w_start (σ' := [some (.ref a), some (y)]) rfl ?_
    rcases hq with ⟨hk, q⟩ | ⟨b, ms, rfl, hM, q⟩
    · walk_at "g"
      refine isi_kd T.k_LiveBook T.q_LiveBook hk ?_
      walk_at "g"
      exact q
    · obtain ⟨dy, gs, i2⟩ := hM.ins
      walk_at "g"
      refine isi_ins T.k_LiveBook T.q_LiveBook i2 ?_
      walk_at "g"
      obtain ⟨dx, init, A0, L1, l1, o1⟩ := hL
      obtain ⟨dx2, init2, A2, L2, l2, o2⟩ := hM
      obtain ⟨p, r, ri, k1, k2, k3, k4, k5⟩ := L1.ex
      obtain ⟨p', r', ri', k1', k2', k3', k4', k5'⟩ := L2.ex
      walk_at "g"
      refine w_ixLastR k2 ?_
      walk_at "g"
      refine w_ixLastR k2' ?_
      walk_at "g"
      exact ⟨r, r', ns, ms, rfl, k4, k4', l1, l2, o1, o2, q⟩
def spMixed : Sp := fun vs H Q _ => ∃ (a p : Addr) (k : Int) (xs : List Int), vs = [.ref a, .ref p] ∧ Pool H a k ∧ p ≠ a ∧ H p = some (.lst (xs.map V.int)) ∧ xs.length ≤ 1000 ∧ k < 2 ^ 38 ∧
  ∀ (r : Addr) (ys : List Int) (k' : Int) (H' : Hp), ys.Perm xs → k' ≤ k + xs.length → Pool H' a k' → Fr [a] H H' → H r = none → H' r = some (.lst (ys.map V.int)) → Q (.ref r) H'
def spVaried : Sp := fun vs H Q _ => ∃ (a p : Addr) (k : Int) (xs : List Int), vs = [.ref a, .ref p] ∧ Pool H a k ∧ p ≠ a ∧ H p = some (.lst (xs.map V.int)) ∧ xs.length ≤ 900 ∧ (∀ x ∈ xs, 1 ≤ x) ∧ k < 2 ^ 37 ∧
  ∀ (r : Addr) (ys : List Int) (k' : Int) (H' : Hp), ys.length ≤ xs.length + 1 → (∀ y ∈ ys, 1 ≤ y) → k' ≤ k + xs.length + 4 → Pool H' a k' → Fr [a] H H' → H r = none → H' r = some (.lst (ys.map V.int)) → Q (.ref r) H'
def spObject (c : Cs) : Sp := fun vs H Q _ => ∃ (a p : Addr) (k : Int) (xs : List Int) (A : List Addr), vs = [.ref a, .ref p] ∧ Pool H a k ∧ p ≠ a ∧ H p = some (.lst (xs.map V.int)) ∧ xs.length ≤ 900 ∧ (∀ x ∈ xs, 1 ≤ x) ∧ k < 2 ^ 37 ∧ Old H A ∧
  ∀ (x dx : Addr) (init : List (List Int)) (k' : Int) (H' : Hp), Live c H' x dx init xs A → k' ≤ k + 1 → Pool H' a k' → Fr [a] H H' → H x = none → Q (.ref x) H'
set_option maxHeartbeats 4000000 in
theorem ok_law_mixed (T : Txt K mg c) : DefAt P w K mg base "_law_mixed" s_law_mixed 2 ["pool", "lengths"] spMixed := by
  have D_law_draw := ok_law_draw (P := P) (w := w) (base := base) T
  have cls_LiveBook := T.k_LiveBook.c
  have na_LiveBook_past := T.na_LiveBook_past
  refine T.f_law_mixed.ok sc_law_mixed (fun vs H Q E h => ?_) (fun _ _ _ _ _ _ us hl => match us, hl with | [_, _], _ => rfl) (fun f cdv A outer s H vs Q E hr h => ?_)
  · obtain ⟨a, p, k, xs, rfl, hP, pa, hp, hl, hk, q⟩ := h
    rfl
  · obtain ⟨a, p, k, xs, rfl, hP, pa, hp, hl, hk, q⟩ := h
    refine ⟨_, (pss_cons (ps_set (i := 2) sc_law_mixed.nd rfl (Or.inr rfl) (pe_callTy call_listN (by rfl) T.n_list (by decide +kernel) (pa_cons (pv 1) pa_nil)))
    (pss_one (ps_ret (pe_lc (own := [("one", 3)]) (tt := tYes) rfl sc_law_mixed.nd (pi_list (pv 1)) (blkOk_by (N := sc_law_mixed_N) (sc := defScope s_law_mixed) (by decide +kernel)) (fun _ _ _ _ _ => (pg_name (i := 3) sc_law_mixed.nd rfl (Or.inl rfl))) (fun _ _ _ _ _ => pts_nil) (fun _ _ _ _ _ => (kc_bm (K := K) (pe_bm PySem.F.plainAttrs_list PySem.F.slot_list_pop PySem.F.type_list_pop mt_popAt (pv 2) (pa_cons (pe_callD D_law_draw (hr.mono (by decide)) (pa_cons (pv 0) (pa_cons (pe_callB (kc_call (K := K) (r := Pg.rLen) call_lenN rfl) (by rfl) T.n_len (by decide +kernel) (pa_cons (pv 2) pa_nil)) pa_nil))) pa_nil)) rfl)))))), ?_⟩
    refine w_start (σ' := [some (.ref a), some (.ref p), none, none]) rfl ?_
    walk_at "g"
    rename_i p1 np1
    have p1a : p1 ≠ a := hP.ne np1
    refine l_list (xs.map V.int) (fun L i H' => ∃ (ls ys : List Int) (k' : Int), H' p1 = some (.lst (ls.map V.int)) ∧ H' L = some (.lst (ys.map V.int)) ∧ (ls ++ ys).Perm xs ∧ ys.length = i ∧ k' ≤ k + i ∧ Pool H' a k' ∧ Fr [a] H H' ∧ H' p = some (.lst (xs.map V.int))) (fun L hL => ?_) (fun L i H' _ _ h => ?_) (fun L i x H' hL hx h => ?_) (fun L H' hL h => ?_)
    · exact ⟨xs, [], k, at_upd upd_same hL, upd_same, by simp, rfl, by simp, (hP.new np1).new hL, (Fr.refl.new np1).new hL, at_upd (at_upd hp np1) hL⟩
    · obtain ⟨ls, ys, k', g1, g2, g3, g4, g5, g6, g7, g8⟩ := h
      exact .of g8
    · obtain ⟨ls, ys, k', g1, g2, g3, g4, g5, g6, g7, g8⟩ := h
      refine ⟨rfl, ?_⟩
      have hi := (List.getElem?_eq_some_iff.mp hx).1
      have hg3 := g3.length_eq
      rw [List.length_map] at hi
      rw [List.length_append] at hg3
      have hL1 : L ≠ p1 := (ne_of_none upd_same hL).symm
      have hLp : L ≠ p := (ne_of_none (at_upd hp np1) hL).symm
      have hLa : L ≠ a := (hP.new np1).ne hL
      have p1p : p1 ≠ p := (ne_of_none hp np1).symm
      have nL : H L = none := (Fr.refl.new np1).free List.not_mem_nil hL
      walk_at "g"
      rename_i r k2 H2 r0 r1 hk2 hP2 f2 n hn
      have hr : r.toNat < ls.length := by omega
      have hperm : (ls.eraseIdx r.toNat ++ (ys ++ [n])).Perm xs := by
        refine List.Perm.trans ?_ g3
        have e1 : (n :: ls.eraseIdx r.toNat).Perm ls := erase_perm ls r.toNat n hn
        have e2 : (ls.eraseIdx r.toNat ++ (ys ++ [n])).Perm ((n :: ls.eraseIdx r.toNat) ++ ys) := by
          rw [← List.append_assoc]
          exact List.perm_append_comm
        exact e2.trans (e1.append_right ys)
      have gp := f2.at (nn2 pa) g8
      refine ⟨_, _, k2, ?_, upd_same, hperm, by rw [List.length_append]; simp [g4], by omega, ?_, ?_, ?_⟩
      · rw [upd_ne hL1.symm]
        exact upd_same
      · exact (hP2.put p1a).put hLa
      · exact ((g7.trans f2).put (.inl np1)).put (.inl nL)
      · rw [upd_ne hLp.symm, upd_ne p1p.symm]
        exact gp
    · obtain ⟨ls, ys, k', g1, g2, g3, g4, g5, g6, g7, g8⟩ := h
      walk_at "g"
      rw [List.length_map] at g4 g5
      have e : ls = [] := by
        have := g3.length_eq
        rw [List.length_append] at this
        exact List.length_eq_zero_iff.mp (by omega)
      subst e
      exact q L ys k' H' g3 g5 g6 g7 ((Fr.refl.new np1).free List.not_mem_nil hL) g2
set_option maxHeartbeats 4000000 in
theorem ok_law_varied (T : Txt K mg c) : DefAt P w K mg base "_law_varied" s_law_varied 3 ["pool", "lengths"] spVaried := by
  have D_law_mixed := ok_law_mixed (P := P) (w := w) (base := base) T
  have D_law_draw := ok_law_draw (P := P) (w := w) (base := base) T
  have cls_LiveBook := T.k_LiveBook.c
  have na_LiveBook_past := T.na_LiveBook_past
  refine T.f_law_varied.ok sc_law_varied (fun vs H Q E h => ?_) (fun _ _ _ _ _ _ us hl => match us, hl with | [_, _], _ => rfl) (fun f cdv A outer s H vs Q E hr h => ?_)
  · obtain ⟨a, p, k, xs, rfl, hP, pa, hp, hl, hx, hk, q⟩ := h
    rfl
  · obtain ⟨a, p, k, xs, rfl, hP, pa, hp, hl, hx, hk, q⟩ := h
    refine ⟨_, (pss_cons (ps_par (i := 2) (j := 3) rfl sc_law_varied.nd rfl rfl (by decide) rfl rfl (pa_cons (pe_callD D_law_mixed (hr.mono (by decide)) (pa_cons (pv 0) (pa_cons (pv 1) pa_nil))) (pa_cons (pe_callD D_law_draw (hr.mono (by decide)) (pa_cons (pv 0) (pa_cons pe_int pa_nil))) pa_nil)) (by rfl))
    (pss_cons (ps_if (PW.pt (pw_or (pt_cmpR (op_eqD hr.units) (pv 2) (pe_lst pa_nil) (nomark _)) (pw_or1 (pt_cmpR op_lt (pv 3) pe_int (nomark _))))) (pss_one (ps_ret (pv 2))) pss_nil)
    (pss_cons (ps_set (i := 4) sc_law_varied.nd rfl (Or.inl rfl) (pe_callD D_law_draw (hr.mono (by decide)) (pa_cons (pv 0) (pa_cons (pe_callB call_lenN (by rfl) T.n_len (by decide +kernel) (pa_cons (pv 2) pa_nil)) pa_nil))))
    (pss_cons (ps_if (pt_cmpR op_eq (pv 3) pe_int (nomark _)) (pss_one (ps_ret (pe_op op_cat (pe_slice sl_list (pv 2) po_none (po_some (pv 4))) (pe_slice sl_list (pv 2) (po_some (pe_op op_add (pv 4) pe_int)) po_none)))) pss_nil)
    (pss_cons (ps_if (pt_cmpR op_eq (pv 3) pe_int (nomark _)) (pss_one (ps_ret (pe_op op_cat (pv 2) (pe_lst (pa_cons (pe_ix ix_list (pv 2) (pv 4) (fun _ _ => rfl)) pa_nil))))) pss_nil)
    (pss_cons (ps_if (pt_cmpR op_eq (pv 3) pe_int (nomark _)) (pss_cons (ps_asg (pe_callB (call_max2N rfl) (by rfl) T.n_max (by decide +kernel) (pa_cons pe_int (pa_cons (pe_op op_add (pe_op op_sub (pe_ix ix_list (pv 2) (pv 4) (fun _ _ => rfl)) pe_int) (pe_op op_mulW pe_int (pe_callD D_law_draw (hr.mono (by decide)) (pa_cons (pv 0) (pa_cons pe_int pa_nil))))) pa_nil))) (pg_sub (pv 2) (pv 4) set_list))
    (pss_one (ps_ret (pv 2)))) pss_nil)
    (pss_cons (ps_set (i := 5) sc_law_varied.nd rfl (Or.inl rfl) (pe_callD D_law_draw (hr.mono (by decide)) (pa_cons (pv 0) (pa_cons (pe_callB call_lenN (by rfl) T.n_len (by decide +kernel) (pa_cons (pv 2) pa_nil)) pa_nil))))
    (pss_cons (ps_asg (pe_tup (pa_cons (pe_op op_add (pe_ix ix_list (pv 2) (pv 4) (fun _ _ => rfl)) pe_int) (pa_cons (pe_callB (call_max2N rfl) (by rfl) T.n_max (by decide +kernel) (pa_cons pe_int (pa_cons (pe_op op_sub (pe_ix ix_list (pv 2) (pv 5) (fun _ _ => rfl)) pe_int) pa_nil))) pa_nil))) (pg_tup rfl (pgs_cons (pg_sub (pv 2) (pv 4) set_list) (pgs_cons (pg_sub (pv 2) (pv 5) set_list) pgs_nil))))
    (pss_one (ps_ret (pv 2))))))))))), ?_⟩
    refine w_start (σ' := [some (.ref a), some (.ref p), none, none, none, none]) rfl ?_
    walk_at "g"
    refine ⟨a, p, k, xs, rfl, hP, pa, hp, by omega, by omega, fun r ys k2 H2 hy hk2 hP2 f2 nr hr => ?_⟩
    have hly := hy.length_eq
    have hpy : ∀ y ∈ ys, 1 ≤ y := fun y h => hx y (hy.mem_iff.mp h)
    have ra : r ≠ a := fun e => by
      obtain ⟨_, _, z, _⟩ := hP
      rw [e, z] at nr
      cases nr
    walk_at "g"
    rename_i way k3 H3 w0 w1 hk3 hP3 f3 p4 np4
    have hr3 := at_upd (u := .lst []) (f3.at (nn2 ra) hr) np4
    have f4 : Fr [a] H (upd H3 p4 (.lst [])) := (f2.trans f3).new np4
    have hP4 := hP3.new (o := .lst []) np4
    generalize upd H3 p4 (.lst []) = H4 at hr3 f4 hP4 ⊢
    clear f3 f2 hP3 np4 hr
    refine w_ite (fun he => ?_) (fun hne => ?_)
    · rw [if_pos rfl]
      walk_at "g"
      exact q r ys k3 H4 (by omega) hpy (by omega) hP4 f4 nr hr3
    · have hpos := List.length_pos_iff.mpr hne
      walk_at "g"
      refine w_ite (fun h => ?_) (fun h => ?_)
      · walk_at "g"
        exact q r ys k3 H4 (by omega) hpy (by omega) hP4 f4 nr hr3
      · walk_at "g"
        rename_i at_ k5 H5 t0 t1 hk5 hP5 f5
        have hr5 := f5.at (nn2 ra) hr3
        have f05 := f4.trans f5
        clear f5 f4 hr3 hP4
        refine w_ite (fun h => ?_) (fun h => ?_)
        · walk_at "g"
          rename_i p1 np1 p2 np2
          have hc1 := cutI_len ys none (some at_)
          have hc2 := cutI_len ys (some (at_ + 1)) none
          refine w_catI (at_upd upd_same np2) upd_same (by omega) (fun p3 np3 => ?_)
          walk_at "g"
          have nH : H p3 = none := (((f05.new np1).new np2)).free (nn2 (((hP5.new np1).new np2).ne np3)) np3
          obtain ⟨i, rfl⟩ : ∃ i : Nat, at_ = i := ⟨at_.toNat, by omega⟩
          have e2 : ((i : Nat) : Int) + 1 = ((i + 1 : Nat) : Int) := by omega
          refine q p3 _ k5 _ ?_ (fun y hy => ?_) (by omega) (((hP5.new np1).new np2).new np3) (((f05.new np1).new np2).new np3) nH upd_same
          · rw [e2, cutI_take, cutI_drop, List.length_append, List.length_take, List.length_drop]
            omega
          · rw [e2, cutI_take, cutI_drop] at hy
            rcases List.mem_append.mp hy with z | z
            · exact hpy y (List.mem_of_mem_take z)
            · exact hpy y (List.mem_of_mem_drop z)
        · walk_at "g"
          refine w_ite (fun h => ?_) (fun h => ?_)
          · walk_at "g"
            rename_i n hn p1 np1 p2 np2
            have nH : H p2 = none := (f05.new np1).free (nn2 ((hP5.new np1).ne np2)) np2
            refine q p2 _ k5 _ (by rw [List.length_append, List.length_singleton]; omega) (mem_snoc hpy (hpy n (List.mem_of_getElem? hn))) (by omega) ((hP5.new np1).new np2) ((f05.new np1).new np2) nH upd_same
          · walk_at "g"
            refine w_ite (fun h => ?_) (fun h => ?_)
            · walk_at "g"
              rename_i n hn r6 k6 H6 r60 r61 hk6 hP6 f6
              have h1 := hpy n (List.mem_of_getElem? hn)
              refine q r _ k6 _ (by rw [List.length_set]; omega) (fun y hy => ?_) (by omega) (hP6.put ra) ((f05.trans f6).put (.inl nr)) nr upd_same
              rcases List.mem_or_eq_of_mem_set hy with z | rfl
              · exact hpy y z
              · split <;> omega
            · walk_at "g"
              rename_i r6 k6 H6 r60 r61 hk6 hP6 f6 n1 hn1 n2 hn2 p1 np1
              have h1 := hpy n1 (List.mem_of_getElem? hn1)
              refine q r _ k6 _ (by rw [List.length_set, List.length_set]; omega) (fun y hy => ?_) (by omega) (((hP6.new np1).put ra).put ra) ((((f05.trans f6).new np1).put (.inl nr)).put (.inl nr)) nr upd_same
              rcases List.mem_or_eq_of_mem_set hy with z | rfl
              · rcases List.mem_or_eq_of_mem_set z with z | rfl
                · exact hpy y z
                · omega
              · split <;> omega
theorem init_go {K : PySem.W.Frag} {c : Cs} {H : Hp} {Q : VK} {E : XK} {x dx p : Addr} {ns : List Int} {A : List Addr} (hp : H p = some (.lst (ns.map V.int))) (hl : ns.length ≤ 1000000) (hx : ∀ n ∈ ns, 1 ≤ n) (hA : Old H A) (nx : H x = none) (ndx : H dx = none)
    (q : ∀ H', Live c H' x dx [] ns A → Fr [] H H' → Q .non H') : spLInitX K c [.ref x, .ref p] (upd (upd H dx (.own x)) x (.ins c.LiveBook dx [])) Q E := by
  refine ⟨x, dx, p, ns, A, rfl, upd_same, at_make hp ndx nx, hl, hA.nin nx, hA.fr (Fr.refl.make ndx nx), fun _ H3 L3 f3 => ?_, fun i hb => (hb.not hx).elim⟩
  exact q H3 L3 ((Fr.refl.make ndx nx).loc nx f3)
set_option maxHeartbeats 4000000 in
theorem ok_law_object (T : Txt K mg c) : DefAt P w K mg base "_law_object" s_law_object 6 ["pool", "lengths"] (spObject c) := by
  have D_law_draw := ok_law_draw (P := P) (w := w) (base := base) T
  have D_LiveBook___init__ := ok_LiveBook___init__ (P := P) (w := w) (base := base) T
  have D_LiveBook_add := ok_LiveBook_add (P := P) (w := w) (base := base) T
  have D_LiveBook_split := ok_LiveBook_split (P := P) (w := w) (base := base) T
  have D_LiveBook_join := ok_LiveBook_join (P := P) (w := w) (base := base) T
  have D_LiveBook_undo := ok_LiveBook_undo (P := P) (w := w) (base := base) T
  have cls_LiveBook := T.k_LiveBook.c
  have na_LiveBook_past := T.na_LiveBook_past
  refine T.f_law_object.ok sc_law_object (fun vs H Q E h => ?_) (fun _ _ _ _ _ _ us hl => match us, hl with | [_, _], _ => rfl) (fun f cdv A outer s H vs Q E hr h => ?_)
  · obtain ⟨a, p, k, xs, A0, rfl, hP, pa, hp, hl, hx, hk, hA, q⟩ := h
    rfl
  · obtain ⟨a, p, k, xs, A0, rfl, hP, pa, hp, hl, hx, hk, hA, q⟩ := h
    refine ⟨_, (pss_cons (ps_set (i := 2) sc_law_object.nd rfl (Or.inl rfl) (pe_callD D_law_draw (hr.mono (by decide)) (pa_cons (pv 0) (pa_cons pe_int pa_nil))))
    (pss_cons (ps_if (PW.pt (pw_or (pt_cmpR op_eq (pv 2) pe_int (nomark _)) (pw_or1 (pt_cmpR (op_eqD hr.units) (pv 1) (pe_lst pa_nil) (nomark _))))) (pss_one (ps_ret (pe_makeX T.k_LiveBook D_LiveBook___init__ (hr.mono (by decide)) takes0 (pa_cons (pv 1) pa_nil)))) pss_nil)
    (pss_cons (ps_if (pt_cmpR op_eq (pv 2) pe_int (nomark _)) (pss_cons (ps_set (i := 3) sc_law_object.nd rfl (Or.inl rfl) (pe_makeX T.k_LiveBook D_LiveBook___init__ (hr.mono (by decide)) takes0 (pa_cons (pe_slice sl_list (pv 1) po_none (po_some pe_int)) pa_nil)))
    (pss_cons (ps_for PassesOwn.never rfl (pi_list (pe_slice sl_list (pv 1) (po_some pe_int) po_none)) (pg_name (i := 4) sc_law_object.nd rfl (Or.inl rfl)) (pss_one (ps_expr (pe_methS (pv 3) T.k_LiveBook.c D_LiveBook_add (hr.mono (by decide)) takes0 (pa_cons (pv 4) pa_nil)))))
    (pss_one (ps_ret (pv 3))))) pss_nil)
    (pss_cons (ps_set (i := 3) sc_law_object.nd rfl (Or.inl rfl) (pe_makeX T.k_LiveBook D_LiveBook___init__ (hr.mono (by decide)) takes0 (pa_cons (pe_op op_cat (pe_lst (pa_cons (pe_callB (cr_sum rfl) (by rfl) T.n_sum (by decide +kernel) (pa_cons (pe_slice sl_list (pv 1) po_none (po_some pe_int)) pa_nil)) pa_nil)) (pe_slice sl_list (pv 1) (po_some pe_int) po_none)) pa_nil)))
    (pss_cons (ps_if (pt_cmpR op_gt (pe_callB call_lenN (by rfl) T.n_len (by decide +kernel) (pa_cons (pv 1) pa_nil)) pe_int (nomark _)) (pss_one (ps_expr (pe_methX (pv 3) T.k_LiveBook.c D_LiveBook_split (hr.mono (by decide)) takes0 (pa_cons pe_int (pa_cons (pe_ix ix_list (pv 1) pe_int (fun _ _ => rfl)) pa_nil))))) pss_nil)
    (pss_cons (ps_expr (pe_methS (pv 3) T.k_LiveBook.c D_LiveBook_add (hr.mono (by decide)) takes0 (pa_cons pe_int (pa_cons pe_int pa_nil))))
    (pss_cons (ps_expr (pe_methX (pv 3) T.k_LiveBook.c D_LiveBook_join (hr.mono (by decide)) takes0 (pa_cons (pe_callB call_lenN (by rfl) T.n_len (by decide +kernel) (pa_cons (pv 1) pa_nil)) pa_nil)))
    (pss_cons (ps_expr (pe_methX0 (pv 3) T.k_LiveBook.c D_LiveBook_undo (hr.mono (by decide)) takes0))
    (pss_cons (ps_expr (pe_methX0 (pv 3) T.k_LiveBook.c D_LiveBook_undo (hr.mono (by decide)) takes0))
    (pss_one (ps_ret (pv 3)))))))))))), ?_⟩
    refine w_start (σ' := [some (.ref a), some (.ref p), none, none, none]) rfl ?_
    walk_at "g"
    rename_i way k1 H1 w0 w1 hk1 hP1 f1
    have hp1 := f1.at (nn2 pa) hp
    have hA1 : Old H1 A0 := fun v hv => by
      obtain ⟨o, e⟩ := hA v hv
      by_cases z : v = a
      · subst z
        obtain ⟨_, _, z, _⟩ := hP1
        exact ⟨_, z⟩
      · exact ⟨o, f1.at (by simp [z]) e⟩
    have fin : ∀ (x dx : Addr) (init : List (List Int)) (H' : Hp), Live c H' x dx init xs A0 → Fr [] H1 H' → H1 x = none → Q (V.ref x) H' := fun x dx init H' L f n => by
      refine q x dx init k1 H' L hk1 (hP1.fr f List.not_mem_nil) (f1.then f) (f1.free (nn2 ?_) n)
      intro e
      obtain ⟨_, _, z, _⟩ := hP1
      rw [e, z] at n
      cases n
    clear f1 hp hA q hP1 hP
    refine w_ite (fun h0 => ?_) (fun h0 => ?_)
    · rw [if_pos rfl]
      walk_at "g"
      intro x dx nx ndx nex
      refine init_go hp1 (by omega) hx hA1 nx ndx (fun H3 L3 f3 => ⟨rfl, ?_⟩)
      walk_at "g"
      exact fin x dx [] H3 L3 f3 nx
    · walk_at "g"
      rename_i p4 np4
      have hp4 := at_upd (u := .lst []) hp1 np4
      refine w_ite (fun he => ?_) (fun hne => ?_)
      · walk_at "g"
        intro x dx nx ndx nex
        refine init_go hp4 (by omega) hx (hA1.fr (Fr.refl.new np4)) nx ndx (fun H3 L3 f3 => ⟨rfl, ?_⟩)
        walk_at "g"
        exact fin x dx [] H3 L3 ((Fr.refl.new np4).trans f3) (Fr.free (S := []) (Fr.refl.new np4) List.not_mem_nil nx)
      · have hpos := List.length_pos_iff.mpr hne
        walk_at "g"
        refine w_ite (fun h1 => ?_) (fun h1 => ?_)
        · walk_at "g"
          rename_i p5 np5
          intro x dx nx ndx nex
          have e1 : cutI xs none (some 1) = xs.take 1 := cutI_take xs 1
          have f5 : Fr [] H1 (upd (upd H1 p4 (.lst [])) p5 (.lst ((cutI xs none (some 1)).map V.int))) := (Fr.refl.new np4).new np5
          have hp5 := at_upd (u := .lst ((cutI xs none (some 1)).map V.int)) hp4 np5
          have nx1 : H1 x = none := Fr.free (S := []) f5 List.not_mem_nil nx
          refine init_go (ns := xs.take 1) (by rw [← e1]; exact upd_same) (by rw [List.length_take]; omega) (fun n hn => hx n (List.mem_of_mem_take hn)) (hA1.fr f5) nx ndx (fun H3 L3 f3 => ⟨rfl, ?_⟩)
          have hp3 := f3.at0 hp5
          have f13 := f5.trans f3
          have hA3 := hA1.fr f13
          have hx3 := L3.here
          clear f5 hp5 hp4 np5 np4 nx ndx nex f3
          walk_at "g"
          rename_i p6 np6
          have e2 : cutI xs (some 1) none = xs.drop 1 := cutI_drop xs 1
          rw [e2] at *
          have p6x : p6 ≠ x := (ne_of_none hx3 np6).symm
          refine f_list ((xs.drop 1).map V.int) (fun i σ' H' => ∃ (init : List (List Int)) (v : Option V), σ' = [some (.ref a), some (.ref p), some (.int way), some (.ref x), v] ∧ Live c H' x dx init (xs.take (i + 1)) A0 ∧ init.length ≤ i ∧ Fr [] H1 H' ∧ H' p6 = some (.lst ((xs.drop 1).map V.int))) ?_ ?_ ?_ ?_
          · exact ⟨[], none, rfl, L3.fr (S := []) (Fr.refl.new np6) (by simp), by simp, f13.new np6, upd_same⟩
          · rintro i σ' H' _ ⟨init, v, rfl, L, hi, f, g⟩
            exact .of g
          · rintro i y σ' H' hy ⟨init, v, rfl, L, hi, f, g⟩
            obtain ⟨n, hn, rfl⟩ := map_at hy
            rw [List.getElem?_drop] at hn
            have hn1 := hx n (List.mem_of_getElem? hn)
            have hlt := (List.getElem?_eq_some_iff.mp hn).1
            obtain ⟨qq, rr, ri, kk1, kk2, kk3, kk4, kk5⟩ := L.ex
            walk_at "g"
            refine added_go (xs := [n]) L (hA1.fr f) (by simp) (by omega) (by rw [List.length_take]; omega) (fun _ H4 L4 f4 => ?_) (fun j hb => (hb.not (by simpa using hn1)).elim)
            walk_at "g"
            refine ⟨init ++ [xs.take (i + 1)], _, rfl, ?_, by rw [List.length_append, List.length_singleton]; omega, f.loc nx1 f4, f4.at (nn2 p6x) g⟩
            have e3 : xs.take (i + 1) ++ [n] = xs.take (i + 1 + 1) := by
              rw [List.take_succ (i := i + 1), show i + 1 = 1 + i by omega, hn]
              rfl
            rw [← e3]
            exact L4
          · rintro σ' H' ⟨init, v, rfl, L, hi, f, g⟩
            walk_at "g"
            have e3 : xs.take ((List.map V.int (xs.drop 1)).length + 1) = xs := by
              rw [List.length_map, List.length_drop, List.take_of_length_le (by omega)]
            rw [e3] at L
            exact fin x dx init H' L f nx1
        · walk_at "g"
          rename_i p5 np5 p6 np6 p7 np7
          have e1 : cutI xs none (some 2) = xs.take 2 := cutI_take xs 2
          have e2 : cutI xs (some 2) none = xs.drop 2 := cutI_drop xs 2
          generalize cutI xs none (some 2) = t2 at *
          generalize cutI xs (some 2) none = d2 at *
          subst e1 e2
          have hd2 : (xs.drop 2).length ≤ xs.length := by rw [List.length_drop]; omega
          refine w_catI (ns := [(xs.take 2).sum]) (ms := xs.drop 2) (at_upd upd_same np7) upd_same (by simp only [List.length_singleton]; omega) (fun p8 np8 => ?_)
          walk_at "g"
          have f8 : Fr [] H1 (upd (upd (upd (upd (upd H1 p4 (.lst [])) p5 (.lst ((xs.take 2).map V.int))) p6 (.lst [.int (xs.take 2).sum])) p7 (.lst ((xs.drop 2).map V.int))) p8 (.lst (([(xs.take 2).sum] ++ xs.drop 2).map V.int))) := ((((Fr.refl.new np4).new np5).new np6).new np7).new np8
          have h8 : (upd (upd (upd (upd (upd H1 p4 (.lst [])) p5 (.lst ((xs.take 2).map V.int))) p6 (.lst [.int (xs.take 2).sum])) p7 (.lst ((xs.drop 2).map V.int))) p8 (.lst (([(xs.take 2).sum] ++ xs.drop 2).map V.int))) p8 = some (.lst (([(xs.take 2).sum] ++ xs.drop 2).map V.int)) := upd_same
          generalize upd (upd (upd (upd (upd H1 p4 (.lst [])) p5 (.lst ((xs.take 2).map V.int))) p6 (.lst [.int (xs.take 2).sum])) p7 (.lst ((xs.drop 2).map V.int))) p8 (.lst (([(xs.take 2).sum] ++ xs.drop 2).map V.int)) = H8 at f8 h8 ⊢
          have hp8 := f8.at0 hp1
          clear np4 np5 np6 np7 np8 hp4
          intro x dx nx ndx nex
          have nx1 : H1 x = none := f8.free List.not_mem_nil nx
          refine init_go h8 (by simp only [List.length_append, List.length_singleton]; omega) ?_ (hA1.fr f8) nx ndx (fun H3 L3 f3 => ⟨rfl, ?_⟩)
          · intro n hn
            rcases List.mem_append.mp hn with z | z
            · rw [List.mem_singleton.mp z]
              match xs, hpos, hx with
              | [u], _, hx =>
                have := hx u (by simp)
                simpa using this
              | u :: v :: r, _, hx =>
                have h1 := hx u (by simp)
                have h2 := hx v (by simp)
                show 1 ≤ ([u, v] : List Int).sum
                simp only [List.sum_cons, List.sum_nil]
                omega
            · exact hx n (List.mem_of_mem_drop z)
          have hp3 := f3.at0 hp8
          have f13 := f8.trans f3
          obtain ⟨qq, rr, ri, kk1, kk2, kk3, kk4, kk5⟩ := L3.ex
          have px : p ≠ x := (ne_of_none hp8 nx)
          clear f8 hp8 nx ndx nex f3 h8
          refine w_gname ?_
          dsimp only
          refine w_seq (w_ifJ (fun σ' H' => ∃ init : List (List Int), σ' = [some (.ref a), some (.ref p), some (.int way), some (.ref x), none] ∧ Live c H' x dx init xs A0 ∧ init.length ≤ 1 ∧ Fr [] H1 H' ∧ H' p = some (.lst (xs.map V.int))) (fun nxt rest => ?_) ?_)
          · walk_at "g"
            refine w_ite (fun h2 => ?_) (fun h2 => ?_)
            · match xs, h2, hx, hp3, L3, rest with
              | u :: v :: r, h2, hx, hp3, L3, rest =>
                have hu := hx u (by simp)
                have hv := hx v (by simp)
                have es : ([u, v] : List Int).sum = u + v := by simp
                walk_at "g"
                rename_i n0 hn0
                obtain rfl : u = n0 := Option.some.inj hn0
                refine ⟨x, dx, 1, u, [], _, A0, rfl, L3, hA1.fr f13, by simp, by simp only [List.length_append, List.length_singleton]; omega, fun y m1 m2 hy l1 l2 r4 H4 L4 f4 nr4 hr4 => ?_, fun h => absurd ⟨by decide, by simp only [List.length_append, List.length_singleton]; omega⟩ h, fun y m1 m2 hy h => ?_⟩
                · obtain rfl : y = u + v := by
                    have : some (([u, v] : List Int).sum) = some y := hy
                    rw [← es]
                    exact (Option.some.inj this).symm
                  walk_at "g"
                  refine rest _ _ ⟨[] ++ [[(List.take 2 (u :: v :: r)).sum] ++ List.drop 2 (u :: v :: r)], rfl, ?_, by simp, f13.loc nx1 f4, f4.at (nn2 px) hp3⟩
                  have e5 : splitI ([(List.take 2 (u :: v :: r)).sum] ++ List.drop 2 (u :: v :: r)) ((1 : Int) - 1).toNat u (u + v) = u :: v :: r := by
                    show ([] ++ [u, u + v - u]) ++ r = _
                    rw [show u + v - u = v by omega]
                    rfl
                  rw [e5] at L4
                  exact L4
                · obtain rfl : y = u + v := by
                    have : some (([u, v] : List Int).sum) = some y := hy
                    rw [← es]
                    exact (Option.some.inj this).symm
                  exact absurd ⟨hu, by omega⟩ h
            · walk_at "g"
              refine rest _ _ ⟨[], rfl, ?_, by simp, f13, hp3⟩
              match xs, hpos, h2, L3 with
              | [u], _, _, L3 =>
                have e5 : [(List.take 2 [u]).sum] ++ List.drop 2 [u] = [u] := by simp
                rw [e5] at L3
                exact L3
              | u :: v :: r, _, h2, _ => exact absurd (by simp only [List.length_cons]; omega) h2
          · rintro σ' H4 ⟨init, rfl, L4, hi, f14, hp4⟩
            dsimp only
            clear L3 hp3 f13 kk1 kk2 kk3 kk4 kk5
            obtain ⟨qq, rr, ri, kk1, kk2, kk3, kk4, kk5⟩ := L4.ex
            walk_at "g"
            refine added_go (xs := [3, 5]) L4 (hA1.fr f14) (by simp) (by omega) (by omega) (fun _ H5 L5 f5 => ?_) (fun j hb => (hb.not (by simp)).elim)
            have f15 := f14.loc nx1 f5
            have hp5 := f5.at (nn2 px) hp4
            clear kk1 kk2 kk3 kk4 kk5 f5
            obtain ⟨qq, rr, ri, kk1, kk2, kk3, kk4, kk5⟩ := L5.ex
            walk_at "g"
            refine ⟨x, dx, xs.length, init ++ [xs], xs ++ [3, 5], A0, rfl, L5, hA1.fr f15, by rw [List.length_append, List.length_singleton]; omega, by rw [List.length_append]; simp; omega, fun y z m1 m2 hy hz r6 H6 L6 f6 nr6 hr6 => ?_, fun h => absurd ⟨by omega, by rw [List.length_append]; simp; omega⟩ h⟩
            have f16 := f15.loc nx1 f6
            clear kk1 kk2 kk3 kk4 kk5
            obtain ⟨qq, rr, ri, kk1, kk2, kk3, kk4, kk5⟩ := L6.ex
            walk_at "g"
            refine ⟨x, dx, init ++ [xs] ++ [xs ++ [3, 5]], _, A0, rfl, L6, hA1.fr f16, by rw [List.length_append, List.length_append, List.length_singleton, List.length_singleton]; omega, fun init' ns' e7 H7 L7 f7 => ?_, fun h => by simp at h⟩
            obtain ⟨rfl, e8⟩ := List.append_inj' e7 rfl
            obtain rfl : xs ++ [3, 5] = ns' := List.singleton_inj.mp e8
            have f17 := f16.loc nx1 f7
            clear kk1 kk2 kk3 kk4 kk5
            obtain ⟨qq, rr, ri, kk1, kk2, kk3, kk4, kk5⟩ := L7.ex
            walk_at "g"
            refine ⟨x, dx, init ++ [xs], xs ++ [3, 5], A0, rfl, L7, hA1.fr f17, by rw [List.length_append, List.length_singleton]; omega, fun init' ns' e9 H8 L8 f8 => ?_, fun h => by simp at h⟩
            obtain ⟨rfl, e10⟩ := List.append_inj' e9 rfl
            obtain rfl : xs = ns' := List.singleton_inj.mp e10
            have f18 := f17.loc nx1 f8
            walk_at "g"
            exact fin x dx _ H8 L8 f18 nx1
def spRight25 (c : Cs) : Sp := fun vs H Q _ => ∃ (a : Addr) (k : Int), vs = [.ref a] ∧ Pool H a k ∧ k < 2 ^ 35 ∧ ∀ (k' : Int) (H' : Hp), k' ≤ k + 10000 → Pool H' a k' → Fr [a] H H' → Q (.bl true) H'
set_option maxHeartbeats 4000000 in
theorem ok_law_right (T : Txt K mg c) : DefAt P w K mg base "_law_right" s_law_right 7 ["pool"] (spRight25 c) := by
  have D_law_draw := ok_law_draw (P := P) (w := w) (base := base) T
  have D_law_book := ok_law_book (P := P) (w := w) (base := base) T
  have D_law_object := ok_law_object (P := P) (w := w) (base := base) T
  have D_law_varied := ok_law_varied (P := P) (w := w) (base := base) T
  have D_LiveBook___eq__ := ok_LiveBook___eq__ (P := P) (w := w) (base := base) T
  have D_LiveBook_book := ok_LiveBook_book (P := P) (w := w) (base := base) T
  have D_LiveBook_lines := ok_LiveBook_lines (P := P) (w := w) (base := base) T
  have cls_LiveBook := T.k_LiveBook.c
  have na_LiveBook_past := T.na_LiveBook_past
  refine T.f_law_right.ok sc_law_right (fun vs H Q E h => ?_) (fun _ _ _ _ _ _ us hl => match us, hl with | [_], _ => rfl) (fun f cdv A outer s H vs Q E hr h => ?_)
  · obtain ⟨a, k, rfl, hP, hk, q⟩ := h
    rfl
  · obtain ⟨a, k, rfl, hP, hk, q⟩ := h
    refine ⟨_, (pss_cons (ps_set (i := 1) sc_law_right.nd rfl (Or.inl rfl) (pe_callD D_law_book (hr.mono (by decide)) (pa_cons (pv 0) (pa_cons (pe_ix ix_list (pe_lst (pa_cons pe_int (pa_cons pe_int (pa_cons pe_int pa_nil)))) (pe_callD D_law_draw (hr.mono (by decide)) (pa_cons (pv 0) (pa_cons pe_int pa_nil))) (fun _ _ => rfl)) (pa_cons (pe_ix ix_list (pe_lst (pa_cons pe_int (pa_cons (pe_op op_powW pe_int pe_int) pa_nil))) (pe_callD D_law_draw (hr.mono (by decide)) (pa_cons (pv 0) (pa_cons pe_int pa_nil))) (fun _ _ => rfl)) pa_nil)))))
    (pss_cons (ps_set (i := 2) sc_law_right.nd rfl (Or.inl rfl) (pe_callD D_law_object (hr.mono (by decide)) (pa_cons (pv 0) (pa_cons (pv 1) pa_nil))))
    (pss_cons (ps_for PassesOwn.never rfl (pi_range1 (by rfl) T.n_range (pa_cons pe_int pa_nil)) (pg_name (i := 3) sc_law_right.nd rfl (Or.inl rfl)) (pss_cons (ps_set (i := 4) sc_law_right.nd rfl (Or.inl rfl) (pe_lst (pa_cons (pe_callD D_law_varied (hr.mono (by decide)) (pa_cons (pv 0) (pa_cons (pv 1) pa_nil))) (pa_cons (pe_callD D_law_varied (hr.mono (by decide)) (pa_cons (pv 0) (pa_cons (pe_callD D_law_varied (hr.mono (by decide)) (pa_cons (pv 0) (pa_cons (pv 1) pa_nil))) pa_nil))) (pa_cons (pe_callD D_law_book (hr.mono (by decide)) (pa_cons (pv 0) (pa_cons pe_int (pa_cons pe_int pa_nil)))) pa_nil)))))
    (pss_cons (ps_set (i := 5) sc_law_right.nd rfl (Or.inl rfl) (pe_ix ix_list (pv 4) (pe_callD D_law_draw (hr.mono (by decide)) (pa_cons (pv 0) (pa_cons pe_int pa_nil))) (fun _ _ => rfl)))
    (pss_cons (ps_set (i := 6) sc_law_right.nd rfl (Or.inl rfl) (pe_callD D_law_object (hr.mono (by decide)) (pa_cons (pv 0) (pa_cons (pv 5) pa_nil))))
    (pss_cons (ps_set (i := 7) sc_law_right.nd rfl (Or.inl rfl) (pe_cmpR (op_eqD hr.units) (pe_callB cr_sortedI (by rfl) T.n_sorted (by decide +kernel) (pa_cons (pv 5) pa_nil)) (pe_callB cr_sortedI (by rfl) T.n_sorted (by decide +kernel) (pa_cons (pv 1) pa_nil)) (nomark _)))
    (pss_one (ps_if (PW.pt (pw_or (pt_cmpR op_ne (pe_cmpR (op_eqM D_LiveBook___eq__ (hr.mono (by decide))) (pv 2) (pv 6) (nomark _)) (pv 7) (nomark _)) (pw_or (pt_cmpR op_ne (pe_cmpR (op_eqM D_LiveBook___eq__ (hr.mono (by decide))) (pv 6) (pv 2) (nomark _)) (pv 7) (nomark _)) (pw_or1 (pt_cmpR op_eq (pe_cmpR (op_neM D_LiveBook___eq__ T.k_LiveBook T.q_LiveBook (hr.mono (by decide))) (pv 2) (pv 6) (nomark _)) (pv 7) (nomark _)))))) (pss_one (ps_ret pe_bl)) pss_nil)))))))
    (pss_one (ps_ret (pe_cmpR (op_notInM D_LiveBook___eq__ T.k_LiveBook T.q_LiveBook (hr.mono (by decide))) (pv 2) (pe_lst (pa_cons pe_non (pa_cons (pv 1) (pa_cons (pe_callB cr_sortedI (by rfl) T.n_sorted (by decide +kernel) (pa_cons (pv 1) pa_nil)) (pa_cons (pe_lst (pa_cons (pv 1) pa_nil)) (pa_cons (pe_propD (pv 2) T.k_LiveBook.c D_LiveBook_book (hr.mono (by decide))) (pa_cons (pe_propD (pv 2) T.k_LiveBook.c D_LiveBook_lines (hr.mono (by decide))) (pa_cons pe_int (pa_cons pe_str pa_nil))))))))) (by rfl))))))), ?_⟩
    refine w_start (σ' := [some (.ref a), none, none, none, none, none, none, none]) rfl ?_
    walk_at "g"
    rename_i p1 np1 r1 k1 H1 r10 r11 hk1 hP1 f1 mo hmo p2 np2 r2 k2 H2 r20 r21 hk2 hP2 f2 far hfar
    have hf0 : 0 < far ∧ far ≤ 10 ^ 30 := by omega
    have hmo0 : 0 ≤ mo ∧ mo ≤ 40 := by omega
    have f02 : Fr [a] H H2 := ((((Fr.refl (S := [a]) (H := H)).new np1).trans f1).new np2).trans f2
    clear f1 f2 np1 np2 hP1 hmo hfar
    refine ⟨a, k2, mo, far, rfl, hP2, hmo0.1, by omega, hf0.1, by omega, by omega, fun B1 xs k3 H3 hl1 hx1 hk3 hP3 f3 nB1 hB1 => ?_⟩
    have B1a : B1 ≠ a := hP2.ne nB1
    have nB1H : H B1 = none := f02.free (nn2 B1a) nB1
    have hx1' : ∀ x ∈ xs, 1 ≤ x := fun x h => (hx1 x h).1
    walk_at "g"
    refine ⟨a, B1, k3, xs, [a, B1], rfl, hP3, B1a, hB1, by omega, hx1', by omega, ?_, fun x dx init k4 H4 L4 hk4 hP4 f4 nx => ?_⟩
    · intro v hv
      simp only [List.mem_cons, List.not_mem_nil, or_false] at hv
      rcases hv with rfl | rfl
      · obtain ⟨_, _, z, _⟩ := hP3
        exact ⟨_, z⟩
      · exact ⟨_, hB1⟩
    have hB14 := f4.at (nn2 B1a) hB1
    have f04 : Fr [a] H H4 := (f02.trans f3).trans f4
    clear f02 f3 f4 hB1 nB1 hP3
    walk_at "g"
    refine f_range (fun i σ' H' => ∃ (u3 u4 u5 u6 u7 : Option V) (init : List (List Int)) (k' : Int), σ' = [some (.ref a), some (.ref B1), some (.ref x), u3, u4, u5, u6, u7] ∧ Pool H' a k' ∧ k' ≤ k4 + 600 * i ∧ Fr [a] H H' ∧ Live c H' x dx init xs [a, B1] ∧ H' B1 = some (.lst (xs.map V.int))) ⟨none, none, none, none, none, init, k4, rfl, hP4, by omega, f04, L4, hB14⟩ ?_ ?_
    · rintro i σ' H' hi ⟨u3, u4, u5, u6, u7, init, k', rfl, hP5, hk5, f5, L5, hB5⟩
      walk_at "g"
      refine ⟨a, B1, k', xs, rfl, hP5, B1a, hB5, by omega, hx1', by omega, fun q1 ys1 k6 H6 l6 o6 hk6 hP6 f6 n6 h6 => ?_⟩
      have q1a : q1 ≠ a := hP5.ne n6
      have hB6 := f6.at (nn2 B1a) hB5
      have L6 := L5.fr f6 (by simp)
      have f06 := f5.trans f6
      clear f6 f5 hB5 L5 hP5 n6
      walk_at "g"
      refine ⟨a, B1, k6, xs, rfl, hP6, B1a, hB6, by omega, hx1', by omega, fun q2 ys2 k7 H7 l7 o7 hk7 hP7 f7 n7 h7 => ?_⟩
      have q2a : q2 ≠ a := hP6.ne n7
      have hB7 := f7.at (nn2 B1a) hB6
      have L7 := L6.fr f7 (by simp)
      have f07 := f06.trans f7
      have h71 := f7.at (nn2 q1a) h6
      clear f7 f06 hB6 L6 hP6 n7 h6
      walk_at "g"
      refine ⟨a, q2, k7, ys2, rfl, hP7, q2a, h7, by omega, o7, by omega, fun q3 ys3 k8 H8 l8 o8 hk8 hP8 f8 n8 h8 => ?_⟩
      have q3a : q3 ≠ a := hP7.ne n8
      have hB8 := f8.at (nn2 B1a) hB7
      have L8 := L7.fr f8 (by simp)
      have f08 := f07.trans f8
      have h81 := f8.at (nn2 q1a) h71
      clear f8 f07 hB7 L7 hP7 n8 h71 h7
      walk_at "g"
      refine ⟨a, k8, 4, 9, rfl, hP8, by omega, by omega, by omega, by omega, by omega, fun q4 ys4 k9 H9 l9 o9 hk9 hP9 f9 n9 h9 => ?_⟩
      have q4a : q4 ≠ a := hP8.ne n9
      have hB9 := f9.at (nn2 B1a) hB8
      have L9 := L8.fr f9 (by simp)
      have f09 := f08.trans f9
      have h91 := f9.at (nn2 q1a) h81
      have h93 := f9.at (nn2 q3a) h8
      clear f9 f08 hB8 L8 hP8 n9 h81 h8
      walk_at "g"
      rename_i p10 np10 r11 k11 H11 r110 r111 hk11 hP11 f11
      have f011 : Fr [a] H H11 := (f09.new np10).trans f11
      have L11 := (L9.fr (S := []) (Fr.refl.new (o := .lst ([q1, q3, q4].map V.ref)) np10) (by simp)).fr f11 (by simp)
      have hB11 := f11.at (nn2 B1a) (at_upd (u := .lst ([q1, q3, q4].map V.ref)) hB9 np10)
      have h111 := f11.at (nn2 q1a) (at_upd (u := .lst ([q1, q3, q4].map V.ref)) h91 np10)
      have h113 := f11.at (nn2 q3a) (at_upd (u := .lst ([q1, q3, q4].map V.ref)) h93 np10)
      have h114 := f11.at (nn2 q4a) (at_upd (u := .lst ([q1, q3, q4].map V.ref)) h9 np10)
      have hl11 := f11.at (nn2 (hP9.ne np10)) upd_same
      clear f11 f09 hB9 L9 hP9 np10 h91 h93 h9
      refine w_ixLR (ps := [q1, q3, q4]) hl11 r110 (by simp; omega) (fun B3 hB3 => ?_)
      obtain ⟨zs, hB3, B3a, hl3, hx3⟩ : ∃ zs : List Int, H11 B3 = some (.lst (zs.map V.int)) ∧ B3 ≠ a ∧ zs.length ≤ 60 ∧ ∀ x ∈ zs, 1 ≤ x := by
        have hm := List.mem_of_getElem? hB3
        simp only [List.mem_cons, List.not_mem_nil, or_false] at hm
        rcases hm with rfl | rfl | rfl
        · exact ⟨ys1, h111, q1a, by omega, o6⟩
        · exact ⟨ys3, h113, q3a, by omega, o8⟩
        · exact ⟨ys4, h114, q4a, by omega, fun x h => (o9 x h).1⟩
      clear h111 h113 h114 hl11
      walk_at "g"
      refine ⟨a, B3, k11, zs, [a], rfl, hP11, B3a, hB3, by omega, hx3, by omega, ?_, fun x2 dx2 init2 k12 H12 L12 hk12 hP12 f12 nx2 => ?_⟩
      · intro v hv
        rw [List.mem_singleton] at hv
        subst hv
        obtain ⟨_, _, z, _⟩ := hP11
        exact ⟨_, z⟩
      have f012 := f011.trans f12
      have L1 := L11.fr f12 (by simp)
      have hB12 := f12.at (nn2 B1a) hB11
      have hB312 := f12.at (nn2 B3a) hB3
      clear f12 f011 L11 hB11 hB3 hP11
      have K1 : LiveOk c H12 x xs := ⟨_, _, _, L1, by omega, hx1'⟩
      have K2 : LiveOk c H12 x2 zs := ⟨_, _, _, L12, by omega, hx3⟩
      walk_at "g"
      rename_i s1 p13 pm1 od1 np13 s2 p14 pm2 od2 np14
      have fS : Fr [] H12 (upd (upd H12 p13 (.lst (s1.map V.int))) p14 (.lst (s2.map V.int))) := (Fr.refl.new np13).new np14
      generalize upd (upd H12 p13 (.lst (s1.map V.int))) p14 (.lst (s2.map V.int)) = H14 at fS ⊢
      clear np13 np14
      have hdue : decide (s1 = s2) = decide (xs.Perm zs) := decide_eq_decide.mpr ((sorted_eq_iff pm1 od1 pm2 od2).trans ⟨List.Perm.symm, List.Perm.symm⟩)
      have hdue2 : decide (zs.Perm xs) = decide (xs.Perm zs) := decide_eq_decide.mpr ⟨List.Perm.symm, List.Perm.symm⟩
      rw [hdue]
      refine eqL (K1.fr fS) (K2.fr fS) (fun H15 f15 => ?_)
      walk_at "g"
      have hb : (decide (xs.Perm zs) != decide (xs.Perm zs)) = false := bne_self_eq_false _
      have hb2 : ((!decide (xs.Perm zs)) == decide (xs.Perm zs)) = false := by cases decide (xs.Perm zs) <;> rfl
      rw [hb, if_neg Bool.false_ne_true]
      have fT := fS.trans f15
      walk_at "g"
      refine eqL (K2.fr fT) (K1.fr fT) (fun H16 f16 => ?_)
      rw [hdue2]
      walk_at "g"
      rw [hb, if_neg Bool.false_ne_true]
      have fU := fT.trans f16
      walk_at "g"
      refine neL (K1.fr fU) (K2.fr fU) (fun H17 f17 => ?_)
      walk_at "g"
      rw [hb2, if_neg Bool.false_ne_true]
      have fV := fU.trans f17
      walk_at "g"
      exact ⟨_, _, _, _, _, init, k12, rfl, hP12.fr fV List.not_mem_nil, by omega, f012.trans fV.nil, L1.fr fV (by simp), fV.at0 hB12⟩
    · rintro σ' H' ⟨u3, u4, u5, u6, u7, init, k', rfl, hP5, hk5, f5, L5, hB5⟩
      obtain ⟨qq, rr, ri, kk1, kk2, kk3, kk4, kk5⟩ := L5.ex
      walk_at "g"
      rename_i s1 p6 pm1 od1 np6 p7 np7
      have fS : Fr [] H' (upd (upd H' p6 (.lst (s1.map V.int))) p7 (.lst [.ref B1])) := (Fr.refl.new np6).new np7
      have h6 := at_upd (u := .lst [.ref B1]) (upd_same (H := H') (a := p6) (o := .lst (s1.map V.int))) np7
      have h7 := upd_same (H := upd H' p6 (.lst (s1.map V.int))) (a := p7) (o := .lst [.ref B1])
      generalize upd (upd H' p6 (.lst (s1.map V.int))) p7 (.lst [.ref B1]) = H7 at fS h6 h7 ⊢
      clear np6 np7
      have L7 := L5.fr fS (by simp)
      refine ⟨x, dx, init, xs, [a, B1], rfl, L7, fun p8 np8 => ?_⟩
      have f8 := fS.new (o := .lst (xs.map V.int)) np8
      have L8 := L5.fr f8 (by simp)
      clear kk1 kk2 kk3 kk4 kk5
      obtain ⟨qq, rr, ri, kk1, kk2, kk3, kk4, kk5⟩ := L8.ex
      walk_at "g"
      refine ⟨x, dx, init, xs, [a, B1], rfl, L8, ?_⟩
      walk_at "g"
      rename_i p9 np9
      have f9 := f8.new (o := .lst [V.non, V.ref B1, V.ref p6, V.ref p7, V.ref p8, V.int xs.sum, V.int 0, V.str (Str.ofString "book")]) np9
      have hB9 := f9.at0 hB5
      have h69 := at_upd (u := .lst [V.non, V.ref B1, V.ref p6, V.ref p7, V.ref p8, V.int xs.sum, V.int 0, V.str (Str.ofString "book")]) (at_upd (u := .lst (xs.map V.int)) h6 np8) np9
      have h79 := at_upd (u := .lst [V.non, V.ref B1, V.ref p6, V.ref p7, V.ref p8, V.int xs.sum, V.int 0, V.str (Str.ofString "book")]) (at_upd (u := .lst (xs.map V.int)) h7 np8) np9
      have h89 := at_upd (u := .lst [V.non, V.ref B1, V.ref p6, V.ref p7, V.ref p8, V.int xs.sum, V.int 0, V.str (Str.ofString "book")]) (upd_same (H := H7) (a := p8) (o := .lst (xs.map V.int))) np9
      refine notInL (ns := xs) ⟨dx, init, [a, B1], L5.fr f9 (by simp), by omega, hx1'⟩ upd_same (fun z hz => ?_) (q k' _ (by omega) (hP5.fr f9 List.not_mem_nil) (f5.trans f9.nil))
      simp only [List.mem_cons, List.not_mem_nil, or_false] at hz
      rcases hz with rfl | rfl | rfl | rfl | rfl | rfl | rfl | rfl
      · exact .inl rfl
      · exact .inr (.inr (.inr ⟨_, _, rfl, hB9⟩))
      · exact .inr (.inr (.inr ⟨_, _, rfl, h69⟩))
      · exact .inr (.inr (.inr ⟨_, _, rfl, h79⟩))
      · exact .inr (.inr (.inr ⟨_, _, rfl, h89⟩))
      · exact .inr (.inl ⟨_, rfl⟩)
      · exact .inr (.inl ⟨_, rfl⟩)
      · exact .inr (.inr (.inl ⟨_, rfl⟩))
set_option maxHeartbeats 4000000 in
theorem ok_law (T : Txt K mg c) : DefAt P w K mg base "law" s_law 8 ["script"] (spLaw K) := by
  have D_law_pool := ok_law_pool (P := P) (w := w) (base := base) T
  have D_law_right := ok_law_right (P := P) (w := w) (base := base) T
  have D_LiveBook___init__ := ok_LiveBook___init__ (P := P) (w := w) (base := base) T
  have D_LiveBook___eq__ := ok_LiveBook___eq__ (P := P) (w := w) (base := base) T
  have cls_LiveBook := T.k_LiveBook.c
  have na_LiveBook_past := T.na_LiveBook_past
  refine T.f_law.ok sc_law (fun vs H Q E h => ?_) (fun _ _ _ _ _ _ us hl => match us, hl with | [_], _ => rfl) (fun f cdv A outer s H vs Q E hr h => ?_)
  · obtain ⟨a, ns, rfl, hS, hl, q⟩ := h
    rfl
  · obtain ⟨a, ns, rfl, hS, hl, q⟩ := h
    refine ⟨_, (pss_cons (ps_for PassesOwn.never rfl (pi_range1 (by rfl) T.n_range (pa_cons (pe_callB (call_max2N rfl) (by rfl) T.n_max (by decide +kernel) (pa_cons pe_int (pa_cons (pe_callB (call_min2N rfl) (by rfl) T.n_min (by decide +kernel) (pa_cons pe_int (pa_cons (pe_callB call_lenN (by rfl) T.n_len (by decide +kernel) (pa_cons (pv 0) pa_nil)) pa_nil))) pa_nil))) pa_nil)) (pg_name (i := 1) sc_law.nd rfl (Or.inl rfl)) (pss_cons (ps_set (i := 2) sc_law.nd rfl (Or.inl rfl) (pe_callD D_law_pool (hr.mono (by decide)) (pa_cons (pv 0) (pa_cons (pv 1) pa_nil))))
    (pss_one (ps_for PassesOwn.never rfl (pi_range1 (by rfl) T.n_range (pa_cons pe_int pa_nil)) (pg_name (i := 3) sc_law.nd rfl (Or.inl rfl)) (pss_one (ps_if (pt_not (pt_val (pe_callD D_law_right (hr.mono (by decide)) (pa_cons (pv 2) pa_nil)))) (pss_one (ps_ret pe_bl)) pss_nil))))))
    (pss_one (ps_ret (pe_and (pe_cmpR (op_neOM D_LiveBook___eq__ T.k_LiveBook T.q_LiveBook (hr.mono (by decide))) (pe_makeX T.k_LiveBook D_LiveBook___init__ (hr.mono (by decide)) takes0 (pa_cons (pe_lst pa_nil) pa_nil)) (pe_lst pa_nil) (nomark _)) (pe_one (pe_cmpR (op_eqM D_LiveBook___eq__ (hr.mono (by decide))) (pe_makeX T.k_LiveBook D_LiveBook___init__ (hr.mono (by decide)) takes0 (pa_cons (pe_lst (pa_cons pe_int (pa_cons pe_int pa_nil))) pa_nil)) (pe_makeX T.k_LiveBook D_LiveBook___init__ (hr.mono (by decide)) takes0 (pa_cons (pe_lst (pa_cons pe_int (pa_cons pe_int pa_nil))) pa_nil)) (nomark _))))))), ?_⟩
    refine w_start (σ' := [some (.ref a), none, none, none]) rfl ?_
    walk_at "g"
    refine w_lenI hS ?_
    walk_at "g"
    refine f_range (fun i σ' H' => ∃ u v t : Option V, σ' = [some (.ref a), u, v, t] ∧ Fr [] H H') ⟨_, _, _, rfl, Fr.refl⟩ ?_ ?_
    · rintro i σ' H' hi ⟨u, v, t, rfl, f1⟩
      have hi2 : i < 64 := by split at hi <;> split at hi <;> omega
      walk_at "g"
      refine ⟨a, ns, _, rfl, f1.seqL (by simp) hS, hl, by omega, by omega, fun p H2 f2 np hp => ?_⟩
      walk_at "g"
      refine f_range (fun j σ' H3 => ∃ (u : Option V) (k : Int), σ' = [some (.ref a), some (.int (0 + ↑i)), some (.ref p), u] ∧ Pool H3 p k ∧ k ≤ 10000 * j ∧ Fr [] H H3) ⟨_, 0, rfl, hp, by omega, f1.trans f2⟩ ?_ ?_
      · rintro j σ' H3 hj ⟨u, k, rfl, hp3, hk, f3⟩
        have hj2 : j < 4 := by omega
        walk_at "g"
        refine ⟨p, k, rfl, hp3, by omega, fun k' H4 hk' hp4 f4 => ?_⟩
        walk_at "g"
        exact ⟨_, k', rfl, hp4, by omega, f3.loc (f1.free (by simp) np) f4⟩
      · rintro σ' H3 ⟨u, k, rfl, _, _, f3⟩
        exact ⟨_, _, _, rfl, f3⟩
    · rintro σ' H' ⟨u, v, t, rfl, f1⟩
      walk_at "g"
      intro x dx nx ndx nex
      rename_i p0 np0
      refine init_go (ns := []) (A := []) upd_same (by simp) (by simp) (by intro v hv; simp at hv) nx ndx (fun H3 L3 f3 => ⟨rfl, ?_⟩)
      walk_at "g"
      rename_i p4 np4
      have L4 := L3.fr (S := []) (Fr.refl.new (o := .lst []) np4) (by simp)
      refine neLO (ns := []) ⟨dx, [], [], L4, by simp, by simp⟩ upd_same ⟨true, rfl, ?_⟩
      rw [if_pos rfl]
      clear L3 L4 np0 nx ndx nex f3 np4
      walk_at "g"
      rename_i p5 np5
      intro x5 dx5 nx5 ndx5 nex5
      refine init_go (ns := [1, 2]) (A := []) upd_same (by simp) (by simp) (by intro v hv; simp at hv) nx5 ndx5 (fun H6 L6 f6 => ⟨rfl, ?_⟩)
      walk_at "g"
      rename_i p7 np7
      intro x7 dx7 nx7 ndx7 nex7
      have L7 := L6.fr (S := []) (Fr.refl.new (o := .lst [.int 2, .int 1]) np7) (by simp)
      refine init_go (ns := [2, 1]) (A := []) upd_same (by simp) (by simp) (by intro v hv; simp at hv) nx7 ndx7 (fun H8 L8 f8 => ⟨rfl, ?_⟩)
      walk_at "g"
      have L9 := L7.fr f8 (by simp)
      refine eqL (ns := [1, 2]) (ms := [2, 1]) ⟨dx5, [], [], L9, by simp, by simp⟩ ⟨dx7, [], [], L8, by simp, by simp⟩ (fun H9 f9 => ?_)
      rw [decide_eq_true (show ([1, 2] : List Int).Perm [2, 1] by decide)]
      exact q _
end
/-! ### the end -/
theorem all_mk {l : PySem.W.OpenLaw} {w : World} {K : PySem.W.Frag} {h : Heap} {mg : Str → Option Value} {fa : Addr} (X : K.In h) (G : h.Ns mainGlobals mg) (hfa : mg "law" = some (.ref fa))
    {C_LiveBook : Addr}
    {C_InvalidBook : Addr}
    {C_InvalidNumber : Addr}
    {C_NothingToUndo : Addr}
    {C_BookError : Addr}
    {f1 : Addr} {od1 an1 : Option Addr} {sl1 : Array (Option Value)} {oc1 kV1 dc1 pm1 cd1 ct1 : Value}
    {f2 : Addr} {od2 an2 : Option Addr} {sl2 : Array (Option Value)} {oc2 kV2 dc2 pm2 cd2 ct2 : Value}
    {f3 : Addr} {od3 an3 : Option Addr} {sl3 : Array (Option Value)} {oc3 kV3 dc3 pm3 cd3 ct3 : Value}
    {f4 : Addr} {od4 an4 : Option Addr} {sl4 : Array (Option Value)} {oc4 kV4 dc4 pm4 cd4 ct4 : Value}
    {f5 : Addr} {od5 an5 : Option Addr} {sl5 : Array (Option Value)} {oc5 kV5 dc5 pm5 cd5 ct5 : Value}
    {f6 : Addr} {od6 an6 : Option Addr} {sl6 : Array (Option Value)} {oc6 kV6 dc6 pm6 cd6 ct6 : Value}
    {f7 : Addr} {od7 an7 : Option Addr} {sl7 : Array (Option Value)} {oc7 kV7 dc7 pm7 cd7 ct7 : Value}
    {f8 : Addr} {od8 an8 : Option Addr} {sl8 : Array (Option Value)} {oc8 kV8 dc8 pm8 cd8 ct8 : Value}
    {f9 : Addr} {od9 an9 : Option Addr} {sl9 : Array (Option Value)} {oc9 kV9 dc9 pm9 cd9 ct9 : Value}
    {f10 : Addr} {od10 an10 : Option Addr} {sl10 : Array (Option Value)} {oc10 kV10 dc10 pm10 cd10 ct10 : Value}
    {f11 : Addr} {od11 an11 : Option Addr} {sl11 : Array (Option Value)} {oc11 kV11 dc11 pm11 cd11 ct11 : Value}
    {q11 : Addr} {r11 : List Value}
    {f12 : Addr} {od12 an12 : Option Addr} {sl12 : Array (Option Value)} {oc12 kV12 dc12 pm12 cd12 ct12 : Value}
    {f13 : Addr} {od13 an13 : Option Addr} {sl13 : Array (Option Value)} {oc13 kV13 dc13 pm13 cd13 ct13 : Value}
    {f14 : Addr} {od14 an14 : Option Addr} {sl14 : Array (Option Value)} {oc14 kV14 dc14 pm14 cd14 ct14 : Value}
    {f15 : Addr} {od15 an15 : Option Addr} {sl15 : Array (Option Value)} {oc15 kV15 dc15 pm15 cd15 ct15 : Value}
    {q15 : Addr} {r15 : List Value}
    {f16 : Addr} {od16 an16 : Option Addr} {sl16 : Array (Option Value)} {oc16 kV16 dc16 pm16 cd16 ct16 : Value}
    {q16 : Addr} {r16 : List Value}
    {f17 : Addr} {od17 an17 : Option Addr} {sl17 : Array (Option Value)} {oc17 kV17 dc17 pm17 cd17 ct17 : Value}
    {f18 : Addr} {od18 an18 : Option Addr} {sl18 : Array (Option Value)} {oc18 kV18 dc18 pm18 cd18 ct18 : Value}
    {f19 : Addr} {od19 an19 : Option Addr} {sl19 : Array (Option Value)} {oc19 kV19 dc19 pm19 cd19 ct19 : Value}
    {f20 : Addr} {od20 an20 : Option Addr} {sl20 : Array (Option Value)} {oc20 kV20 dc20 pm20 cd20 ct20 : Value}
    {f21 : Addr} {od21 an21 : Option Addr} {sl21 : Array (Option Value)} {oc21 kV21 dc21 pm21 cd21 ct21 : Value}
    {f22 : Addr} {od22 an22 : Option Addr} {sl22 : Array (Option Value)} {oc22 kV22 dc22 pm22 cd22 ct22 : Value}
    {f23 : Addr} {od23 an23 : Option Addr} {sl23 : Array (Option Value)} {oc23 kV23 dc23 pm23 cd23 ct23 : Value}
    {f24 : Addr} {od24 an24 : Option Addr} {sl24 : Array (Option Value)} {oc24 kV24 dc24 pm24 cd24 ct24 : Value}
    {f25 : Addr} {od25 an25 : Option Addr} {sl25 : Array (Option Value)} {oc25 kV25 dc25 pm25 cd25 ct25 : Value}
    {f26 : Addr} {od26 an26 : Option Addr} {sl26 : Array (Option Value)} {oc26 kV26 dc26 pm26 cd26 ct26 : Value}
    {tk_MOST_SIZE : Tok}
    {nm_InvalidBook q_InvalidBook : Str} {N_InvalidBook : Addr} {bs_InvalidBook : List Value} {sn_InvalidBook : List Str} {sub_InvalidBook : List Value} {ab_InvalidBook : Bool} {col_InvalidBook : Option Bool} {dd_InvalidBook : Option Addr} {k0_InvalidBook k1_InvalidBook k2_InvalidBook k3_InvalidBook k5_InvalidBook : Option Value}
    {nm_InvalidNumber q_InvalidNumber : Str} {N_InvalidNumber : Addr} {bs_InvalidNumber : List Value} {sn_InvalidNumber : List Str} {sub_InvalidNumber : List Value} {ab_InvalidNumber : Bool} {col_InvalidNumber : Option Bool} {dd_InvalidNumber : Option Addr} {k0_InvalidNumber k1_InvalidNumber k2_InvalidNumber k3_InvalidNumber k5_InvalidNumber : Option Value}
    {nm_NothingToUndo q_NothingToUndo : Str} {N_NothingToUndo : Addr} {bs_NothingToUndo : List Value} {sn_NothingToUndo : List Str} {sub_NothingToUndo : List Value} {ab_NothingToUndo : Bool} {col_NothingToUndo : Option Bool} {dd_NothingToUndo : Option Addr} {k0_NothingToUndo k1_NothingToUndo k2_NothingToUndo k3_NothingToUndo k5_NothingToUndo : Option Value}
    (aC_LiveBook : PySem.W.nsIn K mainGlobals "LiveBook" = some (some (.ref C_LiveBook)))
    (aC_InvalidBook : PySem.W.nsIn K mainGlobals "InvalidBook" = some (some (.ref C_InvalidBook)))
    (aC_InvalidNumber : PySem.W.nsIn K mainGlobals "InvalidNumber" = some (some (.ref C_InvalidNumber)))
    (aC_NothingToUndo : PySem.W.nsIn K mainGlobals "NothingToUndo" = some (some (.ref C_NothingToUndo)))
    (aC_BookError : PySem.W.nsIn K mainGlobals "BookError" = some (some (.ref C_BookError)))
    (a1 : PySem.W.nsIn K mainGlobals "_law_draw" = some (some (.ref f1)))
    (l1 : K.lookup f1 = some ⟨oc1, od1, .func (PySem.W.fnOf "_law_draw" "_law_draw" (defArgs s_law_draw) (defBody s_law_draw) (defScope s_law_draw) .none kV1 dc1 pm1 an1 cd1 ct1), sl1⟩)
    (c1 : PySem.W.codeIn K cd1 "_law_draw" = true)
    (k1 : PySem.W.keepIn K (.ref f1) = true)
    (a2 : PySem.W.nsIn K mainGlobals "_law_length" = some (some (.ref f2)))
    (l2 : K.lookup f2 = some ⟨oc2, od2, .func (PySem.W.fnOf "_law_length" "_law_length" (defArgs s_law_length) (defBody s_law_length) (defScope s_law_length) .none kV2 dc2 pm2 an2 cd2 ct2), sl2⟩)
    (c2 : PySem.W.codeIn K cd2 "_law_length" = true)
    (k2 : PySem.W.keepIn K (.ref f2) = true)
    (a3 : PySem.W.nsIn K mainGlobals "_law_book" = some (some (.ref f3)))
    (l3 : K.lookup f3 = some ⟨oc3, od3, .func (PySem.W.fnOf "_law_book" "_law_book" (defArgs s_law_book) (defBody s_law_book) (defScope s_law_book) .none kV3 dc3 pm3 an3 cd3 ct3), sl3⟩)
    (c3 : PySem.W.codeIn K cd3 "_law_book" = true)
    (k3 : PySem.W.keepIn K (.ref f3) = true)
    (a4 : PySem.W.nsIn K mainGlobals "_law_pool" = some (some (.ref f4)))
    (l4 : K.lookup f4 = some ⟨oc4, od4, .func (PySem.W.fnOf "_law_pool" "_law_pool" (defArgs s_law_pool) (defBody s_law_pool) (defScope s_law_pool) .none kV4 dc4 pm4 an4 cd4 ct4), sl4⟩)
    (c4 : PySem.W.codeIn K cd4 "_law_pool" = true)
    (k4 : PySem.W.keepIn K (.ref f4) = true)
    (a5 : PySem.W.nsIn K mainGlobals "chapter_pages" = some (some (.ref f5)))
    (l5 : K.lookup f5 = some ⟨oc5, od5, .func (PySem.W.fnOf "chapter_pages" "chapter_pages" (defArgs s_chapter_pages) (defBody s_chapter_pages) (defScope s_chapter_pages) .none kV5 dc5 pm5 an5 cd5 ct5), sl5⟩)
    (c5 : PySem.W.codeIn K cd5 "chapter_pages" = true)
    (k5 : PySem.W.keepIn K (.ref f5) = true)
    (a6 : PySem.W.nsIn K mainGlobals "count_pages" = some (some (.ref f6)))
    (l6 : K.lookup f6 = some ⟨oc6, od6, .func (PySem.W.fnOf "count_pages" "count_pages" (defArgs s_count_pages) (defBody s_count_pages) (defScope s_count_pages) .none kV6 dc6 pm6 an6 cd6 ct6), sl6⟩)
    (c6 : PySem.W.codeIn K cd6 "count_pages" = true)
    (k6 : PySem.W.keepIn K (.ref f6) = true)
    (a7 : PySem.W.findIn K (.ref C_InvalidBook) "__init__" = some (some (.ref f7)))
    (i7 : PySem.W.isFn K (.ref f7) = true)
    (l7 : K.lookup f7 = some ⟨oc7, od7, .func (PySem.W.fnOf "__init__" "InvalidBook.__init__" (defArgs s_InvalidBook___init__) (defBody s_InvalidBook___init__) (defScope s_InvalidBook___init__) .none kV7 dc7 pm7 an7 cd7 ct7), sl7⟩)
    (c7 : PySem.W.codeIn K cd7 "InvalidBook.__init__" = true)
    (k7 : PySem.W.keepIn K (.ref f7) = true)
    (a8 : PySem.W.nsIn K mainGlobals "check_book" = some (some (.ref f8)))
    (l8 : K.lookup f8 = some ⟨oc8, od8, .func (PySem.W.fnOf "check_book" "check_book" (defArgs s_check_book) (defBody s_check_book) (defScope s_check_book) .none kV8 dc8 pm8 an8 cd8 ct8), sl8⟩)
    (c8 : PySem.W.codeIn K cd8 "check_book" = true)
    (k8 : PySem.W.keepIn K (.ref f8) = true)
    (a9 : PySem.W.findIn K (.ref C_LiveBook) "__init__" = some (some (.ref f9)))
    (i9 : PySem.W.isFn K (.ref f9) = true)
    (l9 : K.lookup f9 = some ⟨oc9, od9, .func (PySem.W.fnOf "__init__" "LiveBook.__init__" (defArgs s_LiveBook___init__) (defBody s_LiveBook___init__) (defScope s_LiveBook___init__) .none kV9 dc9 pm9 an9 cd9 ct9), sl9⟩)
    (c9 : PySem.W.codeIn K cd9 "LiveBook.__init__" = true)
    (k9 : PySem.W.keepIn K (.ref f9) = true)
    (a10 : PySem.W.findIn K (.ref C_LiveBook) "add" = some (some (.ref f10)))
    (i10 : PySem.W.isFn K (.ref f10) = true)
    (l10 : K.lookup f10 = some ⟨oc10, od10, .func (PySem.W.fnOf "add" "LiveBook.add" (defArgs s_LiveBook_add) (defBody s_LiveBook_add) (defScope s_LiveBook_add) .none kV10 dc10 pm10 an10 cd10 ct10), sl10⟩)
    (c10 : PySem.W.codeIn K cd10 "LiveBook.add" = true)
    (k10 : PySem.W.keepIn K (.ref f10) = true)
    (a11 : PySem.W.findIn K (.ref C_LiveBook) "book" = some (some (.ref q11)))
    (g11 : PySem.W.specialIn K (.ref q11) "__get__" = some (some (.builtin "property.__get__")))
    (t11 : PySem.W.takesIn K (.ref q11) = some true)
    (r11_ : PySem.W.recIn K q11 "property" = some (.ref f11 :: r11))
    (l11 : K.lookup f11 = some ⟨oc11, od11, .func (PySem.W.fnOf "book" "LiveBook.book" (defArgs s_LiveBook_book) (defBody s_LiveBook_book) (defScope s_LiveBook_book) .none kV11 dc11 pm11 an11 cd11 ct11), sl11⟩)
    (c11 : PySem.W.codeIn K cd11 "LiveBook.book" = true)
    (k11 : PySem.W.keepIn K (.ref f11) = true)
    (a12 : PySem.W.findIn K (.ref C_InvalidNumber) "__init__" = some (some (.ref f12)))
    (i12 : PySem.W.isFn K (.ref f12) = true)
    (l12 : K.lookup f12 = some ⟨oc12, od12, .func (PySem.W.fnOf "__init__" "InvalidNumber.__init__" (defArgs s_InvalidNumber___init__) (defBody s_InvalidNumber___init__) (defScope s_InvalidNumber___init__) .none kV12 dc12 pm12 an12 cd12 ct12), sl12⟩)
    (c12 : PySem.W.codeIn K cd12 "InvalidNumber.__init__" = true)
    (k12 : PySem.W.keepIn K (.ref f12) = true)
    (a13 : PySem.W.findIn K (.ref C_NothingToUndo) "__init__" = some (some (.ref f13)))
    (i13 : PySem.W.isFn K (.ref f13) = true)
    (l13 : K.lookup f13 = some ⟨oc13, od13, .func (PySem.W.fnOf "__init__" "NothingToUndo.__init__" (defArgs s_NothingToUndo___init__) (defBody s_NothingToUndo___init__) (defScope s_NothingToUndo___init__) .none kV13 dc13 pm13 an13 cd13 ct13), sl13⟩)
    (c13 : PySem.W.codeIn K cd13 "NothingToUndo.__init__" = true)
    (k13 : PySem.W.keepIn K (.ref f13) = true)
    (a14 : PySem.W.nsIn K mainGlobals "sizes_that_differ" = some (some (.ref f14)))
    (l14 : K.lookup f14 = some ⟨oc14, od14, .func (PySem.W.fnOf "sizes_that_differ" "sizes_that_differ" (defArgs s_sizes_that_differ) (defBody s_sizes_that_differ) (defScope s_sizes_that_differ) .none kV14 dc14 pm14 an14 cd14 ct14), sl14⟩)
    (c14 : PySem.W.codeIn K cd14 "sizes_that_differ" = true)
    (k14 : PySem.W.keepIn K (.ref f14) = true)
    (a15 : PySem.W.findIn K (.ref C_LiveBook) "chapters" = some (some (.ref q15)))
    (g15 : PySem.W.specialIn K (.ref q15) "__get__" = some (some (.builtin "property.__get__")))
    (t15 : PySem.W.takesIn K (.ref q15) = some true)
    (r15_ : PySem.W.recIn K q15 "property" = some (.ref f15 :: r15))
    (l15 : K.lookup f15 = some ⟨oc15, od15, .func (PySem.W.fnOf "chapters" "LiveBook.chapters" (defArgs s_LiveBook_chapters) (defBody s_LiveBook_chapters) (defScope s_LiveBook_chapters) .none kV15 dc15 pm15 an15 cd15 ct15), sl15⟩)
    (c15 : PySem.W.codeIn K cd15 "LiveBook.chapters" = true)
    (k15 : PySem.W.keepIn K (.ref f15) = true)
    (a16 : PySem.W.findIn K (.ref C_LiveBook) "lines" = some (some (.ref q16)))
    (g16 : PySem.W.specialIn K (.ref q16) "__get__" = some (some (.builtin "property.__get__")))
    (t16 : PySem.W.takesIn K (.ref q16) = some true)
    (r16_ : PySem.W.recIn K q16 "property" = some (.ref f16 :: r16))
    (l16 : K.lookup f16 = some ⟨oc16, od16, .func (PySem.W.fnOf "lines" "LiveBook.lines" (defArgs s_LiveBook_lines) (defBody s_LiveBook_lines) (defScope s_LiveBook_lines) .none kV16 dc16 pm16 an16 cd16 ct16), sl16⟩)
    (c16 : PySem.W.codeIn K cd16 "LiveBook.lines" = true)
    (k16 : PySem.W.keepIn K (.ref f16) = true)
    (a17 : PySem.W.findIn K (.ref C_LiveBook) "split" = some (some (.ref f17)))
    (i17 : PySem.W.isFn K (.ref f17) = true)
    (l17 : K.lookup f17 = some ⟨oc17, od17, .func (PySem.W.fnOf "split" "LiveBook.split" (defArgs s_LiveBook_split) (defBody s_LiveBook_split) (defScope s_LiveBook_split) .none kV17 dc17 pm17 an17 cd17 ct17), sl17⟩)
    (c17 : PySem.W.codeIn K cd17 "LiveBook.split" = true)
    (k17 : PySem.W.keepIn K (.ref f17) = true)
    (a18 : PySem.W.findIn K (.ref C_LiveBook) "join" = some (some (.ref f18)))
    (i18 : PySem.W.isFn K (.ref f18) = true)
    (l18 : K.lookup f18 = some ⟨oc18, od18, .func (PySem.W.fnOf "join" "LiveBook.join" (defArgs s_LiveBook_join) (defBody s_LiveBook_join) (defScope s_LiveBook_join) .none kV18 dc18 pm18 an18 cd18 ct18), sl18⟩)
    (c18 : PySem.W.codeIn K cd18 "LiveBook.join" = true)
    (k18 : PySem.W.keepIn K (.ref f18) = true)
    (a19 : PySem.W.findIn K (.ref C_LiveBook) "undo" = some (some (.ref f19)))
    (i19 : PySem.W.isFn K (.ref f19) = true)
    (l19 : K.lookup f19 = some ⟨oc19, od19, .func (PySem.W.fnOf "undo" "LiveBook.undo" (defArgs s_LiveBook_undo) (defBody s_LiveBook_undo) (defScope s_LiveBook_undo) .none kV19 dc19 pm19 an19 cd19 ct19), sl19⟩)
    (c19 : PySem.W.codeIn K cd19 "LiveBook.undo" = true)
    (k19 : PySem.W.keepIn K (.ref f19) = true)
    (a20 : PySem.W.nsIn K mainGlobals "same_counts" = some (some (.ref f20)))
    (l20 : K.lookup f20 = some ⟨oc20, od20, .func (PySem.W.fnOf "same_counts" "same_counts" (defArgs s_same_counts) (defBody s_same_counts) (defScope s_same_counts) .none kV20 dc20 pm20 an20 cd20 ct20), sl20⟩)
    (c20 : PySem.W.codeIn K cd20 "same_counts" = true)
    (k20 : PySem.W.keepIn K (.ref f20) = true)
    (a21 : PySem.W.findIn K (.ref C_LiveBook) "__eq__" = some (some (.ref f21)))
    (i21 : PySem.W.isFn K (.ref f21) = true)
    (l21 : K.lookup f21 = some ⟨oc21, od21, .func (PySem.W.fnOf "__eq__" "LiveBook.__eq__" (defArgs s_LiveBook___eq__) (defBody s_LiveBook___eq__) (defScope s_LiveBook___eq__) .none kV21 dc21 pm21 an21 cd21 ct21), sl21⟩)
    (c21 : PySem.W.codeIn K cd21 "LiveBook.__eq__" = true)
    (k21 : PySem.W.keepIn K (.ref f21) = true)
    (a22 : PySem.W.nsIn K mainGlobals "_law_mixed" = some (some (.ref f22)))
    (l22 : K.lookup f22 = some ⟨oc22, od22, .func (PySem.W.fnOf "_law_mixed" "_law_mixed" (defArgs s_law_mixed) (defBody s_law_mixed) (defScope s_law_mixed) .none kV22 dc22 pm22 an22 cd22 ct22), sl22⟩)
    (c22 : PySem.W.codeIn K cd22 "_law_mixed" = true)
    (k22 : PySem.W.keepIn K (.ref f22) = true)
    (a23 : PySem.W.nsIn K mainGlobals "_law_varied" = some (some (.ref f23)))
    (l23 : K.lookup f23 = some ⟨oc23, od23, .func (PySem.W.fnOf "_law_varied" "_law_varied" (defArgs s_law_varied) (defBody s_law_varied) (defScope s_law_varied) .none kV23 dc23 pm23 an23 cd23 ct23), sl23⟩)
    (c23 : PySem.W.codeIn K cd23 "_law_varied" = true)
    (k23 : PySem.W.keepIn K (.ref f23) = true)
    (a24 : PySem.W.nsIn K mainGlobals "_law_object" = some (some (.ref f24)))
    (l24 : K.lookup f24 = some ⟨oc24, od24, .func (PySem.W.fnOf "_law_object" "_law_object" (defArgs s_law_object) (defBody s_law_object) (defScope s_law_object) .none kV24 dc24 pm24 an24 cd24 ct24), sl24⟩)
    (c24 : PySem.W.codeIn K cd24 "_law_object" = true)
    (k24 : PySem.W.keepIn K (.ref f24) = true)
    (a25 : PySem.W.nsIn K mainGlobals "_law_right" = some (some (.ref f25)))
    (l25 : K.lookup f25 = some ⟨oc25, od25, .func (PySem.W.fnOf "_law_right" "_law_right" (defArgs s_law_right) (defBody s_law_right) (defScope s_law_right) .none kV25 dc25 pm25 an25 cd25 ct25), sl25⟩)
    (c25 : PySem.W.codeIn K cd25 "_law_right" = true)
    (k25 : PySem.W.keepIn K (.ref f25) = true)
    (a26 : PySem.W.nsIn K mainGlobals "law" = some (some (.ref f26)))
    (l26 : K.lookup f26 = some ⟨oc26, od26, .func (PySem.W.fnOf "law" "law" (defArgs s_law) (defBody s_law) (defScope s_law) .none kV26 dc26 pm26 an26 cd26 ct26), sl26⟩)
    (c26 : PySem.W.codeIn K cd26 "law" = true)
    (k26 : PySem.W.keepIn K (.ref f26) = true)
    (z_abs : PySem.W.nsIn K mainGlobals "abs" = some none)
    (z_enumerate : PySem.W.nsIn K mainGlobals "enumerate" = some none)
    (z_isinstance : PySem.W.nsIn K mainGlobals "isinstance" = some none)
    (z_len : PySem.W.nsIn K mainGlobals "len" = some none)
    (z_list : PySem.W.nsIn K mainGlobals "list" = some none)
    (z_max : PySem.W.nsIn K mainGlobals "max" = some none)
    (z_min : PySem.W.nsIn K mainGlobals "min" = some none)
    (z_range : PySem.W.nsIn K mainGlobals "range" = some none)
    (z_sorted : PySem.W.nsIn K mainGlobals "sorted" = some none)
    (z_sum : PySem.W.nsIn K mainGlobals "sum" = some none)
    (v_MOST_SIZE : PySem.W.nsIn K mainGlobals "MOST_SIZE" = some (some (.int 100 tk_MOST_SIZE)))
    (pg_LiveBook : PySem.W.plainGet K C_LiveBook Str.empty = true)
    (hd_LiveBook : PySem.W.hasDictIn K C_LiveBook = true)
    (po_LiveBook : PySem.W.plainOver K C_LiveBook = true)
    (sa_LiveBook : PySem.W.findIn K (.ref C_LiveBook) "__setattr__" = some (some (.builtin "object.__setattr__")))
    (mk_LiveBook : PySem.W.makesIn K C_LiveBook = true)
    (kc_LiveBook : PySem.W.keepIn K (.ref C_LiveBook) = true)
    (na_LiveBook_past : PySem.W.findIn K (.ref C_LiveBook) "past" = some none)
    (qn_LiveBook : PySem.W.findIn K (.ref C_LiveBook) "__ne__" = some (some (.builtin "object.__ne__")))
    (qt_LiveBook : PySem.W.typeIn K (.ref C_LiveBook) = some (.type "type"))
    (qc_LiveBook : PySem.W.findIn K (.ref C_LiveBook) "__class__" = some (some (.builtin "object.__class__")))
    (qm_LiveBook : PySem.W.mroIn K C_LiveBook (.type "object") = some true)
    (qN_LiveBook : PySem.W.subIn K (.ref C_LiveBook) (.type "NoneType") = some false)
    (qi_LiveBook : PySem.W.subIn K (.ref C_LiveBook) (.type "int") = some false)
    (qs_LiveBook : PySem.W.subIn K (.ref C_LiveBook) (.type "str") = some false)
    (ql_LiveBook : PySem.W.subIn K (.ref C_LiveBook) (.type "list") = some false)
    (rd_B : PySem.W.readsIn K C_BookError (.type "type") = true)
    (ga_B : PySem.W.specialIn K (.ref C_BookError) "__getattribute__" = some (some (.builtin "type.__getattribute__")))
    (fi_B : PySem.W.findCls K (.ref C_BookError) (.type "type") "__init__" = some (.val (.builtin "ValueError.__init__")))
    (hd_B : PySem.W.hasDictIn K C_BookError = true)
    (ty_B : PySem.W.typeIn K (.ref C_BookError) = some (.type "type"))
    (xe_B : PySem.W.subIn K (.ref C_BookError) (.type "BaseException") = some true)
    (cn_B : PySem.W.specialIn K (.builtin "object.__class__") "__get__" = some (some (.builtin "getset_descriptor.__get__")))
    (ct_B : PySem.W.takesIn K (.builtin "object.__class__") = some true)
    (xl_InvalidBook : K.lookup C_InvalidBook = some (excClassObj nm_InvalidBook q_InvalidBook C_InvalidBook N_InvalidBook bs_InvalidBook [.ref C_BookError, .type "ValueError", .type "Exception", .type "BaseException", .type "object"] true sn_InvalidBook sub_InvalidBook ab_InvalidBook col_InvalidBook dd_InvalidBook k0_InvalidBook k1_InvalidBook k2_InvalidBook k3_InvalidBook k5_InvalidBook "ValueError.__new__"))
    (xkp_InvalidBook : PySem.W.keepIn K (.ref C_InvalidBook) = true)
    (xsa_InvalidBook : PySem.W.findIn K (.ref C_InvalidBook) "__setattr__" = some (some (.builtin "object.__setattr__")))
    (xex_InvalidBook : PySem.W.subIn K (.ref C_InvalidBook) (.type "BaseException") = some true)
    (xty_InvalidBook : PySem.W.typeIn K (.ref C_InvalidBook) = some (.type "type"))
    (xga_InvalidBook : PySem.W.findIn K (.ref C_InvalidBook) "__getattribute__" = some (some (.builtin "BaseException.__getattribute__")))
    (xgg_InvalidBook : PySem.W.findIn K (.ref C_InvalidBook) "__getattr__" = some none)
    (xhd_InvalidBook : PySem.W.hasDictIn K C_InvalidBook = true)
    (xcl_InvalidBook : PySem.W.findIn K (.ref C_InvalidBook) "__class__" = some (some (.builtin "object.__class__")))
    (xcm_InvalidBook : PySem.W.mroIn K C_InvalidBook (.type "object") = some true)
    (xno_InvalidBook : PySem.W.findIn K (.ref C_InvalidBook) "value" = some none)
    (xl_InvalidNumber : K.lookup C_InvalidNumber = some (excClassObj nm_InvalidNumber q_InvalidNumber C_InvalidNumber N_InvalidNumber bs_InvalidNumber [.ref C_BookError, .type "ValueError", .type "Exception", .type "BaseException", .type "object"] true sn_InvalidNumber sub_InvalidNumber ab_InvalidNumber col_InvalidNumber dd_InvalidNumber k0_InvalidNumber k1_InvalidNumber k2_InvalidNumber k3_InvalidNumber k5_InvalidNumber "ValueError.__new__"))
    (xkp_InvalidNumber : PySem.W.keepIn K (.ref C_InvalidNumber) = true)
    (xsa_InvalidNumber : PySem.W.findIn K (.ref C_InvalidNumber) "__setattr__" = some (some (.builtin "object.__setattr__")))
    (xex_InvalidNumber : PySem.W.subIn K (.ref C_InvalidNumber) (.type "BaseException") = some true)
    (xty_InvalidNumber : PySem.W.typeIn K (.ref C_InvalidNumber) = some (.type "type"))
    (xga_InvalidNumber : PySem.W.findIn K (.ref C_InvalidNumber) "__getattribute__" = some (some (.builtin "BaseException.__getattribute__")))
    (xgg_InvalidNumber : PySem.W.findIn K (.ref C_InvalidNumber) "__getattr__" = some none)
    (xhd_InvalidNumber : PySem.W.hasDictIn K C_InvalidNumber = true)
    (xcl_InvalidNumber : PySem.W.findIn K (.ref C_InvalidNumber) "__class__" = some (some (.builtin "object.__class__")))
    (xcm_InvalidNumber : PySem.W.mroIn K C_InvalidNumber (.type "object") = some true)
    (xno_InvalidNumber : PySem.W.findIn K (.ref C_InvalidNumber) "value" = some none)
    (xl_NothingToUndo : K.lookup C_NothingToUndo = some (excClassObj nm_NothingToUndo q_NothingToUndo C_NothingToUndo N_NothingToUndo bs_NothingToUndo [.ref C_BookError, .type "ValueError", .type "Exception", .type "BaseException", .type "object"] true sn_NothingToUndo sub_NothingToUndo ab_NothingToUndo col_NothingToUndo dd_NothingToUndo k0_NothingToUndo k1_NothingToUndo k2_NothingToUndo k3_NothingToUndo k5_NothingToUndo "ValueError.__new__"))
    (xkp_NothingToUndo : PySem.W.keepIn K (.ref C_NothingToUndo) = true)
    (xsa_NothingToUndo : PySem.W.findIn K (.ref C_NothingToUndo) "__setattr__" = some (some (.builtin "object.__setattr__")))
    (xex_NothingToUndo : PySem.W.subIn K (.ref C_NothingToUndo) (.type "BaseException") = some true)
    (xty_NothingToUndo : PySem.W.typeIn K (.ref C_NothingToUndo) = some (.type "type"))
    (xga_NothingToUndo : PySem.W.findIn K (.ref C_NothingToUndo) "__getattribute__" = some (some (.builtin "BaseException.__getattribute__")))
    (xgg_NothingToUndo : PySem.W.findIn K (.ref C_NothingToUndo) "__getattr__" = some none)
    (xhd_NothingToUndo : PySem.W.hasDictIn K C_NothingToUndo = true)
    (xcl_NothingToUndo : PySem.W.findIn K (.ref C_NothingToUndo) "__class__" = some (some (.builtin "object.__class__")))
    (xcm_NothingToUndo : PySem.W.mroIn K C_NothingToUndo (.type "object") = some true)
    (xno_NothingToUndo : PySem.W.findIn K (.ref C_NothingToUndo) "value" = some none)
    (sb_InvalidBook_InvalidBook : PySem.W.subIn K (.ref C_InvalidBook) (.ref C_InvalidBook) = some true)
    (sb_InvalidBook_InvalidNumber : PySem.W.subIn K (.ref C_InvalidBook) (.ref C_InvalidNumber) = some false)
    (sb_InvalidBook_NothingToUndo : PySem.W.subIn K (.ref C_InvalidBook) (.ref C_NothingToUndo) = some false)
    (sb_InvalidBook_BookError : PySem.W.subIn K (.ref C_InvalidBook) (.ref C_BookError) = some true)
    (sb_InvalidBook_ValueError : PySem.W.subIn K (.ref C_InvalidBook) (.type "ValueError") = some true)
    (sb_InvalidNumber_InvalidBook : PySem.W.subIn K (.ref C_InvalidNumber) (.ref C_InvalidBook) = some false)
    (sb_InvalidNumber_InvalidNumber : PySem.W.subIn K (.ref C_InvalidNumber) (.ref C_InvalidNumber) = some true)
    (sb_InvalidNumber_NothingToUndo : PySem.W.subIn K (.ref C_InvalidNumber) (.ref C_NothingToUndo) = some false)
    (sb_InvalidNumber_BookError : PySem.W.subIn K (.ref C_InvalidNumber) (.ref C_BookError) = some true)
    (sb_InvalidNumber_ValueError : PySem.W.subIn K (.ref C_InvalidNumber) (.type "ValueError") = some true)
    (sb_NothingToUndo_InvalidBook : PySem.W.subIn K (.ref C_NothingToUndo) (.ref C_InvalidBook) = some false)
    (sb_NothingToUndo_InvalidNumber : PySem.W.subIn K (.ref C_NothingToUndo) (.ref C_InvalidNumber) = some false)
    (sb_NothingToUndo_NothingToUndo : PySem.W.subIn K (.ref C_NothingToUndo) (.ref C_NothingToUndo) = some true)
    (sb_NothingToUndo_BookError : PySem.W.subIn K (.ref C_NothingToUndo) (.ref C_BookError) = some true)
    (sb_NothingToUndo_ValueError : PySem.W.subIn K (.ref C_NothingToUndo) (.type "ValueError") = some true) :
    ∃ fd : FuncData, (∀ (s : Shared) (v : Value), BindsTo s fd ⟨[v], []⟩ [("script", v)]) ∧ ∀ base : Heap, K.In base → base.Ns mainGlobals mg → FnOk l.prog w K mg base CX0 8 fa fd ["script"] (spLaw K) := by
  have T : Txt K mg ⟨C_LiveBook, C_InvalidBook, C_InvalidNumber, C_NothingToUndo, C_BookError, ()⟩ := ⟨trivial,
    PySem.W.mg_none_of X G z_abs,
    PySem.W.mg_none_of X G z_enumerate,
    PySem.W.mg_none_of X G z_isinstance,
    PySem.W.mg_none_of X G z_len,
    PySem.W.mg_none_of X G z_list,
    PySem.W.mg_none_of X G z_max,
    PySem.W.mg_none_of X G z_min,
    PySem.W.mg_none_of X G z_range,
    PySem.W.mg_none_of X G z_sorted,
    PySem.W.mg_none_of X G z_sum,
    ⟨tk_MOST_SIZE, PySem.W.mg_of X G v_MOST_SIZE⟩,
    ⟨PySem.W.mg_of X G aC_LiveBook, ⟨pg_LiveBook, hd_LiveBook, po_LiveBook, sa_LiveBook⟩, mk_LiveBook, kc_LiveBook⟩,
    na_LiveBook_past,
    ⟨qn_LiveBook, qt_LiveBook, qc_LiveBook, cn_B, ct_B, qm_LiveBook, ⟨qN_LiveBook, qi_LiveBook, qs_LiveBook, ql_LiveBook⟩⟩,
    ⟨PySem.W.mg_of X G aC_BookError, rd_B, ga_B, fi_B⟩,
    hd_B,
    ty_B,
    xe_B,
    ⟨PySem.W.mg_of X G aC_InvalidBook, xkp_InvalidBook, ⟨⟨_, _, _, _, _, _, _, _, _, _, _, _, _, _, _, xl_InvalidBook, by rfl⟩, xsa_InvalidBook, xex_InvalidBook, xty_InvalidBook, xkp_InvalidBook⟩, xga_InvalidBook, xgg_InvalidBook, xhd_InvalidBook, xcl_InvalidBook, cn_B, ct_B, xcm_InvalidBook, xno_InvalidBook⟩,
    ⟨PySem.W.mg_of X G aC_InvalidNumber, xkp_InvalidNumber, ⟨⟨_, _, _, _, _, _, _, _, _, _, _, _, _, _, _, xl_InvalidNumber, by rfl⟩, xsa_InvalidNumber, xex_InvalidNumber, xty_InvalidNumber, xkp_InvalidNumber⟩, xga_InvalidNumber, xgg_InvalidNumber, xhd_InvalidNumber, xcl_InvalidNumber, cn_B, ct_B, xcm_InvalidNumber, xno_InvalidNumber⟩,
    ⟨PySem.W.mg_of X G aC_NothingToUndo, xkp_NothingToUndo, ⟨⟨_, _, _, _, _, _, _, _, _, _, _, _, _, _, _, xl_NothingToUndo, by rfl⟩, xsa_NothingToUndo, xex_NothingToUndo, xty_NothingToUndo, xkp_NothingToUndo⟩, xga_NothingToUndo, xgg_NothingToUndo, xhd_NothingToUndo, xcl_NothingToUndo, cn_B, ct_B, xcm_NothingToUndo, xno_NothingToUndo⟩,
    sb_InvalidBook_InvalidBook,
    sb_InvalidBook_InvalidNumber,
    sb_InvalidBook_NothingToUndo,
    sb_InvalidBook_BookError,
    sb_InvalidBook_ValueError,
    sb_InvalidNumber_InvalidBook,
    sb_InvalidNumber_InvalidNumber,
    sb_InvalidNumber_NothingToUndo,
    sb_InvalidNumber_BookError,
    sb_InvalidNumber_ValueError,
    sb_NothingToUndo_InvalidBook,
    sb_NothingToUndo_InvalidNumber,
    sb_NothingToUndo_NothingToUndo,
    sb_NothingToUndo_BookError,
    sb_NothingToUndo_ValueError,
    ⟨⟨_, _, PySem.W.mg_of X G a1, fun_mk (st := s_law_draw) l1 c1 k1⟩⟩,
    ⟨⟨_, _, PySem.W.mg_of X G a2, fun_mk (st := s_law_length) l2 c2 k2⟩⟩,
    ⟨⟨_, _, PySem.W.mg_of X G a3, fun_mk (st := s_law_book) l3 c3 k3⟩⟩,
    ⟨⟨_, _, PySem.W.mg_of X G a4, fun_mk (st := s_law_pool) l4 c4 k4⟩⟩,
    ⟨⟨_, _, PySem.W.mg_of X G a5, fun_mk (st := s_chapter_pages) l5 c5 k5⟩⟩,
    ⟨⟨_, _, PySem.W.mg_of X G a6, fun_mk (st := s_count_pages) l6 c6 k6⟩⟩,
    ⟨⟨_, _, ⟨a7, i7, k7⟩, fun_mk (st := s_InvalidBook___init__) l7 c7 k7⟩⟩,
    ⟨⟨_, _, PySem.W.mg_of X G a8, fun_mk (st := s_check_book) l8 c8 k8⟩⟩,
    ⟨⟨_, _, ⟨a9, i9, k9⟩, fun_mk (st := s_LiveBook___init__) l9 c9 k9⟩⟩,
    ⟨⟨_, _, ⟨a10, i10, k10⟩, fun_mk (st := s_LiveBook_add) l10 c10 k10⟩⟩,
    ⟨⟨_, _, _, ⟨a11, g11, t11, ⟨_, r11_⟩⟩, fun_mk (st := s_LiveBook_book) l11 c11 k11⟩⟩,
    ⟨⟨_, _, ⟨a12, i12, k12⟩, fun_mk (st := s_InvalidNumber___init__) l12 c12 k12⟩⟩,
    ⟨⟨_, _, ⟨a13, i13, k13⟩, fun_mk (st := s_NothingToUndo___init__) l13 c13 k13⟩⟩,
    ⟨⟨_, _, PySem.W.mg_of X G a14, fun_mk (st := s_sizes_that_differ) l14 c14 k14⟩⟩,
    ⟨⟨_, _, _, ⟨a15, g15, t15, ⟨_, r15_⟩⟩, fun_mk (st := s_LiveBook_chapters) l15 c15 k15⟩⟩,
    ⟨⟨_, _, _, ⟨a16, g16, t16, ⟨_, r16_⟩⟩, fun_mk (st := s_LiveBook_lines) l16 c16 k16⟩⟩,
    ⟨⟨_, _, ⟨a17, i17, k17⟩, fun_mk (st := s_LiveBook_split) l17 c17 k17⟩⟩,
    ⟨⟨_, _, ⟨a18, i18, k18⟩, fun_mk (st := s_LiveBook_join) l18 c18 k18⟩⟩,
    ⟨⟨_, _, ⟨a19, i19, k19⟩, fun_mk (st := s_LiveBook_undo) l19 c19 k19⟩⟩,
    ⟨⟨_, _, PySem.W.mg_of X G a20, fun_mk (st := s_same_counts) l20 c20 k20⟩⟩,
    ⟨⟨_, _, ⟨a21, i21, k21⟩, fun_mk (st := s_LiveBook___eq__) l21 c21 k21⟩⟩,
    ⟨⟨_, _, PySem.W.mg_of X G a22, fun_mk (st := s_law_mixed) l22 c22 k22⟩⟩,
    ⟨⟨_, _, PySem.W.mg_of X G a23, fun_mk (st := s_law_varied) l23 c23 k23⟩⟩,
    ⟨⟨_, _, PySem.W.mg_of X G a24, fun_mk (st := s_law_object) l24 c24 k24⟩⟩,
    ⟨⟨_, _, PySem.W.mg_of X G a25, fun_mk (st := s_law_right) l25 c25 k25⟩⟩,
    ⟨⟨_, _, PySem.W.mg_of X G a26, fun_mk (st := s_law) l26 c26 k26⟩⟩⟩
  have e := hfa.symm.trans (PySem.W.mg_of X G a26)
  cases e
  refine ⟨PySem.W.fnOf "law" "law" (defArgs s_law) (defBody s_law) (defScope s_law) .none kV26 dc26 pm26 an26 cd26 ct26, fun s v => .of_eq rfl, fun base _ _ => ?_⟩
  obtain ⟨f, fd, hm, F, O, B⟩ := (ok_law (P := l.prog) (w := w) (base := base) T).ex
  have e2 := hm.symm.trans (PySem.W.mg_of X G a26)
  cases e2
  obtain ⟨oc, od, kV, doc, pm, an, cdv, ct, osl, rfl, lk, hcd⟩ := F.ex
  have e3 := lk.symm.trans l26
  cases e3
  exact O
theorem walk {l : PySem.W.OpenLaw} {q : Program} {loose : List Str} {XP : (Str → Option Value) → Heap → Prop} {YP : World → Heap → Prop} {d : DefRec} {K : Params → PySem.W.Frag} (hn : l.most = some 63) (hdf : d.params.defaults = [])
    (hY : ∀ (w : World) (h : Heap), YP w h → (K w.params).In h)
    (F : ∀ (w : World) (mg : Str → Option Value) (fa : Addr) (h : Heap), (K w.params).In h → h.Ns mainGlobals mg → mg d.name = some (.ref fa) →
      ∃ fd : FuncData, (∀ (s : Shared) (u : Value), BindsTo s fd ⟨[u], []⟩ [("script", u)]) ∧ ∀ base : Heap, (K w.params).In base → base.Ns mainGlobals mg → FnOk l.prog w (K w.params) mg base CX0 8 fa fd ["script"] (spLaw (K w.params))) :
    PySem.W.WalkO q loose XP YP l.row.toRowW d [] (fun f vs => PySem.call f vs) :=
  L2.walk_of (n := 63) (k := 8) (x := "script") (CX := fun _ => CX0) (sp := fun w => spLaw (K w.params)) hn (by decide) hdf ⟨rfl, by decide, by decide⟩ hY F (fun _ _ a ns hl _ hS => ⟨a, ns, rfl, hS, hl, fun _ => rfl⟩) fun _ _ _ _ _ z => z
end K25
open PySem PySem.W PyProof.Rows
set_option maxRecDepth 100000 in
set_option maxHeartbeats 0 in
theorem PySem.Challenge.cw_pagecounts_k25_equal_live_books_holds : PySem.Challenge.rw_pagecounts_k25_equal_live_books.Holds := by
  w_on; o_law; k_head; (case hw => w_witness2)
  k_fill
  refine K25.walk (l := PySem.Challenge.rw_pagecounts_k25_equal_live_books) rfl rfl (fun w h Y => PySem.W.kIn_of Y) ?F
  case F =>
    intro w mg fa h KX G hmg
    refine' K25.all_mk KX G hmg ?aC_LiveBook ?aC_InvalidBook ?aC_InvalidNumber ?aC_NothingToUndo ?aC_BookError ?a1 ?l1 ?c1 ?k1 ?a2 ?l2 ?c2 ?k2 ?a3 ?l3 ?c3 ?k3 ?a4 ?l4 ?c4 ?k4 ?a5 ?l5 ?c5 ?k5 ?a6 ?l6 ?c6 ?k6 ?a7 ?i7 ?l7 ?c7 ?k7 ?a8 ?l8 ?c8 ?k8 ?a9 ?i9 ?l9 ?c9 ?k9 ?a10 ?i10 ?l10 ?c10 ?k10 ?a11 ?g11 ?t11 ?r11_ ?l11 ?c11 ?k11 ?a12 ?i12 ?l12 ?c12 ?k12 ?a13 ?i13 ?l13 ?c13 ?k13 ?a14 ?l14 ?c14 ?k14 ?a15 ?g15 ?t15 ?r15_ ?l15 ?c15 ?k15 ?a16 ?g16 ?t16 ?r16_ ?l16 ?c16 ?k16 ?a17 ?i17 ?l17 ?c17 ?k17 ?a18 ?i18 ?l18 ?c18 ?k18 ?a19 ?i19 ?l19 ?c19 ?k19 ?a20 ?l20 ?c20 ?k20 ?a21 ?i21 ?l21 ?c21 ?k21 ?a22 ?l22 ?c22 ?k22 ?a23 ?l23 ?c23 ?k23 ?a24 ?l24 ?c24 ?k24 ?a25 ?l25 ?c25 ?k25 ?a26 ?l26 ?c26 ?k26 ?z_abs ?z_enumerate ?z_isinstance ?z_len ?z_list ?z_max ?z_min ?z_range ?z_sorted ?z_sum ?v_MOST_SIZE ?pg_LiveBook ?hd_LiveBook ?po_LiveBook ?sa_LiveBook ?mk_LiveBook ?kc_LiveBook ?na_LiveBook_past ?qn_LiveBook ?qt_LiveBook ?qc_LiveBook ?qm_LiveBook ?qN_LiveBook ?qi_LiveBook ?qs_LiveBook ?ql_LiveBook ?rd_B ?ga_B ?fi_B ?hd_B ?ty_B ?xe_B ?cn_B ?ct_B ?xl_InvalidBook ?xkp_InvalidBook ?xsa_InvalidBook ?xex_InvalidBook ?xty_InvalidBook ?xga_InvalidBook ?xgg_InvalidBook ?xhd_InvalidBook ?xcl_InvalidBook ?xcm_InvalidBook ?xno_InvalidBook ?xl_InvalidNumber ?xkp_InvalidNumber ?xsa_InvalidNumber ?xex_InvalidNumber ?xty_InvalidNumber ?xga_InvalidNumber ?xgg_InvalidNumber ?xhd_InvalidNumber ?xcl_InvalidNumber ?xcm_InvalidNumber ?xno_InvalidNumber ?xl_NothingToUndo ?xkp_NothingToUndo ?xsa_NothingToUndo ?xex_NothingToUndo ?xty_NothingToUndo ?xga_NothingToUndo ?xgg_NothingToUndo ?xhd_NothingToUndo ?xcl_NothingToUndo ?xcm_NothingToUndo ?xno_NothingToUndo ?sb_InvalidBook_InvalidBook ?sb_InvalidBook_InvalidNumber ?sb_InvalidBook_NothingToUndo ?sb_InvalidBook_BookError ?sb_InvalidBook_ValueError ?sb_InvalidNumber_InvalidBook ?sb_InvalidNumber_InvalidNumber ?sb_InvalidNumber_NothingToUndo ?sb_InvalidNumber_BookError ?sb_InvalidNumber_ValueError ?sb_NothingToUndo_InvalidBook ?sb_NothingToUndo_InvalidNumber ?sb_NothingToUndo_NothingToUndo ?sb_NothingToUndo_BookError ?sb_NothingToUndo_ValueError
    (case aC_LiveBook => k_is)
    (case aC_InvalidBook => k_is)
    (case aC_InvalidNumber => k_is)
    (case aC_NothingToUndo => k_is)
    (case aC_BookError => k_is)
    (case a1 => k_is)
    (case l1 => k_is)
    (case c1 => k_is)
    (case k1 => k_is)
    (case a2 => k_is)
    (case l2 => k_is)
    (case c2 => k_is)
    (case k2 => k_is)
    (case a3 => k_is)
    (case l3 => k_is)
    (case c3 => k_is)
    (case k3 => k_is)
    (case a4 => k_is)
    (case l4 => k_is)
    (case c4 => k_is)
    (case k4 => k_is)
    (case a5 => k_is)
    (case l5 => k_is)
    (case c5 => k_is)
    (case k5 => k_is)
    (case a6 => k_is)
    (case l6 => k_is)
    (case c6 => k_is)
    (case k6 => k_is)
    (case a7 => k_is)
    (case i7 => k_is)
    (case l7 => k_is)
    (case c7 => k_is)
    (case k7 => k_is)
    (case a8 => k_is)
    (case l8 => k_is)
    (case c8 => k_is)
    (case k8 => k_is)
    (case a9 => k_is)
    (case i9 => k_is)
    (case l9 => k_is)
    (case c9 => k_is)
    (case k9 => k_is)
    (case a10 => k_is)
    (case i10 => k_is)
    (case l10 => k_is)
    (case c10 => k_is)
    (case k10 => k_is)
    (case a11 => k_is)
    (case g11 => k_is)
    (case t11 => k_is)
    (case r11_ => k_is)
    (case l11 => k_is)
    (case c11 => k_is)
    (case k11 => k_is)
    (case a12 => k_is)
    (case i12 => k_is)
    (case l12 => k_is)
    (case c12 => k_is)
    (case k12 => k_is)
    (case a13 => k_is)
    (case i13 => k_is)
    (case l13 => k_is)
    (case c13 => k_is)
    (case k13 => k_is)
    (case a14 => k_is)
    (case l14 => k_is)
    (case c14 => k_is)
    (case k14 => k_is)
    (case a15 => k_is)
    (case g15 => k_is)
    (case t15 => k_is)
    (case r15_ => k_is)
    (case l15 => k_is)
    (case c15 => k_is)
    (case k15 => k_is)
    (case a16 => k_is)
    (case g16 => k_is)
    (case t16 => k_is)
    (case r16_ => k_is)
    (case l16 => k_is)
    (case c16 => k_is)
    (case k16 => k_is)
    (case a17 => k_is)
    (case i17 => k_is)
    (case l17 => k_is)
    (case c17 => k_is)
    (case k17 => k_is)
    (case a18 => k_is)
    (case i18 => k_is)
    (case l18 => k_is)
    (case c18 => k_is)
    (case k18 => k_is)
    (case a19 => k_is)
    (case i19 => k_is)
    (case l19 => k_is)
    (case c19 => k_is)
    (case k19 => k_is)
    (case a20 => k_is)
    (case l20 => k_is)
    (case c20 => k_is)
    (case k20 => k_is)
    (case a21 => k_is)
    (case i21 => k_is)
    (case l21 => k_is)
    (case c21 => k_is)
    (case k21 => k_is)
    (case a22 => k_is)
    (case l22 => k_is)
    (case c22 => k_is)
    (case k22 => k_is)
    (case a23 => k_is)
    (case l23 => k_is)
    (case c23 => k_is)
    (case k23 => k_is)
    (case a24 => k_is)
    (case l24 => k_is)
    (case c24 => k_is)
    (case k24 => k_is)
    (case a25 => k_is)
    (case l25 => k_is)
    (case c25 => k_is)
    (case k25 => k_is)
    (case a26 => k_is)
    (case l26 => k_is)
    (case c26 => k_is)
    (case k26 => k_is)
    (case z_abs => k_is)
    (case z_enumerate => k_is)
    (case z_isinstance => k_is)
    (case z_len => k_is)
    (case z_list => k_is)
    (case z_max => k_is)
    (case z_min => k_is)
    (case z_range => k_is)
    (case z_sorted => k_is)
    (case z_sum => k_is)
    (case v_MOST_SIZE => k_is)
    (case pg_LiveBook => k_is)
    (case hd_LiveBook => k_is)
    (case po_LiveBook => k_is)
    (case sa_LiveBook => k_is)
    (case mk_LiveBook => k_is)
    (case kc_LiveBook => k_is)
    (case na_LiveBook_past => k_is)
    (case qn_LiveBook => k_is)
    (case qt_LiveBook => k_is)
    (case qc_LiveBook => k_is)
    (case qm_LiveBook => k_is)
    (case qN_LiveBook => k_is)
    (case qi_LiveBook => k_is)
    (case qs_LiveBook => k_is)
    (case ql_LiveBook => k_is)
    (case rd_B => k_is)
    (case ga_B => k_is)
    (case fi_B => k_is)
    (case hd_B => k_is)
    (case ty_B => k_is)
    (case xe_B => k_is)
    (case cn_B => k_is)
    (case ct_B => k_is)
    (case xl_InvalidBook => k_is)
    (case xkp_InvalidBook => k_is)
    (case xsa_InvalidBook => k_is)
    (case xex_InvalidBook => k_is)
    (case xty_InvalidBook => k_is)
    (case xga_InvalidBook => k_is)
    (case xgg_InvalidBook => k_is)
    (case xhd_InvalidBook => k_is)
    (case xcl_InvalidBook => k_is)
    (case xcm_InvalidBook => k_is)
    (case xno_InvalidBook => k_is)
    (case xl_InvalidNumber => k_is)
    (case xkp_InvalidNumber => k_is)
    (case xsa_InvalidNumber => k_is)
    (case xex_InvalidNumber => k_is)
    (case xty_InvalidNumber => k_is)
    (case xga_InvalidNumber => k_is)
    (case xgg_InvalidNumber => k_is)
    (case xhd_InvalidNumber => k_is)
    (case xcl_InvalidNumber => k_is)
    (case xcm_InvalidNumber => k_is)
    (case xno_InvalidNumber => k_is)
    (case xl_NothingToUndo => k_is)
    (case xkp_NothingToUndo => k_is)
    (case xsa_NothingToUndo => k_is)
    (case xex_NothingToUndo => k_is)
    (case xty_NothingToUndo => k_is)
    (case xga_NothingToUndo => k_is)
    (case xgg_NothingToUndo => k_is)
    (case xhd_NothingToUndo => k_is)
    (case xcl_NothingToUndo => k_is)
    (case xcm_NothingToUndo => k_is)
    (case xno_NothingToUndo => k_is)
    (case sb_InvalidBook_InvalidBook => k_is)
    (case sb_InvalidBook_InvalidNumber => k_is)
    (case sb_InvalidBook_NothingToUndo => k_is)
    (case sb_InvalidBook_BookError => k_is)
    (case sb_InvalidBook_ValueError => k_is)
    (case sb_InvalidNumber_InvalidBook => k_is)
    (case sb_InvalidNumber_InvalidNumber => k_is)
    (case sb_InvalidNumber_NothingToUndo => k_is)
    (case sb_InvalidNumber_BookError => k_is)
    (case sb_InvalidNumber_ValueError => k_is)
    (case sb_NothingToUndo_InvalidBook => k_is)
    (case sb_NothingToUndo_InvalidNumber => k_is)
    (case sb_NothingToUndo_NothingToUndo => k_is)
    (case sb_NothingToUndo_BookError => k_is)
    (case sb_NothingToUndo_ValueError => k_is)
