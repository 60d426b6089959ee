import PyProof.Rows.All
import Wide.All
import OpenK.AllK
import Wide.FinOn
import HandS.ForMost
import HandS.Wide
import HandS.SortInts
import HandS.SortKw
import HandS.Property
import HandS.IsInst
import HandS.RevRange
import HandS.Style
import HandS.Flow
import HandS.Defaults
import HandS.MakeKwOnly
import HandS.TryOnly
import HandS.Zip
import HandS.RaiseMore
import HandS.EndBits
import HandS.SetFor
import HandS.Steps
import HandS.Iter
import HandS.GenList
import HandS.Walk
import HandS.ExcInit
import HandS.ExcField
import HandS.ClsMeth
import HandS.WordsExc
import HandS.ExcOwn
import KE.KExcIs
import HandS.ExcIs
import HandS.Star
import HandS.MethStar
import HandS.GenYield
import KE.LtData
import KE.KSortAsk
import PySem.Challenge.RW_pagecounts_k20_fitting_books_numbered
set_option Elab.async false
set_option linter.all false
set_option maxRecDepth 100000
set_option maxHeartbeats 4000000
namespace Pg
open PySem PySem.Spec PyProof.Rows L2

/-! ### powers of great ints -/
def CPowW (i j : Int) : Prop := 0 ≤ j ∧ (i.natAbs.log2 + 1 : Int) * j ≤ 1000000
theorem CPowW.of {i j : Int} (b : Nat) (h0 : 0 ≤ j) (h1 : i.natAbs < 2 ^ b) (hb : 0 < b) (h : (b : Int) * j ≤ 1000000) : CPowW i j := by
  refine ⟨h0, ?_⟩
  have x := PySem.Flt.log2_lt_of hb h1
  have y : ((i.natAbs.log2 + 1 : Nat) : Int) ≤ (b : Int) := by omega
  have z : ((i.natAbs.log2 + 1 : Nat) : Int) * j ≤ (b : Int) * j := Int.mul_le_mul_of_nonneg_right y h0
  have e : ((i.natAbs.log2 + 1 : Nat) : Int) = (i.natAbs.log2 : Int) + 1 := by omega
  rw [e] at z
  exact Int.le_trans z h
section
variable {X : Cx}
theorem op_powW : OpR X (binaryOp .Pow) (rI CPowW fun i j => .int (i ^ j.toNat)) := opI fun i j _ _ _ _ _ hc q => by
  refine pow_int hc.1 ?_ q
  have b : Builtin.Int.intBits i ≤ i.natAbs.log2 + 1 := by
    unfold Builtin.Int.intBits
    split <;> omega
  have b' : ((Builtin.Int.intBits i : Nat) : Int) ≤ (i.natAbs.log2 : Int) + 1 := by omega
  have z := Int.mul_le_mul_of_nonneg_right b' hc.1
  have h2 := hc.2
  have e : (1000000 : Int) ≤ 2 ^ 27 := by decide
  exact Int.le_trans z (Int.le_trans h2 e)
end

/-! ### a def where it stands -/
structure DefAt (P : Program) (w : World) (K : PySem.W.Frag) (mg : Str → Option Value) (base : Heap) (x : Str) (st : Stmt) (k : Nat) (ps : List Str) (sp : Sp) : Prop where
  ex : ∃ f fd, mg x = some (.ref f) ∧ Fun K x x st f fd ∧ FnOk P w K mg base CX0 k f fd ps sp ∧ Binds K fd ps []
/-- a def of the text that stands at the module's name -/
structure FunAt (K : PySem.W.Frag) (mg : Str → Option Value) (x : Str) (st : Stmt) : Prop where
  ex : ∃ f fd, mg x = some (.ref f) ∧ Fun K x x st f fd
/-- a class with its __init__ -/
structure ClsAt (K : PySem.W.Frag) (mg : Str → Option Value) (x : Str) (C : Addr) : Prop where
  g : mg x = some (.ref C)
  c : Cls K C
  mks : PySem.W.makesIn K C = true
  kp : PySem.W.keepIn K (.ref C) = true
/-- a method of a class, as the text has it -/
structure MethAt (K : PySem.W.Frag) (C : Addr) (m qual : Str) (st : Stmt) : Prop where
  ex : ∃ f fd, Meth K C m f ∧ Fun K m qual st f fd
structure MDefAt (P : Program) (w : World) (K : PySem.W.Frag) (mg : Str → Option Value) (base : Heap) (C : Addr) (m qual : Str) (st : Stmt) (k : Nat) (ps : List Str) (sp : Sp) : Prop where
  ex : ∃ f fd, Meth K C m f ∧ Fun K m qual st f fd ∧ FnOk P w K mg base CX0 k f fd ps sp ∧ Binds K fd ps []
/-- a property of a class -/
structure PropAt (K : PySem.W.Frag) (C : Addr) (m qual : Str) (st : Stmt) : Prop where
  ex : ∃ p f fd, PropOf K C m p f ∧ Fun K m qual st f fd
structure PDefAt (P : Program) (w : World) (K : PySem.W.Frag) (mg : Str → Option Value) (base : Heap) (C : Addr) (m qual : Str) (st : Stmt) (k : Nat) (sp : Sp) : Prop where
  ex : ∃ p f fd, PropOf K C m p f ∧ Fun K m qual st f fd ∧ FnOk P w K mg base CX0 k f fd ["self"] sp ∧ Binds K fd ["self"] []

section
variable {P : Program} {w : World} {K : PySem.W.Frag} {mg : Str → Option Value} {base : Heap} {x m qual : Str} {st : Stmt} {k : Nat} {ps N : List Str} {sp : Sp} {C : Addr}
theorem FunAt.ok (F : FunAt K mg x st) (S : FnScope N ps (defScope st)) (len : ∀ vs H Q E, sp vs H Q E → vs.length = ps.length)
    (hb : ∀ (kV doc pm : Value) (an : Option Addr) (cdv ct : Value) (us : List Value), us.length = ps.length → bindArgs (PySem.W.fnOf x x (defArgs st) (defBody st) (defScope st) .none kV doc pm an cdv ct) ⟨us, []⟩ = pure (ps.zip us))
    (hbody : ∀ (f : Addr) (cdv : Value) (A : Around) (outer : List Env) (s : Shared) (H : Hp) (vs : List V) (Q : VK) (E : XK), Room k (A.deeper (envOfC x (defScope st) s.heap.objs.size f cdv)) → sp vs H Q E →
      ∃ t, PSs (cxOf CX0 P w K mg base N x (defScope st) f cdv A outer s H E).nox (defBody st) t ∧ t { nx := fun _ H' => Q .non H', rt := Q } (start N vs) H) : DefAt P w K mg base x st (k + 1) ps sp := by
  obtain ⟨f, fd, hm, F⟩ := F.ex
  exact ⟨f, fd, hm, F, F.ok S len (fun cdv A outer s H vs Q E hr h => hbody f cdv A outer s H vs Q E hr h), F.binds hb⟩
theorem MethAt.ok (F : MethAt K C m qual st) (S : FnScope N ps (defScope st)) (len : ∀ vs H Q E, sp vs H Q E → vs.length = ps.length)
    (hb : ∀ (kV doc pm : Value) (an : Option Addr) (cdv ct : Value) (us : List Value), us.length = ps.length → bindArgs (PySem.W.fnOf m qual (defArgs st) (defBody st) (defScope st) .none kV doc pm an cdv ct) ⟨us, []⟩ = pure (ps.zip us))
    (hbody : ∀ (f : Addr) (cdv : Value) (A : Around) (outer : List Env) (s : Shared) (H : Hp) (vs : List V) (Q : VK) (E : XK), Room k (A.deeper (envOfC qual (defScope st) s.heap.objs.size f cdv)) → sp vs H Q E →
      ∃ t, PSs (cxOf CX0 P w K mg base N qual (defScope st) f cdv A outer s H E).nox (defBody st) t ∧ t { nx := fun _ H' => Q .non H', rt := Q } (start N vs) H) : MDefAt P w K mg base C m qual st (k + 1) ps sp := by
  obtain ⟨f, fd, hm, F⟩ := F.ex
  exact ⟨f, fd, hm, F, F.ok S len (fun cdv A outer s H vs Q E hr h => hbody f cdv A outer s H vs Q E hr h), F.binds hb⟩
theorem PropAt.ok (F : PropAt K C m qual st) (S : FnScope N ["self"] (defScope st)) (len : ∀ vs H Q E, sp vs H Q E → vs.length = 1)
    (hb : ∀ (kV doc pm : Value) (an : Option Addr) (cdv ct : Value) (us : List Value), us.length = (["self"] : List Str).length → bindArgs (PySem.W.fnOf m qual (defArgs st) (defBody st) (defScope st) .none kV doc pm an cdv ct) ⟨us, []⟩ = pure ((["self"] : List Str).zip us))
    (hbody : ∀ (f : Addr) (cdv : Value) (A : Around) (outer : List Env) (s : Shared) (H : Hp) (vs : List V) (Q : VK) (E : XK), Room k (A.deeper (envOfC qual (defScope st) s.heap.objs.size f cdv)) → sp vs H Q E →
      ∃ t, PSs (cxOf CX0 P w K mg base N qual (defScope st) f cdv A outer s H E).nox (defBody st) t ∧ t { nx := fun _ H' => Q .non H', rt := Q } (start N vs) H) : PDefAt P w K mg base C m qual st (k + 1) sp := by
  obtain ⟨p, f, fd, hm, F⟩ := F.ex
  exact ⟨p, f, fd, hm, F, F.ok S len (fun cdv A outer s H vs Q E hr h => hbody f cdv A outer s H vs Q E hr h), F.binds hb⟩
end

section
variable {X : Cx} {x m qual : Str} {st : Stmt} {k n : Nat} {ps ks : List Str} {sp : Sp} {C : Addr} {e o : Expr} {es : List Expr} {kws : List Keyword} {t tk : TA} {ta : TE} {p pos apos : Pos}
theorem pe_callD (D : DefAt X.prog X.w X.K X.mg X.base x st k ps sp) (hr : Room k X.A) (ha : PA X (e :: es) t) (hg : Gl X x := by rfl)
    (hdb : (x == ("__debug__" : Str)) = false := by decide) (he : starEach (e :: es) X.env = (false, eval e X.env) :: starEach es X.env := by rfl) (hpl : (backTo pos (starEach es X.env)).any (·.1) = false := by rfl) :
    PE X (.Call (.Name x p) (e :: es) [] pos) (tCall sp [] E0 t) := by
  obtain ⟨f, fd, hm, F, G, b⟩ := D.ex
  exact pe_call G hr hg hm F.kp b .nil pass0 ha hdb he hpl
theorem pe_methD {pl : Sem Bool} (he : PE X o ta) (T : Cls X.K C) (D : MDefAt X.prog X.w X.K X.mg X.base C m qual st k ps sp) (hr : Room k X.A) (ha : PA X (e :: es) t)
    (hst : starEach (e :: es) X.env = (false, eval e X.env) :: starEach es X.env := by rfl) (hpl : (backTo pos (starEach es X.env)).any (·.1) = false := by rfl)
    (ht : eval (.Call (.Attribute o m apos) (e :: es) [] pos) X.env = (do
      let ov ← eval o X.env
      standAt apos.atName
      let (f, first) ← holding [ov] (getMethod ov m pl)
      callWith pos f first (backTo pos (starEach (e :: es) X.env)) (backToKw pos (keywordEach [] X.env))) := by rfl) :
    PE X (.Call (.Attribute o m apos) (e :: es) [] pos) (tMeth C m sp [] E0 ta t) := by
  obtain ⟨f, fd, hm, F, G, b⟩ := D.ex
  exact pe_meth he T hm G hr b .nil pass0 ha hst hpl ht
theorem pe_methD0 {pl : Sem Bool} (he : PE X o ta) (T : Cls X.K C) (D : MDefAt X.prog X.w X.K X.mg X.base C m qual st k ps sp) (hr : Room k X.A)
    (ht : eval (.Call (.Attribute o m apos) [] [] pos) X.env = (do
      let ov ← eval o X.env
      standAt apos.atName
      let (f, first) ← holding [ov] (getMethod ov m pl)
      callWith pos f first (backTo pos (starEach [] X.env)) (backToKw pos (keywordEach [] X.env))) := by rfl) :
    PE X (.Call (.Attribute o m apos) [] [] pos) (tMeth C m sp [] E0 ta tNil) := by
  obtain ⟨f, fd, hm, F, G, b⟩ := D.ex
  exact pe_meth0 he T hm G hr b .nil pass0 ht
theorem pe_makeD (T : ClsAt X.K X.mg x C) (D : MDefAt X.prog X.w X.K X.mg X.base C "__init__" qual st k ps sp) (hr : Room (k + 1) X.A) (ha : PA X (e :: es) t) (hg : Gl X x := by rfl)
    (hdb : (x == ("__debug__" : Str)) = false := by decide) (he : starEach (e :: es) X.env = (false, eval e X.env) :: starEach es X.env := by rfl) (hpl : (backTo pos (starEach es X.env)).any (·.1) = false := by rfl) :
    PE X (.Call (.Name x p) (e :: es) [] pos) (tMake C sp [] E0 t) := by
  obtain ⟨f, fd, hm, F, G, b⟩ := D.ex
  exact pe_make ⟨T.mks, hm.at_, hm.fn, T.kp⟩ G hr hg T.g b .nil pass0 ha hdb he hpl
theorem passE0 : Passes CX0 X E0 := fun _ _ _ _ _ _ _ h => h.elim
theorem pe_propD (he : PE X e ta) (c : Cls X.K C) (D : PDefAt X.prog X.w X.K X.mg X.base C m qual st k sp) (hr : Room (k + 1) X.A)
    (hab : attributeBase e m X.env (eval e X.env) = eval e X.env := by rfl) : PE X (.Attribute e m pos) (tProp C sp [] E0 ta) := by
  obtain ⟨pp, f, fd, hm, F, G, b⟩ := D.ex
  exact pe_prop he c hm G hr b .nil passE0 hab
theorem pe_gcls {u : Addr} (hm : X.mg x = some (.ref u)) (hg : Gl X x := by rfl) (hd : (x == ("__debug__" : Str)) = false := by decide) : PE X (.Name x pos) (tC (.ref u)) := pe_glob hg hm rfl hd
end

section
variable {X : Cx} {x : Str} {p : Pos}
theorem pe_gint {i : Int} (hm : ∃ t, X.mg x = some (.int i t)) (hg : Gl X x := by rfl) (hd : (x == ("__debug__" : Str)) = false := by decide) : PE X (.Name x p) (tC (.int i)) := by
  obtain ⟨t, hm⟩ := hm
  exact pe_glob hg hm ⟨t, rfl⟩ hd
theorem pe_gstr {i : Str} (hm : ∃ t, X.mg x = some (.str i t)) (hg : Gl X x := by rfl) (hd : (x == ("__debug__" : Str)) = false := by decide) : PE X (.Name x p) (tC (.str i)) := by
  obtain ⟨t, hm⟩ := hm
  exact pe_glob hg hm ⟨t, rfl⟩ hd
end
/-! ### readings by names -/
def rLen (K : PySem.W.Frag) : List V → Hp → VK → Prop := fun xs H Q => ∃ x n, xs = [x] ∧ LenV K x H n ∧ Q (.int n) H
theorem call_lenN {X : Cx} : CallR X (.builtin "len") (rLen X.K) := call_len
def rAbs : List V → Hp → VK → Prop := fun xs H Q => ∃ i, xs = [.int i] ∧ Q (.int (if i < 0 then -i else i)) H
theorem call_absN {X : Cx} : CallR X (.builtin "abs") rAbs := call_abs
def rMax2 : List V → Hp → VK → Prop := fun xs H Q => ∃ i j, xs = [.int i, .int j] ∧ Q (.int (if j > i then j else i)) H
theorem call_max2N {X : Cx} (hc : X.calm = true) : CallR X (.builtin "max") rMax2 := call_max2 hc
def rMin2 : List V → Hp → VK → Prop := fun xs H Q => ∃ i j, xs = [.int i, .int j] ∧ Q (.int (if j < i then j else i)) H
theorem call_min2N {X : Cx} (hc : X.calm = true) : CallR X (.builtin "min") rMin2 := call_min2 hc
def rInt1 : List V → Hp → VK → Prop := fun xs H Q => (∃ i, xs = [.int i] ∧ Q (.int i) H) ∨ ∃ k, xs = [.bl k] ∧ Q (.int (if k then 1 else 0)) H
theorem call_int1N {X : Cx} : CallR X (.type "int") rInt1 := call_int1
def rStrI : List V → Hp → VK → Prop := fun xs H Q => ∃ i, xs = [.int i] ∧ i.natAbs.log2 < 1920 ∧ Q (.str (toString i)) H
theorem call_strN {X : Cx} : CallR X (.type "str") rStrI := call_str_int
def rListOf (K : PySem.W.Frag) : List V → Hp → VK → Prop := fun xs H Q => ∃ p ys, xs = [.ref p] ∧ (SqL K H p ys ∨ SqT K H p ys) ∧ ∀ l, H l = none → Q (.ref l) (upd H l (.lst ys))
theorem call_listN {X : Cx} : CallR X (.type "list") (rListOf X.K) := call_list_of

/-! ### calls by keywords alone -/
def pick {α : Type} (ix : List Nat) (l : List α) : List α := ix.filterMap fun i => l[i]?
theorem pick_vals {zs : List V} {ws : List Value} (r : Vals zs ws) : ∀ ix : List Nat, Vals (pick ix zs) (pick ix ws)
  | [] => .nil
  | i :: ix => by
    have ih := pick_vals r ix
    unfold pick at ih ⊢
    rw [List.filterMap_cons, List.filterMap_cons]
    cases e : zs[i]? with
    | none =>
      rw [Vals.none_of r e]
      exact ih
    | some v =>
      obtain ⟨u, e', rv⟩ := Vals.get r e
      rw [e']
      exact .cons rv ih
/-- how a call binds keywords alone: parameter i takes the keyword at ix[i] -/
def KB0 (x qual : Str) (st : Stmt) (ps ks : List Str) (pre : Nat) (ix : List Nat) : Prop :=
  ∀ (kV doc pm : Value) (an : Option Addr) (cdv ct : Value) (us ws : List Value), us.length = pre → ws.length = ks.length → bindArgs (PySem.W.fnOf x qual (defArgs st) (defBody st) (defScope st) .none kV doc pm an cdv ct) ⟨us, ks.zip ws⟩ = pure (ps.zip (us ++ pick ix ws))
theorem KB0.kbn {K : PySem.W.Frag} {x qual : Str} {st : Stmt} {f : Addr} {fd : FuncData} {ps ks : List Str} {pre : Nat} {ix : List Nat} (B : KB0 x qual st ps ks pre ix) (F : Fun K x qual st f fd) : KBn K fd ps pre ks (fun us ws => us ++ pick ix ws) (fun vs zs => vs ++ pick ix zs) := by
  obtain ⟨oc, od, kV, doc, pm, an, cdv, ct, osl, rfl, lk, hcd⟩ := F.ex
  exact ⟨fun s us ws _ hu hw => .of_eq (B kV doc pm an cdv ct us ws hu hw), fun r1 r2 => r1.append (pick_vals r2 ix)⟩
def tCallK0 (n : Nat) (ix : List Nat) (sp : Sp) (tk : TA) : TE := fun σ H Q => tk σ H fun zs H2 => zs.length = n ∧ sp (pick ix zs) H2 Q E0
section
variable {X : Cx} {x m qual : Str} {st : Stmt} {k n : Nat} {ps ks : List Str} {sp : Sp} {C : Addr} {e o : Expr} {es : List Expr} {kws : List Keyword} {t tk : TA} {ta : TE} {p pos apos : Pos} {ix : List Nat}
theorem pe_callKD (D : DefAt X.prog X.w X.K X.mg X.base x st k ps sp) (hr : Room k X.A) (hkw : PK X kws tk) (B : KB0 x x st ps ks 0 ix) (hg : Gl X x := by rfl)
    (hall : (backToKw pos (keywordEach kws X.env)).all (·.1.isSome) = true := by rfl) (hks : (backToKw pos (keywordEach kws X.env)).filterMap (·.1) = ks := by rfl) (hdb : (x == ("__debug__" : Str)) = false := by decide)
    (hpl : ((backTo pos (starEach [] X.env)).any (·.1) || (backToKw pos (keywordEach kws X.env)).any (·.1.isNone)) = false := by rfl) :
    PE X (.Call (.Name x p) [] kws pos) (tCallK0 ks.length ix sp tk) := by
  obtain ⟨f, fd, hm, F, G, b⟩ := D.ex
  refine ⟨fun pins s σ H Q I h => ?_⟩
  refine wpAny_Call_Name_kw (ld_glob I hg hm ?_ hdb)
  refine PySem.W.callWith_KW0 (h₀ := X.base) I.ok.mod.kin F.kp hall ?_ hpl
  refine thn (hkw.run pos pins s σ H _ I h) fun ws s2 ⟨zs, H2, I2, rz, l2, q2⟩ => ⟨I2.kIn, ?_⟩
  rw [hks]
  exact run_fnN (us := []) (vs := []) G hr (B.kbn F) pass0 I2 .nil rz rfl l2 q2
/-- o.m(k = v, ..) -/
def tMethK0 (C : Addr) (m : Str) (n : Nat) (ix : List Nat) (sp : Sp) (ta : TE) (tk : TA) : TE := fun σ H Q => ta σ H fun x H1 => ∃ a dx fs, x = .ref a ∧ H1 a = some (.ins C dx fs) ∧ fs.lookup m = none ∧
  tk σ H1 fun zs H2 => zs.length = n ∧ sp (x :: pick ix zs) H2 Q E0
theorem pe_makeKD (T : ClsAt X.K X.mg x C) (D : MDefAt X.prog X.w X.K X.mg X.base C "__init__" qual st k ps sp) (hr : Room (k + 1) X.A) (hkw : PK X kws tk) (B : KB0 "__init__" qual st ps ks 1 ix) (hg : Gl X x := by rfl)
    (hall : (backToKw pos (keywordEach kws X.env)).all (·.1.isSome) = true := by rfl) (hks : (backToKw pos (keywordEach kws X.env)).filterMap (·.1) = ks := by rfl) (hdb : (x == ("__debug__" : Str)) = false := by decide)
    (hpl : ((backTo pos (starEach [] X.env)).any (·.1) || (backToKw pos (keywordEach kws X.env)).any (·.1.isNone)) = false := by rfl) :
    PE X (.Call (.Name x p) [] kws pos) (tMakeK C 0 ks.length sp (fun vs zs => vs ++ pick ix zs) E0 tNil tk) := by
  obtain ⟨f, fd, hm, F, G, b⟩ := D.ex
  exact pe_makeK0 (p := p) (pos := pos) ⟨T.mks, hm.at_, hm.fn, T.kp⟩ G hr hg T.g (B.kbn F) pass0 hkw hall hks hdb hpl
end

/-! ### what is kept -/
/-- all that was tracked is as it was, but the addresses of S -/
def Fr (S : List Addr) (H H' : Hp) : Prop := ∀ b o, b ∉ S → H b = some o → H' b = some o
section
variable {S S' : List Addr} {H H1 H2 H' : Hp} {a b p : Addr} {o u : HO} {K : PySem.W.Frag} {xs : List V}
theorem Fr.refl : Fr S H H := fun _ _ _ h => h
theorem Fr.trans (h : Fr S H H1) (h' : Fr S H1 H2) : Fr S H H2 := fun b o n e => h' b o n (h b o n e)
theorem Fr.mono (h : Fr S H H1) (hs : ∀ b ∈ S, b ∈ S') : Fr S' H H1 := fun b o n e => h b o (fun z => n (hs b z)) e
theorem Fr.nil (h : Fr [] H H1) : Fr S H H1 := h.mono fun b z => absurd z (by simp)
theorem Fr.then (h : Fr S H H1) (h' : Fr [] H1 H2) : Fr S H H2 := h.trans h'.nil
theorem Fr.new (h : Fr S H H1) (n : H1 p = none) : Fr S H (upd H1 p o) := fun b u z e => by
  rw [upd_ne (ne_of_none (h b u z e) n)]
  exact h b u z e
/-- an object that was made behind H, or one of S, may change -/
theorem Fr.put (h : Fr S H H1) (n : H p = none ∨ p ∈ S) : Fr S H (upd H1 p o) := fun b u z e => by
  have hb : b ≠ p := by
    intro q
    subst q
    rcases n with n | n
    · rw [n] at e
      cases e
    · exact z n
  rw [upd_ne hb]
  exact h b u z e
theorem Fr.at (h : Fr S H H') (n : b ∉ S) (e : H b = some o) : H' b = some o := h b o n e
theorem Fr.at0 (h : Fr [] H H') (e : H b = some o) : H' b = some o := h b o (by simp) e
theorem Fr.rd (h : Fr S H H') (n : b ∉ S) (e : Rd H b o) : Rd H' b o := by
  rcases e with e | ⟨x, e⟩
  · exact .inl (h b _ n e)
  · exact .inr ⟨x, h b _ n e⟩
theorem Fr.seqL (h : Fr S H H') (n : b ∉ S) (e : SqL K H b xs) : SqL K H' b xs := by
  rcases e with e | e
  · exact .inl (h.rd n e)
  · exact .inr e
theorem Fr.free (h : Fr S H H') (n : p ∉ S) (e : H' p = none) : H p = none := by
  cases q : H p with
  | none => rfl
  | some o =>
    rw [h p o n q] at e
    cases e
/-- what changes one object that was made behind H -/
theorem Fr.loc (h : Fr S H H1) (n : H p = none) (h' : Fr [p] H1 H2) : Fr S H H2 := fun b o z e => by
  refine h' b o ?_ (h b o z e)
  intro q
  rw [List.mem_singleton.mp q, n] at e
  cases e
theorem same_fr (h : Same H H') : Fr S H H' := fun b o _ e => h b o e
theorem Fr.same (h : Fr [] H H') : Same H H' := fun b o e => h b o (by simp) e
theorem at_upd (h : H a = some o) (n : H p = none) : upd H p u a = some o := by
  rw [upd_ne (ne_of_none h n)]
  exact h
theorem at_make {dx : Addr} {v : HO} (h : H a = some o) (n1 : H dx = none) (n2 : H p = none) : upd (upd H dx u) p v a = some o := by
  rw [upd_ne (ne_of_none h n2), upd_ne (ne_of_none h n1)]
  exact h
theorem Fr.make {dx : Addr} {v : HO} (h : Fr S H H1) (n1 : H1 dx = none) (n2 : H1 p = none) : Fr S H (upd (upd H1 dx u) p v) := fun b w z e => at_make (h b w z e) n1 n2
theorem hx_of {v : HO} (h : H a = some o) (e : o = v) : H a = some v := e ▸ h
theorem nn2 (h1 : b ≠ a) : b ∉ [a] := by simpa using h1
end

/-! ### kinds of objects differ -/
theorem ho_lst_tup {v1 : List V} {v2 : List V} : ((.lst v1) : HO) ≠ (.tup v2) := fun z => nomatch z
theorem ho_lst_own {v1 : List V} {v2 : Addr} : ((.lst v1) : HO) ≠ (.own v2) := fun z => nomatch z
theorem ho_lst_xd {v1 : List V} {v2 : List (Str × V)} : ((.lst v1) : HO) ≠ (.xd v2) := fun z => nomatch z
theorem ho_lst_dK {v1 : List V} {v2 : List (Key × V)} : ((.lst v1) : HO) ≠ (.dK v2) := fun z => nomatch z
theorem ho_lst_ins {v1 : List V} {C2 dx2 : Addr} {fs2 : List (Str × V)} : ((.lst v1) : HO) ≠ (.ins C2 dx2 fs2) := fun z => nomatch z
theorem ho_tup_lst {v1 : List V} {v2 : List V} : ((.tup v1) : HO) ≠ (.lst v2) := fun z => nomatch z
theorem ho_tup_own {v1 : List V} {v2 : Addr} : ((.tup v1) : HO) ≠ (.own v2) := fun z => nomatch z
theorem ho_tup_xd {v1 : List V} {v2 : List (Str × V)} : ((.tup v1) : HO) ≠ (.xd v2) := fun z => nomatch z
theorem ho_tup_dK {v1 : List V} {v2 : List (Key × V)} : ((.tup v1) : HO) ≠ (.dK v2) := fun z => nomatch z
theorem ho_tup_ins {v1 : List V} {C2 dx2 : Addr} {fs2 : List (Str × V)} : ((.tup v1) : HO) ≠ (.ins C2 dx2 fs2) := fun z => nomatch z
theorem ho_own_lst {v1 : Addr} {v2 : List V} : ((.own v1) : HO) ≠ (.lst v2) := fun z => nomatch z
theorem ho_own_tup {v1 : Addr} {v2 : List V} : ((.own v1) : HO) ≠ (.tup v2) := fun z => nomatch z
theorem ho_own_xd {v1 : Addr} {v2 : List (Str × V)} : ((.own v1) : HO) ≠ (.xd v2) := fun z => nomatch z
theorem ho_own_dK {v1 : Addr} {v2 : List (Key × V)} : ((.own v1) : HO) ≠ (.dK v2) := fun z => nomatch z
theorem ho_own_ins {v1 : Addr} {C2 dx2 : Addr} {fs2 : List (Str × V)} : ((.own v1) : HO) ≠ (.ins C2 dx2 fs2) := fun z => nomatch z
theorem ho_xd_lst {v1 : List (Str × V)} {v2 : List V} : ((.xd v1) : HO) ≠ (.lst v2) := fun z => nomatch z
theorem ho_xd_tup {v1 : List (Str × V)} {v2 : List V} : ((.xd v1) : HO) ≠ (.tup v2) := fun z => nomatch z
theorem ho_xd_own {v1 : List (Str × V)} {v2 : Addr} : ((.xd v1) : HO) ≠ (.own v2) := fun z => nomatch z
theorem ho_xd_dK {v1 : List (Str × V)} {v2 : List (Key × V)} : ((.xd v1) : HO) ≠ (.dK v2) := fun z => nomatch z
theorem ho_xd_ins {v1 : List (Str × V)} {C2 dx2 : Addr} {fs2 : List (Str × V)} : ((.xd v1) : HO) ≠ (.ins C2 dx2 fs2) := fun z => nomatch z
theorem ho_dK_lst {v1 : List (Key × V)} {v2 : List V} : ((.dK v1) : HO) ≠ (.lst v2) := fun z => nomatch z
theorem ho_dK_tup {v1 : List (Key × V)} {v2 : List V} : ((.dK v1) : HO) ≠ (.tup v2) := fun z => nomatch z
theorem ho_dK_own {v1 : List (Key × V)} {v2 : Addr} : ((.dK v1) : HO) ≠ (.own v2) := fun z => nomatch z
theorem ho_dK_xd {v1 : List (Key × V)} {v2 : List (Str × V)} : ((.dK v1) : HO) ≠ (.xd v2) := fun z => nomatch z
theorem ho_dK_ins {v1 : List (Key × V)} {C2 dx2 : Addr} {fs2 : List (Str × V)} : ((.dK v1) : HO) ≠ (.ins C2 dx2 fs2) := fun z => nomatch z
theorem ho_ins_lst {C1 dx1 : Addr} {fs1 : List (Str × V)} {v2 : List V} : ((.ins C1 dx1 fs1) : HO) ≠ (.lst v2) := fun z => nomatch z
theorem ho_ins_tup {C1 dx1 : Addr} {fs1 : List (Str × V)} {v2 : List V} : ((.ins C1 dx1 fs1) : HO) ≠ (.tup v2) := fun z => nomatch z
theorem ho_ins_own {C1 dx1 : Addr} {fs1 : List (Str × V)} {v2 : Addr} : ((.ins C1 dx1 fs1) : HO) ≠ (.own v2) := fun z => nomatch z
theorem ho_ins_xd {C1 dx1 : Addr} {fs1 : List (Str × V)} {v2 : List (Str × V)} : ((.ins C1 dx1 fs1) : HO) ≠ (.xd v2) := fun z => nomatch z
theorem ho_ins_dK {C1 dx1 : Addr} {fs1 : List (Str × V)} {v2 : List (Key × V)} : ((.ins C1 dx1 fs1) : HO) ≠ (.dK v2) := fun z => nomatch z
/-! ### len(set(ints)) -/
/-- the different ints of a list -/
def distinct (ns : List Int) : List Int := PyProof.Rows.firstMet (fun i => ns.getD i 0) ns.length
theorem firstMet_mem (f : Nat → Int) : ∀ (i : Nat) (x : Int), x ∈ PyProof.Rows.firstMet f i ↔ ∃ j, j < i ∧ f j = x
  | 0, x => by simp [PyProof.Rows.firstMet_zero]
  | i + 1, x => by
    rw [PyProof.Rows.firstMet_succ]
    have ih := firstMet_mem f i
    unfold PyProof.Rows.step_dedup
    split
    · rename_i h
      obtain ⟨y, hy, e⟩ := List.any_eq_true.mp h
      have e := eq_of_beq e
      subst e
      rw [ih]
      constructor
      · rintro ⟨j, h1, h2⟩
        exact ⟨j, by omega, h2⟩
      · rintro ⟨j, h1, h2⟩
        by_cases hj : j < i
        · exact ⟨j, hj, h2⟩
        · have : j = i := by omega
          subst this
          rw [← h2]
          exact (ih _).mp hy
    · rw [List.mem_append, ih, List.mem_singleton]
      constructor
      · rintro (⟨j, h1, h2⟩ | h)
        · exact ⟨j, by omega, h2⟩
        · exact ⟨i, by omega, h.symm⟩
      · rintro ⟨j, h1, h2⟩
        by_cases hj : j < i
        · exact .inl ⟨j, hj, h2⟩
        · have : j = i := by omega
          subst this
          exact .inr h2.symm
theorem distinct_mem {ns : List Int} {x : Int} : x ∈ distinct ns ↔ x ∈ ns := by
  unfold distinct
  rw [firstMet_mem]
  constructor
  · rintro ⟨j, h1, h2⟩
    rw [List.getD_eq_getElem?_getD, List.getElem?_eq_getElem h1] at h2
    have h2 : ns[j] = x := h2
    rw [← h2]
    exact List.getElem_mem h1
  · intro h
    obtain ⟨j, h1, h2⟩ := List.getElem_of_mem h
    refine ⟨j, h1, ?_⟩
    rw [List.getD_eq_getElem?_getD, List.getElem?_eq_getElem h1]
    exact h2
theorem distinct_le (ns : List Int) : (distinct ns).length ≤ ns.length := PyProof.Rows.firstMet_length_le _ _
/-- a list without repetition within another one is no longer -/
theorem nodup_le : ∀ {ds ns : List Int}, ds.Nodup → (∀ x ∈ ds, x ∈ ns) → ds.length ≤ ns.length
  | [], _, _, _ => Nat.zero_le _
  | d :: ds, ns, h, hs => by
    obtain ⟨h1, h2⟩ := List.nodup_cons.mp h
    have hd : d ∈ ns := hs d List.mem_cons_self
    have ih := nodup_le (ds := ds) (ns := ns.erase d) h2 fun x hx => by
      have hne : x ≠ d := fun e => h1 (e ▸ hx)
      exact (List.mem_erase_of_ne hne).mpr (hs x (List.mem_cons_of_mem _ hx))
    have e := List.length_erase_of_mem hd
    have pos : 0 < ns.length := List.length_pos_of_mem hd
    simp only [List.length_cons]
    omega
def tLenSetJ (K : PySem.W.Frag) (ta : TE) : TE := fun σ H Q => ta σ H fun x H1 => ∃ (l : Addr) (ns : List Int), x = .ref l ∧ SqL K H1 l (ns.map V.int) ∧ ns.length ≤ 4000 ∧ Q (.int ((distinct ns).length : Nat)) H1
theorem pe_lenSetJ {X : Cx} {a : Expr} {ta : TE} {p p2 q pos : Pos} (hg : Gl X "len") (hm : X.mg "len" = none) (hg2 : Gl X "set") (hm2 : X.mg "set" = none) (ha : PE X a ta) (hc : X.calm = true := by rfl)
    (na : starEach [a] X.env = (false, eval a X.env) :: starEach [] X.env := by rfl) : PE X (.Call (.Name "len" p) [.Call (.Name "set" p2) [a] [] q] [] pos) (tLenSetJ X.K ta) := by
  refine ⟨fun pins s σ H Q I h => ?_⟩
  refine Call_ (ld_blt I hg hm boot_len ?_)
  refine PyProof.Rows.callWith_builtin1 (PyProof.Rows.args_cons ?_ rfl) rfl rfl
  refine Call_ (ld_blt I hg2 hm2 boot_set ?_)
  refine PyProof.Rows.callWith_type1 (PyProof.Rows.args_cons (thn (ha.run pins s σ H _ I h) fun v s1 ⟨x, H1, I1, r1, q1⟩ => PyProof.Rows.args_nil ?_) na) na rfl
  obtain ⟨l, ns, rfl, hq, hl, q1⟩ := q1
  cases r1
  obtain ⟨its, r, pl, hz⟩ := I1.list hq
  have hlen : its.toArray.size = ns.length := by rw [List.size_toArray, ← r.length, List.length_map]
  refine call_set_list (I1.ok.hd hc) pl.isList (by simpa using RZ.intsAre_vals r) (by rw [hlen]; unfold scanBound; omega) fun h' tk hS hk => ?_
  refine PyProof.Rows.args_nil ?_
  rw [hlen] at hS
  have hlt : (PyProof.Rows.firstMet (fun i => ns.getD i 0) ns.length).length ≤ ns.length := PyProof.Rows.firstMet_length_le _ _
  obtain ⟨o, es, ep, t, ho, hex, hd, _, _, _, hf, hn⟩ := hS
  have I2 : Inv X pins σ H1 { s1 with heap := h', toks := tk } := I1.kept fun b o e => hk b o (Heap.lt_size e) e
  exact call_len_set ho hex hd hf (by rw [hn] <;> omega) ⟨.int (distinct ns).length, H1, I2.tok _, ⟨_, by rw [hn]; rfl⟩, q1⟩
/-! ### the same rules at a named part K -/
section
variable {X : Cx} {K : PySem.W.Frag}
theorem kc_call {r : PySem.W.Frag → List V → Hp → VK → Prop} {v : Value} (h : CallR X v (r X.K)) (e : X.K = K) : CallR X v (r K) := e ▸ h
theorem kc_mt {r : PySem.W.Frag → V → List V → Hp → VK → Prop} {id : String} (h : MtR X id (r X.K)) (e : X.K = K) : MtR X id (r K) := e ▸ h
theorem kc_op {r : PySem.W.Frag → R2} {f : Value → Value → Sem Value} (h : OpR X f (r X.K)) (e : X.K = K) : OpR X f (r K) := e ▸ h
theorem kc_ix {r : PySem.W.Frag → R2} (h : IxR X (r X.K)) (e : X.K = K) : IxR X (r K) := e ▸ h
theorem kc_sl {r : PySem.W.Frag → V → Option Int → Option Int → Hp → VK → Prop} (h : SlR X (r X.K)) (e : X.K = K) : SlR X (r K) := e ▸ h
theorem kc_bm {e : Expr} {T : String} {r : V → List V → Hp → VK → Prop} {to : TE} {t : TA} (h : PE X e (tBM X.K T r to t)) (q : X.K = K) : PE X e (tBM K T r to t) := q ▸ h
theorem kc_bm0 {e : Expr} {T : String} {r : V → List V → Hp → VK → Prop} {to : TE} (h : PE X e (tBM0 X.K T r to)) (q : X.K = K) : PE X e (tBM0 K T r to) := q ▸ h
end
/-! ### slices with a step -/
def pickSl {α : Type} (xs : List α) (lo st : Option Int) : List α := (sliceRange (sliceBounds lo none st xs.length).1 (sliceBounds lo none st xs.length).2.1 (sliceBounds lo none st xs.length).2.2).filterMap fun i => xs[i]?
def tSlStep (K : PySem.W.Frag) (te : TE) (tl ts : TO) : TE := fun σ H Q => te σ H fun x H1 => tl σ H1 fun lo H2 => ts σ H2 fun st H3 => ∃ a xs, x = .ref a ∧ SqL K H3 a xs ∧ st ≠ some 0 ∧ (pickSl xs lo st).length ≤ sizeLine ∧ ∀ p, H3 p = none → Q (.ref p) (upd H3 p (.lst (pickSl xs lo st)))
theorem pe_slStep {X : Cx} {e st : Expr} {te : TE} {lo : Option Expr} {tl ts : TO} {p2 pos : Pos} (he : PE X e te) (hl : PO X lo tl) (hs : PO X (some st) ts) : PE X (.Subscript e (.Slice lo none (some st) p2) pos) (tSlStep X.K te tl ts) := by
  refine ⟨fun pins s σ H Q I h => ?_⟩
  refine Subscript_ (thn (he.run pins s σ H _ I h) fun v s1 ⟨x, H1, I1, r1, q1⟩ => ?_)
  refine wpAny_Slice (thn (hl.run pins s1 σ H1 _ I1 q1) fun vl s2 ⟨l, H2, I2, pl, q2⟩ => ?_)
  refine thn (po_none.run pins s2 σ H2 (fun o H3 => o = none ∧ H3 = H2) I2 ⟨rfl, rfl⟩) fun vu s3 ⟨u, H3, I3, pu, eu, e3⟩ => ?_
  subst eu e3
  refine thn (hs.run pins s3 σ H3 _ I3 q2) fun vs s4 ⟨o, H4, I4, ps, a, xs, ex, hx, h0, hz2, q4⟩ => ?_
  subst ex
  cases r1
  have I5 : Inv X pins σ H4 { s4 with heap := s4.heap.push { cls := .type "slice", data := .fields #[vl, vu, vs] } } := I4.kept (t' := s4.toks) fun b ob q => Heap.get?_push_of_some _ q
  obtain ⟨its, r, ht, hz⟩ := I5.list hx
  have hlen := r.length
  refine tail_any (ops := [.ref a, .ref s4.heap.objs.size]) ht.isList.typeIs (PySem.slot_list_getitem.lookup) ?_ (by with_unfolding_all rfl)
  refine wpAny_getItem_list_slice ht.isList (Heap.IsSliceOf.new _ vl vu vs) pl pu ps h0 ?_ (by rw [List.size_toArray]; omega)
  have hp : slicePick its.toArray l none o = (pickSl its l o).toArray := by
    unfold slicePick pickSl
    simp
  have rv : Vals (pickSl xs l o) (pickSl its l o) := by
    unfold pickSl
    rw [hlen]
    exact pick_vals r _
  rw [hp]
  refine ⟨.ref _, _, I5.laid (t' := s4.toks) (o := .lst (pickSl xs l o)) (fun b ob q => Heap.get?_push_of_some _ q) (Nat.le_refl _) ?_, rfl, q4 _ (I5.hok.fresh (Nat.le_refl _))⟩
  exact ⟨hz2, _, 0, rv, Heap.get?_push_size _ rfl⟩
end Pg

namespace Pg
open PySem PySem.Spec PyProof.Rows L2
theorem szle {n : Nat} (h : Nat.ble n 16777216 = true) : n ≤ sizeLine := by
  rw [sizeLine_eq]
  exact Nat.le_of_ble_eq_true h
theorem szle' {n : Nat} (h : n ≤ 16777216) : n ≤ sizeLine := by
  rw [sizeLine_eq]
  exact h
theorem szlt {n : Nat} (h : n < 16777216) : n < sizeLine := by
  rw [sizeLine_eq]
  exact h
def ParE (i j : Nat) (R : L2.St → Hp → Prop) (σ : L2.St) : List V → Hp → Prop := fun vs H1 => ∃ v w, vs = [v, w] ∧ R ((σ.set i (some v)).set j (some w)) H1
theorem perm_sum {ns ms : List Int} (h : ns.Perm ms) : ns.sum = ms.sum := by
  induction h with
  | nil => rfl
  | cons x _ ih => simp [ih]
  | swap x y l => simp; omega
  | trans _ _ h1 h2 => exact h1.trans h2
/-- a wish, wrapped, so that nothing else takes it -/
structure Wr (R : Prop) : Prop where
  r : R
/-- fields of instances -/
def FldP (K : PySem.W.Frag) (f : Str) (y : V) (R : Hp → Prop) : V → Hp → Prop := fun x H2 => ∃ a C dx fs, x = .ref a ∧ H2 a = some (.ins C dx fs) ∧ Cls K C ∧ NoAttr K C f ∧ fs.length < 1000 ∧ R (upd H2 a (.ins C dx (putF f y fs)))
def FldG (K : PySem.W.Frag) (f : Str) (Q : VK) : V → Hp → Prop := fun x H1 => ∃ a C dx fs v, x = .ref a ∧ H1 a = some (.ins C dx fs) ∧ Cls K C ∧ NoAttr K C f ∧ fs.lookup f = some v ∧ Q v H1
def FldQ (C a : Addr) (f : Str) (z : V) (R : Hp → Prop) : Hp → Prop := fun H3 => ∃ dx' fs', H3 a = some (.ins C dx' fs') ∧ fs'.length < 1000 ∧ R (upd H3 a (.ins C dx' (putF f z fs')))
def FldA (K : PySem.W.Frag) (tv : TE) (rd : V → V → Hp → VK → Prop) (f : Str) (R : Hp → Prop) (σ : L2.St) : V → Hp → Prop := fun x H1 => ∃ a C dx fs v, x = .ref a ∧ H1 a = some (.ins C dx fs) ∧ Cls K C ∧ NoAttr K C f ∧ fs.lookup f = some v ∧
  tv σ H1 fun y H2 => rd v y H2 fun z H3 => FldQ C a f z R H3
def MethE (C : Addr) (m : Str) (sp : Sp) (dvs : List V) (E : XK) (t : TA) (σ : L2.St) (Q : VK) : V → Hp → Prop := fun x H1 => ∃ a dx fs, x = .ref a ∧ H1 a = some (.ins C dx fs) ∧ fs.lookup m = none ∧ t σ H1 fun vs H2 => sp (x :: (vs ++ dvs)) H2 Q E
def PropE (C : Addr) (sp : Sp) (dvs : List V) (E : XK) (Q : VK) : V → Hp → Prop := fun x H1 => ∃ a dx fs, x = .ref a ∧ H1 a = some (.ins C dx fs) ∧ sp (.ref a :: dvs) H1 Q E
theorem putF_eq {f : Str} {v x : V} {r : List (Str × V)} : putF f v ((f, x) :: r) = (f, v) :: r := by
  show (if f = f then _ else _) = _
  rw [if_pos rfl]
theorem putF_ne {f g : Str} {v x : V} {r : List (Str × V)} (h : ¬ g = f) : putF f v ((g, x) :: r) = (g, x) :: putF f v r := by
  show (if g = f then _ else _) = _
  rw [if_neg h]
theorem lk_eq {f : Str} {v : V} {r : List (Str × V)} : List.lookup f ((f, v) :: r) = some v := by simp [List.lookup]
theorem lk_ne {f g : Str} {v : V} {r : List (Str × V)} (h : ¬ f = g) : List.lookup f ((g, v) :: r) = List.lookup f r := by
  have e : (f == g) = false := by simpa using h
  simp [List.lookup, e]
/-- a method's receiver is of the type, and the rest -/
def TyAnd (K : PySem.W.Frag) (T : String) (x : V) (H : Hp) (R : Prop) : Prop := tyV K T x H ∧ R
section
variable {K : PySem.W.Frag} {σ : L2.St} {H H' : Hp} {D : Ends} {i : Nat} {x y v : V} {Q : VK} {ta tb te : TE} {c t u : TT} {t1 t2 ts : TS} {r : R2} {g : TG} {tA tr : TA} {R : List V → Hp → Prop} {a p C dx : Addr} {xs : List V} {f : Str} {fs : List (Str × V)} {m n : Int} {B : Bool → Hp → Prop}
/-! statements -/
theorem w_share {R A : Prop} (h1 : Wr R → A) (h2 : R) : A := h1 ⟨h2⟩
theorem w_start {N : List Str} {vs : List V} {σ' : L2.St} (e : L2.start N vs = σ') (h : ts D σ' H) : ts D (L2.start N vs) H := e ▸ h
theorem w_seq (h : t1 { D with nx := t2 D } σ H) : tSeq t1 t2 D σ H := h
theorem w_next (h : D.nx σ H) : tNext D σ H := h
theorem w_asg (h : te σ H fun x H1 => g x σ H1 D.nx) : tAsg te g D σ H := h
theorem w_gname {Q : L2.St → Hp → Prop} (h : Q (σ.set i (some v)) H) : gName i v σ H Q := h
theorem w_ret (h : te σ H D.rt) : tRet te D σ H := h
theorem w_retN (h : D.rt .non H) : tRetN D σ H := h
theorem w_drop (h : te σ H fun _ H1 => D.nx σ H1) : tDrop te D σ H := h
theorem w_ifS (h : c σ H fun b H1 => if b = true then t1 D σ H1 else t2 D σ H1) : tIfS c t1 t2 D σ H := h
theorem w_par {j : Nat} (h : tA σ H (ParE i j (D.nx) σ)) : tPar i j tA D σ H := h
theorem w_parE {j : Nat} {R : L2.St → Hp → Prop} (q : R ((σ.set i (some x)).set j (some y)) H) : ParE i j R σ [x, y] H := ⟨x, y, rfl, q⟩
theorem w_aug {ti : TIp} (e : σ[i]? = some (some x)) (h : te σ H fun y H1 => ti x y H1 fun z H2 => D.nx (σ.set i (some z)) H2) : tAug i te ti D σ H := ⟨x, e, h⟩
theorem w_ipI {f : Int → Int → Int} (h : Q (.int (f m n)) H) : ipI f (.int m) (.int n) H Q := ⟨m, n, rfl, rfl, h⟩
theorem w_fld (h : te σ H fun y H1 => ta σ H1 (FldP K f y (D.nx σ))) : sFld K ta te f D σ H := h
theorem w_fldP {R : Hp → Prop} {fs' : List (Str × V)} (h : H a = some (.ins C dx fs)) (c : Cls K C) (n : NoAttr K C f) (hl : fs.length < 1000) (e : putF f y fs = fs') (q : R (upd H a (.ins C dx fs'))) : FldP K f y R (.ref a) H := ⟨a, C, dx, fs, rfl, h, c, n, hl, by rw [e]; exact q⟩
theorem w_fldaug {rd : V → V → Hp → VK → Prop} (h : ta σ H fun x H1 => FldA K te rd f (D.nx σ) σ x H1) : sFldAug K ta te rd f D σ H := h
theorem w_fldA {rd : V → V → Hp → VK → Prop} {R : Hp → Prop} (h : H a = some (.ins C dx fs)) (c : Cls K C) (n : NoAttr K C f) (e : fs.lookup f = some v) (q : te σ H fun y H2 => rd v y H2 fun z H3 => FldQ C a f z R H3) : FldA K te rd f R σ (.ref a) H := ⟨a, C, dx, fs, v, rfl, h, c, n, e, q⟩
theorem w_fldQ {R : Hp → Prop} {fs' : List (Str × V)} {z : V} (h : H a = some (.ins C dx fs)) (hl : fs.length < 1000) (e : putF f z fs = fs') (q : R (upd H a (.ins C dx fs'))) : FldQ C a f z R H := ⟨dx, fs, h, hl, by rw [e]; exact q⟩
theorem w_rAdd (q : Q (.int (m + n)) H) : L2.rAdd (.int m) (.int n) H Q := ⟨m, n, rfl, rfl, q⟩
theorem w_rSub (q : Q (.int (m - n)) H) : L2.rSub (.int m) (.int n) H Q := ⟨m, n, rfl, rfl, q⟩
/-! expressions -/
theorem w_var (e : σ[i]? = some (some v)) (h : Q v H) : tVar i σ H Q := ⟨v, e, h⟩
theorem w_c (h : Q v H) : tC v σ H Q := h
theorem w_op (h : ta σ H fun x H1 => tb σ H1 fun y H2 => r x y H2 Q) : tOp r ta tb σ H Q := h
theorem w_un {r : V → Hp → VK → Prop} (h : ta σ H fun x H1 => r x H1 Q) : tUn r ta σ H Q := h
theorem w_I0 {g : Int → Int → V} (h : Q (g m n) H) : rI0 g (.int m) (.int n) H Q := ⟨m, n, rfl, rfl, h⟩
theorem w_I {P : Int → Int → Prop} {g : Int → Int → V} (c : P m n) (h : Q (g m n) H) : rI P g (.int m) (.int n) H Q := ⟨m, n, rfl, rfl, c, h⟩
theorem w_powW (c : CPowW m n) (h : Q (.int (m ^ n.toNat)) H) : rI CPowW (fun i j => .int (i ^ j.toNat)) (.int m) (.int n) H Q := ⟨m, n, rfl, rfl, c, h⟩
theorem w_U {g : Int → V} (h : Q (g m) H) : rU g (.int m) H Q := ⟨m, rfl, h⟩
theorem w_eq (c : scal x y = true) (h : Q (.bl (decide (x = y))) H) : rEq x y H Q := ⟨c, h⟩
theorem w_eqI (h : Q (.bl (decide (m = n))) H) : rEq (.int m) (.int n) H Q := ⟨rfl, by
  have e : decide (V.int m = V.int n) = decide (m = n) := by
    by_cases z : m = n
    · subst z
      rw [decide_eq_true rfl, decide_eq_true rfl]
    · rw [decide_eq_false z, decide_eq_false fun q => z (V.int.inj q)]
  rw [e]
  exact h⟩
theorem w_neI (h : Q (.bl (!decide (m = n))) H) : rNe (.int m) (.int n) H Q := ⟨rfl, by
  have e : decide (V.int m = V.int n) = decide (m = n) := by
    by_cases z : m = n
    · subst z
      rw [decide_eq_true rfl, decide_eq_true rfl]
    · rw [decide_eq_false z, decide_eq_false fun q => z (V.int.inj q)]
  rw [e]
  exact h⟩
theorem w_ne (c : scal x y = true) (h : Q (.bl (!decide (x = y))) H) : rNe x y H Q := ⟨c, h⟩
theorem w_ixL (h : SqL K H p xs) (ha : atI xs m = some v) (q : Q v H) : rIxL K (.ref p) (.int m) H Q := ⟨p, xs, m, v, rfl, rfl, h, ha, q⟩
theorem w_ixT (h : SqT K H p xs) (ha : atI xs m = some v) (q : Q v H) : rIxT K (.ref p) (.int m) H Q := ⟨p, xs, m, v, rfl, rfl, h, ha, q⟩
theorem w_sub {to ti : TE} {tq : TSet} {Q : L2.St → Hp → Prop} (h : to σ H fun o H1 => ti σ H1 fun i H2 => tq o i v H2 fun H3 => Q σ H3) : gSub to ti tq v σ H Q := h
theorem w_setL {j : Nat} {Q : Hp → Prop} (h : H p = some (.lst xs)) (e : ixN xs.length m = some j) (q : Q (upd H p (.lst (xs.set j v)))) : rSetL (.ref p) (.int m) v H Q := ⟨p, xs, m, j, rfl, rfl, h, e, q⟩
theorem w_nil (h : R [] H) : tNil σ H R := h
theorem w_cons (h : te σ H fun x H1 => tr σ H1 fun xs H2 => R (x :: xs) H2) : tCons te tr σ H R := h
theorem w_call {sp : Sp} {dvs : List V} {E : XK} (h : tA σ H fun vs H1 => sp (vs ++ dvs) H1 Q E) : tCall sp dvs E tA σ H Q := h
theorem w_CB {r : List V → Hp → VK → Prop} (h : tA σ H fun vs H1 => r vs H1 Q) : tCB r tA σ H Q := h
theorem w_lst (h : tA σ H fun xs H1 => xs.length ≤ sizeLine ∧ ∀ p, H1 p = none → Q (.ref p) (upd H1 p (.lst xs))) : tLst tA σ H Q := h
theorem w_tup (h : tA σ H fun xs H1 => xs.length ≤ sizeLine ∧ ∀ p, H1 p = none → Q (.ref p) (upd H1 p (.tup xs))) : tTup tA σ H Q := h
theorem w_tfld (h : ta σ H (FldG K f Q)) : tFld K ta f σ H Q := h
theorem w_fldG (h : H a = some (.ins C dx fs)) (c : Cls K C) (n : NoAttr K C f) (e : fs.lookup f = some v) (q : Q v H) : FldG K f Q (.ref a) H := ⟨a, C, dx, fs, v, rfl, h, c, n, e, q⟩
theorem w_meth {sp : Sp} {dvs : List V} {E : XK} (h : ta σ H (MethE C f sp dvs E tA σ Q)) : tMeth C f sp dvs E ta tA σ H Q := h
theorem w_methE {sp : Sp} {dvs : List V} {E : XK} (h : H a = some (.ins C dx fs)) (e : fs.lookup f = none) (q : tA σ H fun vs H2 => sp (.ref a :: (vs ++ dvs)) H2 Q E) : MethE C f sp dvs E tA σ Q (.ref a) H := ⟨a, dx, fs, rfl, h, e, q⟩
theorem w_prop {sp : Sp} {dvs : List V} {E : XK} (h : ta σ H (PropE C sp dvs E Q)) : tProp C sp dvs E ta σ H Q := h
theorem w_propE {sp : Sp} {dvs : List V} {E : XK} (h : H a = some (.ins C dx fs)) (q : sp (.ref a :: dvs) H Q E) : PropE C sp dvs E Q (.ref a) H := ⟨a, dx, fs, rfl, h, q⟩
theorem w_make {sp : Sp} {dvs : List V} {E : XK} (h : tA σ H fun vs H1 => ∀ x dx, H1 x = none → H1 dx = none → dx ≠ x → sp (.ref x :: (vs ++ dvs)) (upd (upd H1 dx (.own x)) x (.ins C dx [])) (fun v H2 => v = .non ∧ Q (.ref x) H2) E) : tMake C sp dvs E tA σ H Q := h
theorem w_if (h : c σ H fun b H1 => if b = true then ta σ H1 Q else tb σ H1 Q) : tIf c ta tb σ H Q := h
theorem w_bm {T : String} {r : V → List V → Hp → VK → Prop} (h : ta σ H fun x H1 => TyAnd K T x H1 (tA σ H1 fun xs H2 => r x xs H2 Q)) : tBM K T r ta tA σ H Q := h
theorem w_bm0 {T : String} {r : V → List V → Hp → VK → Prop} (h : ta σ H fun x H1 => TyAnd K T x H1 (r x [] H1 Q)) : tBM0 K T r ta σ H Q := h
theorem w_chain {r r' : R2} {tc : TE} (h : ta σ H fun x H1 => tb σ H1 fun y H2 => r x y H2 fun z H3 => ∃ k, z = .bl k ∧ (if k = true then tc σ H3 fun w' H4 => r' y w' H4 Q else Q (.bl false) H3)) : tChain r r' ta tb tc σ H Q := h
/-! tests -/
theorem w_test (h : te σ H fun x H' => ∃ k, x = .bl k ∧ B k H') : tTest te σ H B := h
theorem w_tB (h : te σ H fun x H' => ∃ k, x = .bl k ∧ B k H') : tB te σ H B := h
theorem w_exbl {b : Bool} {P : Bool → Prop} (h : P b) : ∃ k, V.bl b = V.bl k ∧ P k := ⟨b, rfl, h⟩
theorem w_not (h : t σ H fun b H' => B (!b) H') : tNot t σ H B := h
theorem w_and (h : t σ H fun b H1 => if b = true then u σ H1 B else B false H1) : tAnd t u σ H B := h
theorem w_or (h : t σ H fun b H1 => if b = true then B true H1 else u σ H1 B) : tOr t u σ H B := h
theorem w_ite {c A B : Prop} [Decidable c] (h1 : c → A) (h2 : ¬ c → B) : if decide c = true then A else B := by
  by_cases h : c
  · rw [if_pos (decide_eq_true h)]
    exact h1 h
  · rw [if_neg (by rw [decide_eq_false h]; decide)]
    exact h2 h
theorem w_iteN {c A B : Prop} [Decidable c] (h1 : ¬ c → A) (h2 : c → B) : if (!decide c) = true then A else B := by
  by_cases h : c
  · rw [if_neg (by rw [decide_eq_true h]; decide)]
    exact h2 h
  · rw [if_pos (by rw [decide_eq_false h]; rfl)]
    exact h1 h
theorem w_iteT {A B : Prop} (h : A) : if true = true then A else B := by rw [if_pos rfl]; exact h
theorem w_iteF {A B : Prop} (h : B) : if false = true then A else B := by rw [if_neg Bool.false_ne_true]; exact h
theorem w_iteNT {A B : Prop} (h : B) : if (!true) = true then A else B := by rw [if_neg (by decide)]; exact h
theorem w_iteNF {A B : Prop} (h : A) : if (!false) = true then A else B := by rw [if_pos (by decide)]; exact h
theorem w_iteP {c A B : Prop} [Decidable c] (hc : c) (h : A) : if decide c = true then A else B := w_ite (fun _ => h) fun n => absurd hc n
theorem w_iteQ {c A B : Prop} [Decidable c] (hc : ¬ c) (h : B) : if decide c = true then A else B := w_ite (fun n => absurd n hc) fun _ => h
theorem w_iteNP {c A B : Prop} [Decidable c] (hc : c) (h : B) : if (!decide c) = true then A else B := w_iteN (fun n => absurd hc n) fun _ => h
theorem w_iteNQ {c A B : Prop} [Decidable c] (hc : ¬ c) (h : A) : if (!decide c) = true then A else B := w_iteN (fun _ => h) fun n => absurd n hc
theorem w_iteB {b : Bool} {A B : Prop} (h1 : b = true → A) (h2 : b = false → B) : if b = true then A else B := by
  cases b with
  | true => exact w_iteT (h1 rfl)
  | false => exact w_iteF (h2 rfl)
end

/-! ### reads of lists -/
theorem atI_lt {α : Type} {xs : List α} {r : Int} (h0 : 0 ≤ r) (h1 : r < xs.length) : ∃ v, v ∈ xs ∧ atI xs r = some v ∧ xs[r.toNat]? = some v := by
  have hl : r.toNat < xs.length := by omega
  have e : xs[r.toNat]? = some xs[r.toNat] := List.getElem?_eq_getElem hl
  refine ⟨xs[r.toNat], List.getElem_mem hl, ?_, e⟩
  have q := atI_nat e
  have z : ((r.toNat : Nat) : Int) = r := Int.toNat_of_nonneg h0
  rw [z] at q
  exact q
theorem atI_ints {ns : List Int} {r : Int} (h0 : 0 ≤ r) (h1 : r < ns.length) : ∃ n, n ∈ ns ∧ atI (ns.map V.int) r = some (.int n) ∧ ns[r.toNat]? = some n := by
  obtain ⟨v, hv, e, e2⟩ := atI_lt (xs := ns.map V.int) h0 (by rw [List.length_map]; exact h1)
  rw [List.getElem?_map] at e2
  cases q : ns[r.toNat]? with
  | none =>
    rw [q] at e2
    cases e2
  | some n =>
    rw [q] at e2
    cases e2
    exact ⟨n, List.mem_of_getElem? q, e, rfl⟩
theorem map_at {ns : List Int} {i : Nat} {x : V} (h : (ns.map V.int)[i]? = some x) : ∃ n, ns[i]? = some n ∧ x = .int n := by
  rw [List.getElem?_map] at h
  cases e : ns[i]? with
  | none =>
    rw [e] at h
    cases h
  | some n =>
    rw [e] at h
    exact ⟨n, rfl, (Option.some.inj h).symm⟩
theorem map_at' {α : Type} {f : α → V} {ns : List α} {i : Nat} {x : V} (h : (ns.map f)[i]? = some x) : ∃ n, ns[i]? = some n ∧ x = f n := by
  rw [List.getElem?_map] at h
  cases e : ns[i]? with
  | none =>
    rw [e] at h
    cases h
  | some n =>
    rw [e] at h
    exact ⟨n, rfl, (Option.some.inj h).symm⟩
theorem map_snoc (f : Int → V) (ns : List Int) (n : Int) : ns.map f ++ [f n] = (ns ++ [n]).map f := by simp

/-- the ints of written items -/
def unV : List V → List Int
  | [] => []
  | .int i :: r => i :: unV r
  | _ :: r => unV r
section
variable {K : PySem.W.Frag} {H : Hp} {p : Addr} {xs : List V} {m : Int} {Q : VK} {ns : List Int}
theorem w_ixLi (h : SqL K H p xs) (e : xs = (unV xs).map V.int) (h0 : 0 ≤ m) (h1 : m < (unV xs).length) (q : ∀ n, n ∈ unV xs → Q (.int n) H) : rIxL K (.ref p) (.int m) H Q := by
  obtain ⟨n, hn, e2, _⟩ := atI_ints h0 h1
  rw [← e] at e2
  exact w_ixL h e2 (q n hn)
theorem w_ixTi (h : SqT K H p xs) (e : xs = (unV xs).map V.int) (h0 : 0 ≤ m) (h1 : m < (unV xs).length) (q : ∀ n, n ∈ unV xs → Q (.int n) H) : rIxT K (.ref p) (.int m) H Q := by
  obtain ⟨n, hn, e2, _⟩ := atI_ints h0 h1
  rw [← e] at e2
  exact w_ixT h e2 (q n hn)
theorem w_ixLm (h : SqL K H p (ns.map V.int)) (h0 : 0 ≤ m) (h1 : m < ns.length) (q : ∀ n, ns[m.toNat]? = some n → Q (.int n) H) : rIxL K (.ref p) (.int m) H Q := by
  obtain ⟨n, hn, e2, e3⟩ := atI_ints h0 h1
  exact w_ixL h e2 (q n e3)
theorem w_ixLast (h : SqL K H p (ns.map V.int)) (hne : ns ≠ []) (q : ∀ init x, ns = init ++ [x] → Q (.int x) H) : rIxL K (.ref p) (.int (-1)) H Q := by
  obtain ⟨init, x, e⟩ : ∃ init x, ns = init ++ [x] := by
    exact ⟨ns.dropLast, ns.getLast hne, (List.dropLast_concat_getLast hne).symm⟩
  subst e
  refine w_ixL h ?_ (q _ _ rfl)
  rw [List.map_append]
  exact atI_last _ _
theorem w_len {r : List V} (h : SqL K H p r) (q : Q (.int r.length) H) : rLen K [.ref p] H Q := ⟨_, _, rfl, .inl ⟨r, h, rfl⟩, q⟩
theorem w_lenI (h : SqL K H p (ns.map V.int)) (q : Q (.int ns.length) H) : rLen K [.ref p] H Q := w_len h (by rw [List.length_map]; exact q)
theorem w_append {y : V} (h : H p = some (.lst xs)) (hz : xs.length < sizeLine) (q : Q .non (upd H p (.lst (xs ++ [y])))) : rAppend (.ref p) [y] H Q := ⟨p, xs, y, rfl, rfl, h, hz, q⟩
theorem w_appendI {y : Int} (h : H p = some (.lst (ns.map V.int))) (hz : ns.length < 16777216) (q : Q .non (upd H p (.lst ((ns ++ [y]).map V.int)))) : rAppend (.ref p) [.int y] H Q :=
  ⟨p, _, _, rfl, rfl, h, szlt (by rw [List.length_map]; exact hz), by rw [map_snoc]; exact q⟩
theorem w_tyL {R : Prop} (h : H p = some (.lst xs)) (q : R) : TyAnd K "list" (.ref p) H R := ⟨.inl ⟨rfl, _, SqL.of h⟩, q⟩
theorem w_max2 {i j : Int} (q : Q (.int (if j > i then j else i)) H) : rMax2 [.int i, .int j] H Q := ⟨i, j, rfl, q⟩
theorem w_min2 {i j : Int} (q : Q (.int (if j < i then j else i)) H) : rMin2 [.int i, .int j] H Q := ⟨i, j, rfl, q⟩
theorem w_abs {i : Int} (q : Q (.int (if i < 0 then -i else i)) H) : rAbs [.int i] H Q := ⟨i, rfl, q⟩
theorem w_sum (h : SqL K H p (ns.map V.int)) (q : Q (.int ns.sum) H) : rSum K [.ref p] H Q := ⟨p, ns, rfl, h, q⟩
theorem w_maxL (h : SqL K H p (ns.map V.int)) (h0 : 0 < ns.length) (q : ∀ m, m ∈ ns → (∀ y, y ∈ ns → y ≤ m) → Q (.int m) H) : rMax K [.ref p] H Q := ⟨p, ns, rfl, h, h0, q⟩
theorem w_minL (h : SqL K H p (ns.map V.int)) (h0 : 0 < ns.length) (q : ∀ m, m ∈ ns → (∀ y, y ∈ ns → m ≤ y) → Q (.int m) H) : rMin K [.ref p] H Q := ⟨p, ns, rfl, h, h0, q⟩
theorem w_catI {q : Addr} {ms : List Int} (h1 : H p = some (.lst (ns.map V.int))) (h2 : H q = some (.lst (ms.map V.int))) (hz : ns.length + ms.length ≤ 16777216) (k : ∀ r, H r = none → Q (.ref r) (upd H r (.lst ((ns ++ ms).map V.int)))) : rCat (.ref p) (.ref q) H Q :=
  ⟨p, q, _, _, rfl, rfl, h1, h2, szle' (by rw [List.length_map, List.length_map]; exact hz), fun r hr => by rw [← List.map_append]; exact k r hr⟩
theorem w_ixAny (h : SqL K H p xs) (h0 : 0 ≤ m) (h1 : m < xs.length) (q : ∀ v, v ∈ xs → Q v H) : rIxL K (.ref p) (.int m) H Q := by
  obtain ⟨v, hv, e, _⟩ := atI_lt h0 h1
  exact w_ixL h e (q v hv)
theorem w_catIL {q : Addr} {ys : List V} (h1 : H p = some (.lst (ns.map V.int))) (h2 : H q = some (.lst ys)) (e : ys = (unV ys).map V.int) (hz : ns.length + (unV ys).length ≤ 16777216) (k : ∀ r, H r = none → Q (.ref r) (upd H r (.lst ((ns ++ unV ys).map V.int)))) : rCat (.ref p) (.ref q) H Q :=
  w_catI h1 (by rw [← e]; exact h2) hz k
theorem w_catLI {q : Addr} {ys : List V} (h1 : H p = some (.lst ys)) (h2 : H q = some (.lst (ns.map V.int))) (e : ys = (unV ys).map V.int) (hz : (unV ys).length + ns.length ≤ 16777216) (k : ∀ r, H r = none → Q (.ref r) (upd H r (.lst ((unV ys ++ ns).map V.int)))) : rCat (.ref p) (.ref q) H Q :=
  w_catI (by rw [← e]; exact h1) h2 hz k
theorem w_repI {k : Int} (h : H p = some (.lst (ns.map V.int))) (k1 : -(2 ^ 63) ≤ k) (k2 : k < 2 ^ 63) (hz : ns.length * k.toNat ≤ 16777216) (q : ∀ r, H r = none → Q (.ref r) (upd H r (.lst ((List.replicate k.toNat (ns.map V.int)).flatten)))) : rRep (.ref p) (.int k) H Q :=
  ⟨p, k, _, rfl, rfl, h, k1, k2, szle' (by rw [List.length_map]; exact hz), fun r hr => q r hr⟩
theorem w_intI {i : Int} (q : Q (.int i) H) : rInt1 [.int i] H Q := .inl ⟨i, rfl, q⟩
theorem w_intB {k : Bool} (q : Q (.int (if k then 1 else 0)) H) : rInt1 [.bl k] H Q := .inr ⟨k, rfl, q⟩
theorem w_strI {i : Int} (h : i.natAbs.log2 < 1920) (q : Q (.str (toString i)) H) : rStrI [.int i] H Q := ⟨i, rfl, h, q⟩
theorem w_listof (h : SqL K H p xs) (q : ∀ l, H l = none → Q (.ref l) (upd H l (.lst xs))) : rListOf K [.ref p] H Q := ⟨p, xs, rfl, .inl h, q⟩
end

theorem mem_snoc {α : Type} {P : α → Prop} {xs : List α} {y : α} (h : ∀ x ∈ xs, P x) (hy : P y) : ∀ x ∈ xs ++ [y], P x := fun x hx => by
  rcases List.mem_append.mp hx with z | z
  · exact h x z
  · rw [List.mem_singleton.mp z]
    exact hy
theorem len_snoc {α : Type} {xs : List α} {y : α} {i : Nat} (h : xs.length = i) : (xs ++ [y]).length = i + 1 := by simp [h]

/-! ### data -/
section
variable {K : PySem.W.Frag} {H : Hp}
theorem dpAll_ints : ∀ ns : List Int, DpAll K H (ns.map V.int) (ns.map PyData.int)
  | [] => .nil
  | n :: ns => .cons (.int n) (dpAll_ints ns)
theorem canLay_ints : ∀ ns : List Int, PyData.canLayAll0 (ns.map PyData.int) = true
  | [] => rfl
  | n :: ns => by
    have ih := canLay_ints ns
    simp only [List.map_cons, PyData.canLayAll0, PyData.canLay0, ih, Bool.and_self]
theorem depth_ints : ∀ ns : List Int, PyData.depthAll (ns.map PyData.int) ≤ 1
  | [] => by simp [PyData.depthAll]
  | n :: ns => by
    have ih := depth_ints ns
    simp only [List.map_cons, PyData.depthAll, PyData.depth]
    omega
theorem shaped_ints (ns : List Int) : SeqAt.shaped (.list (ns.map PyData.int)) = true := by
  unfold SeqAt.shaped
  have h1 : PyData.canLay0 (.list (ns.map PyData.int)) = true := by simp only [PyData.canLay0]; exact canLay_ints ns
  have h2 : PyData.depth (.list (ns.map PyData.int)) ≤ 64 := by
    have := depth_ints ns
    simp only [PyData.depth]
    omega
  rw [h1, decide_eq_true h2]
  rfl
theorem eqvAll_ints : ∀ ns ms : List Int, PyData.eqvAll (ns.map PyData.int) (ms.map PyData.int) = decide (ns = ms)
  | [], [] => by simp [PyData.eqvAll]
  | [], m :: ms => by simp [PyData.eqvAll]
  | n :: ns, [] => by simp [PyData.eqvAll]
  | n :: ns, m :: ms => by
    simp only [List.map_cons, PyData.eqvAll, PyData.eqv, eqvAll_ints ns ms]
    by_cases h : n = m
    · subst h
      by_cases h2 : ns = ms <;> simp [h2]
    · simp [h]
theorem eqv_ints (ns ms : List Int) : PyData.eqv (.list (ns.map PyData.int)) (.list (ms.map PyData.int)) = decide (ns = ms) := by
  simp only [PyData.eqv]
  exact eqvAll_ints ns ms
theorem dp_ints {p : Addr} {ns : List Int} (h : SqL K H p (ns.map V.int)) : Dp K H (.ref p) (.list (ns.map PyData.int)) := .lst h (dpAll_ints ns)
variable {p q : Addr} {ns ms : List Int} {Q : VK}
theorem w_eqLI (h1 : SqL K H p (ns.map V.int)) (h2 : SqL K H q (ms.map V.int)) (k : Q (.bl (decide (ns = ms))) H) : rEqD K (.ref p) (.ref q) H Q :=
  ⟨_, _, dp_ints h1, dp_ints h2, shaped_ints _, shaped_ints _, by rw [eqv_ints]; exact k⟩
theorem w_neLI (h1 : SqL K H p (ns.map V.int)) (h2 : SqL K H q (ms.map V.int)) (k : Q (.bl (!decide (ns = ms))) H) : rNeD K (.ref p) (.ref q) H Q :=
  ⟨_, _, dp_ints h1, dp_ints h2, shaped_ints _, shaped_ints _, by rw [eqv_ints]; exact k⟩
theorem w_eqNil (h1 : SqL K H p (ns.map V.int)) (h2 : SqL K H q []) (k : Q (.bl (decide (ns = []))) H) : rEqD K (.ref p) (.ref q) H Q := w_eqLI (ms := []) h1 h2 k
theorem w_neNil (h1 : SqL K H p (ns.map V.int)) (h2 : SqL K H q []) (k : Q (.bl (!decide (ns = []))) H) : rNeD K (.ref p) (.ref q) H Q := w_neLI (ms := []) h1 h2 k
end

/-! ### loops -/
def ForB (g : TG) (tb : TS) (D : Ends) (σ : L2.St) : It → Hp → Prop := fun J H1 => ∃ W : Nat → Nat → L2.St → Hp → Prop, (∃ m, W 0 m σ H1) ∧ ∀ i m σ H, W i m σ H →
  (J.stop i H ∧ D.nx σ H) ∨ (J.go i H ∧ ∃ N : L2.St → Hp → Prop, (∀ σ' H', N σ' H' → ∃ m', m' < m ∧ W (i + 1) m' σ' H') ∧ ∀ x H', J.yld i H x H' → g x σ H' fun σ2 H2 => tb { D with nx := N, ct := N, bk := D.nx } σ2 H2)
/-- y is appended to the new list at L, then N -/
def AppE (L : Addr) (N : Hp → Prop) : V → Hp → Prop := fun y H4 => ∃ acc, H4 L = some (.lst acc) ∧ acc.length < sizeLine ∧ N (upd H4 L (.lst (acc ++ [y])))
def LcB (g : TG) (tt : TT) (te : TE) (vs : List Nat) (σ : L2.St) (Q : VK) : It → Hp → Prop := fun J H1 => ∀ D, H1 D = none → ∃ W : Nat → Nat → Hp → Prop, (∃ m, W 0 m (upd H1 D (.lst []))) ∧ ∀ i m H, W i m H →
  (J.stop i H ∧ Q (.ref D) H) ∨ (J.go i H ∧ ∃ Nx : Hp → Prop, (∀ H', Nx H' → ∃ m', m' < m ∧ W (i + 1) m' H') ∧ ∀ x H', J.yld i H x H' → g x (wipe σ vs) H' fun σ2 H2 => wipe σ2 vs = wipe σ vs ∧ tt σ2 H2 fun b H3 =>
    if b = true then te σ2 H3 (AppE D Nx) else Nx H3)
section
variable {K : PySem.W.Frag} {σ : L2.St} {H : Hp} {D : Ends} {wi : TI} {g : TG} {tb : TS} {tt : TT} {te tl : TE} {ta : TA} {vs : List Nat} {Q : VK} {R : It → Hp → Prop} {a : Addr} {xs : List V} {lo j : Int} {n : Nat}
theorem w_for (h : wi σ H (ForB g tb D σ)) : tFor wi g tb D σ H := h
theorem w_lc (h : wi σ H (LcB g tt te vs σ Q)) : tLc wi g tt te vs σ H Q := h
def LstE (K : PySem.W.Frag) (R : It → Hp → Prop) : V → Hp → Prop := fun x H1 => ∃ a, x = .ref a ∧ (∃ xs, SqL K H1 a xs) ∧ R (Itl K a) H1
def Rng1E (R : It → Hp → Prop) : List V → Hp → Prop := fun vs H1 => ∃ j : Int, vs = [.int j] ∧ -(2 ^ 62) ≤ j ∧ j < 2 ^ 62 ∧ R (Itr 0 j.toNat) H1
def Rng2E (R : It → Hp → Prop) : List V → Hp → Prop := fun vs H1 => ∃ i j : Int, vs = [.int i, .int j] ∧ (-(2 ^ 62) ≤ i ∧ i < 2 ^ 62 ∧ -(2 ^ 62) ≤ j ∧ j < 2 ^ 62) ∧ R (Itr i (j - i).toNat) H1
theorem w_iList (h : tl σ H (LstE K R)) : iList K tl σ H R := h
theorem w_iListE (h : SqL K H a xs) (q : R (Itl K a) H) : LstE K R (.ref a) H := ⟨a, rfl, ⟨xs, h⟩, q⟩
theorem w_rng1 (h : ta σ H (Rng1E R)) : iRng1 ta σ H R := h
theorem w_rng1E (h1 : -(2 ^ 62) ≤ j) (h2 : j < 2 ^ 62) (q : R (Itr 0 j.toNat) H) : Rng1E R [.int j] H := ⟨j, rfl, h1, h2, q⟩
theorem w_rng2 (h : ta σ H (Rng2E R)) : iRng2 ta σ H R := h
theorem w_rng2E (h1 : -(2 ^ 62) ≤ lo ∧ lo < 2 ^ 62 ∧ -(2 ^ 62) ≤ j ∧ j < 2 ^ 62) (q : R (Itr lo (j - lo).toNat) H) : Rng2E R [.int lo, .int j] H := ⟨lo, j, rfl, h1, q⟩
theorem f_range (Pv : Nat → L2.St → Hp → Prop) (h0 : Pv 0 σ H) (hs : ∀ i σ H, i < n → Pv i σ H → g (.int (lo + i)) σ H fun σ2 H2 => tb { D with nx := Pv (i + 1), ct := Pv (i + 1), bk := D.nx } σ2 H2) (hd : ∀ σ H, Pv n σ H → D.nx σ H) :
    ForB g tb D σ (Itr lo n) H := for_range Pv h0 hs hd
theorem f_list (xs : List V) (Pv : Nat → L2.St → Hp → Prop) (h0 : Pv 0 σ H) (hl : ∀ i σ H, i ≤ xs.length → Pv i σ H → SqL K H a xs) (hs : ∀ i x σ H, xs[i]? = some x → Pv i σ H → g x σ H fun σ2 H2 => tb { D with nx := Pv (i + 1), ct := Pv (i + 1), bk := D.nx } σ2 H2) (hd : ∀ σ H, Pv xs.length σ H → D.nx σ H) :
    ForB g tb D σ (Itl K a) H := for_list Pv h0 hl hs hd
theorem f_tup (xs : List V) (Pv : Nat → L2.St → Hp → Prop) (h0 : Pv 0 σ H) (hl : ∀ i σ H, i ≤ xs.length → Pv i σ H → SqT K H a xs) (hs : ∀ i x σ H, xs[i]? = some x → Pv i σ H → g x σ H fun σ2 H2 => tb { D with nx := Pv (i + 1), ct := Pv (i + 1), bk := D.nx } σ2 H2) (hd : ∀ σ H, Pv xs.length σ H → D.nx σ H) :
    ForB g tb D σ (Itt K a) H := for_tup Pv h0 hl hs hd
/-- enumerate: each turn a new pair -/
theorem f_enum (xs : List V) (Pv : Nat → L2.St → Hp → Prop) (h0 : Pv 0 σ H) (hl : ∀ i σ H, i ≤ xs.length → Pv i σ H → SqL K H a xs)
    (hs : ∀ (i : Nat) (x : V) (T : Addr) (σ : L2.St) (H : Hp), xs[i]? = some x → Pv i σ H → H T = none → g (.ref T) σ (upd H T (.tup [.int (i : Nat), x])) fun σ2 H2 => tb { D with nx := Pv (i + 1), ct := Pv (i + 1), bk := D.nx } σ2 H2) (hd : ∀ σ H, Pv xs.length σ H → D.nx σ H) :
    ForB g tb D σ (Ite K a) H := by
  refine ⟨fun i m σ H => m = xs.length - i ∧ i ≤ xs.length ∧ Pv i σ H, ⟨xs.length, by simp, Nat.zero_le _, h0⟩, ?_⟩
  rintro i m σ H ⟨rfl, hi, p⟩
  have q := hl i σ H hi p
  by_cases hlt : i < xs.length
  · refine .inr ⟨⟨xs, xs[i], q, by simp [hlt]⟩, Pv (i + 1), fun σ' H' p' => ⟨xs.length - (i + 1), by omega, rfl, hlt, p'⟩, fun x H' y => ?_⟩
    obtain ⟨T, x', rfl, hT, rfl, f1⟩ := y
    exact hs i x' T σ H (f1 xs q) p hT
  · have e : i = xs.length := by omega
    subst e
    exact .inl ⟨⟨xs, q, Nat.le_refl _⟩, hd σ H p⟩
theorem f_zip {b : Addr} (xs ys : List V) (hl : xs.length = ys.length) (Pv : Nat → L2.St → Hp → Prop) (h0 : Pv 0 σ H) (hq : ∀ i σ H, Pv i σ H → SqL K H a xs ∧ SqL K H b ys)
    (hs : ∀ (i : Nat) (x y : V) (T : Addr) (σ : L2.St) (H : Hp), xs[i]? = some x → ys[i]? = some y → Pv i σ H → H T = none → g (.ref T) σ (upd H T (.tup [x, y])) fun σ2 H2 => tb { D with nx := Pv (i + 1), ct := Pv (i + 1), bk := D.nx } σ2 H2) (hd : ∀ σ H, Pv xs.length σ H → D.nx σ H) :
    ForB g tb D σ (Itz K a b) H := by
  refine ⟨fun i m σ H => m = xs.length - i ∧ i ≤ xs.length ∧ Pv i σ H, ⟨xs.length, rfl, Nat.zero_le _, h0⟩, ?_⟩
  rintro i m σ H ⟨rfl, hi, p⟩
  obtain ⟨qx, qy⟩ := hq i σ H p
  by_cases hlt : i < xs.length
  · have hx : xs[i]? = some xs[i] := List.getElem?_eq_getElem hlt
    have hlt2 : i < ys.length := by omega
    have hy : ys[i]? = some ys[i] := List.getElem?_eq_getElem hlt2
    refine .inr ⟨⟨xs, ys, _, _, qx, qy, hx, hy⟩, Pv (i + 1), fun σ' H' p' => ⟨xs.length - (i + 1), by omega, rfl, hlt, p'⟩, fun v H' y => ?_⟩
    obtain ⟨T, x', y', rfl, hT, rfl, f1, f2⟩ := y
    exact hs i x' y' T σ H (f1 xs qx) (f2 ys qy) p hT
  · have e : i = xs.length := by omega
    subst e
    exact .inl ⟨⟨xs, ys, qx, qy, Or.inl (Nat.le_refl _)⟩, hd σ H p⟩
def EnuE (K : PySem.W.Frag) (R : It → Hp → Prop) : List V → Hp → Prop := fun vs H1 => ∃ a xs, vs = [.ref a] ∧ SqL K H1 a xs ∧ R (Ite K a) H1
theorem w_enum (h : ta σ H (EnuE K R)) : iEnum K ta σ H R := h
theorem w_enumE (h : SqL K H a xs) (q : R (Ite K a) H) : EnuE K R [.ref a] H := ⟨a, xs, rfl, h, q⟩
def ZipE (K : PySem.W.Frag) (R : It → Hp → Prop) : List V → Hp → Prop := fun vs H1 => ∃ a b xs ys, vs = [.ref a, .ref b] ∧ SqL K H1 a xs ∧ SqL K H1 b ys ∧ R (Itz K a b) H1
theorem w_zip (h : ta σ H (ZipE K R)) : iZip K ta σ H R := h
theorem w_zipE {b : Addr} {ys : List V} (h : SqL K H a xs) (h2 : SqL K H b ys) (q : R (Itz K a b) H) : ZipE K R [.ref a, .ref b] H := ⟨a, b, xs, ys, rfl, h, h2, q⟩
theorem w_gTup {k : Nat} {t : TGs} {Q : L2.St → Hp → Prop} (h : SqT K H a xs) (e : xs.length = k) (q : t xs σ H Q) : gTup K k t (.ref a) σ H Q := ⟨a, xs, rfl, h, e, q⟩
theorem w_gLst {k : Nat} {t : TGs} {Q : L2.St → Hp → Prop} (h : SqL K H a xs) (e : xs.length = k) (q : t xs σ H Q) : gLst K k t (.ref a) σ H Q := ⟨a, xs, rfl, h, e, q⟩
theorem w_gNil {Q : L2.St → Hp → Prop} (q : Q σ H) : gNil [] σ H Q := ⟨rfl, q⟩
theorem w_gCons {v : V} {r : List V} {u : TGs} {Q : L2.St → Hp → Prop} (q : g v σ H fun σ' H' => u r σ' H' Q) : gCons g u (v :: r) σ H Q := ⟨v, r, rfl, q⟩
theorem l_range (Pv : Addr → Nat → Hp → Prop) (h0 : ∀ L, H L = none → Pv L 0 (upd H L (.lst []))) (hs : ∀ L i H', H L = none → i < n → Pv L i H' → g (.int (lo + i)) (wipe σ vs) H' fun σ2 H2 => wipe σ2 vs = wipe σ vs ∧ tt σ2 H2 fun b H3 => if b = true then te σ2 H3 (AppE L (Pv L (i + 1))) else Pv L (i + 1) H3)
    (hd : ∀ L H', H L = none → Pv L n H' → Q (.ref L) H') : LcB g tt te vs σ Q (Itr lo n) H := fun L hL => lc_range (Pv L) (h0 L hL) (fun i H' => hs L i H' hL) (fun H' => hd L H' hL)
theorem l_list (xs : List V) (Pv : Addr → Nat → Hp → Prop) (h0 : ∀ L, H L = none → Pv L 0 (upd H L (.lst []))) (hl : ∀ L i H', H L = none → i ≤ xs.length → Pv L i H' → SqL K H' a xs) (hs : ∀ L i x H', H L = none → xs[i]? = some x → Pv L i H' → g x (wipe σ vs) H' fun σ2 H2 => wipe σ2 vs = wipe σ vs ∧ tt σ2 H2 fun b H3 => if b = true then te σ2 H3 (AppE L (Pv L (i + 1))) else Pv L (i + 1) H3)
    (hd : ∀ L H', H L = none → Pv L xs.length H' → Q (.ref L) H') : LcB g tt te vs σ Q (Itl K a) H := fun L hL => lc_list (Pv L) (h0 L hL) (fun i H' => hl L i H' hL) (fun i x H' => hs L i x H' hL) (fun H' => hd L H' hL)
theorem w_tYes {B : Bool → Hp → Prop} (h : B true H) : tYes σ H B := h
theorem w_appE {L : Addr} {N : Hp → Prop} {ys : List V} {y : V} (h : H L = some (.lst ys)) (hz : ys.length < 16777216) (q : N (upd H L (.lst (ys ++ [y])))) : AppE L N y H := ⟨ys, h, szlt hz, q⟩
theorem w_appEI {L : Addr} {N : Hp → Prop} {ys : List Int} {m : Int} (h : H L = some (.lst (ys.map V.int))) (hz : ys.length < 16777216) (q : N (upd H L (.lst ((ys ++ [m]).map V.int)))) : AppE L N (.int m) H := ⟨_, h, by rw [List.length_map]; exact szlt hz, by rw [map_snoc]; exact q⟩
theorem w_appEB {L : Addr} {N : Hp → Prop} {ys : List Bool} {m : Bool} (h : H L = some (.lst (ys.map V.bl))) (hz : ys.length < 16777216) (q : N (upd H L (.lst ((ys ++ [m]).map V.bl)))) : AppE L N (.bl m) H := ⟨_, h, by rw [List.length_map]; exact szlt hz, by rw [show ys.map V.bl ++ [V.bl m] = (ys ++ [m]).map V.bl by simp]; exact q⟩
/-- [f n for n in ints], the element leaving all as it is: target in slot j -/
theorem l_map (ns : List Int) (f : Int → Int) {j : Nat} (hx : SqL K H a (ns.map V.int)) (hj : ∀ v, wipe ((wipe σ vs).set j (some v)) vs = wipe σ vs) (hz : ns.length ≤ 16777216)
    (he : ∀ (i : Nat) (n : Int) (H' : Hp), ns[i]? = some n → Fr [] H H' → ∀ Q : VK, (∀ H2, Fr [] H' H2 → Q (.int (f n)) H2) → te ((wipe σ vs).set j (some (.int n))) H' Q)
    (k : ∀ L H', H L = none → Fr [] H H' → H' L = some (.lst ((ns.map f).map V.int)) → Q (.ref L) H') : LcB (gName j) tYes te vs σ Q (Itl K a) H := by
  refine l_list (ns.map V.int) (fun L i H' => Fr [] H H' ∧ H' L = some (.lst (((ns.take i).map f).map V.int))) (fun L hL => ⟨Fr.refl.new hL, upd_same⟩) (fun L i H' hL _ h => h.1.seqL (by simp) hx) (fun L i x H' hL e h => ?_) (fun L H' hL h => ?_)
  · obtain ⟨n, en, rfl⟩ := map_at e
    obtain ⟨h1, h2⟩ := h
    refine w_gname ⟨hj _, w_tYes (w_iteT ?_)⟩
    refine he i n H' en h1 _ fun H2 f2 => ⟨_, f2.at0 h2, ?_, ((h1.trans f2).put (.inl hL)), ?_⟩
    · rw [List.length_map, List.length_map, List.length_take]
      have q := (List.getElem?_eq_some_iff.mp en).1
      exact szlt (by omega)
    · rw [upd_same]
      have q := List.take_succ (l := ns) (i := i)
      rw [en] at q
      rw [q]
      simp
  · have e : ns.take (ns.map V.int).length = ns := by rw [List.length_map]; exact List.take_length ..
    obtain ⟨h1, h2⟩ := h
    rw [e] at h2
    exact k L H' hL h1 h2
end

/-- calls by keywords -/
def KwE (n : Nat) (ix : List Nat) (sp : Sp) (Q : VK) : List V → Hp → Prop := fun zs H => zs.length = n ∧ sp (pick ix zs) H Q E0
def MkE (C : Addr) (n : Nat) (ix : List Nat) (sp : Sp) (Q : VK) : List V → Hp → Prop := fun zs H2 => ([] : List V).length = 0 ∧ zs.length = n ∧ ∀ x dx, H2 x = none → H2 dx = none → dx ≠ x →
  sp ([.ref x] ++ pick ix zs) (upd (upd H2 dx (.own x)) x (.ins C dx [])) (fun v H3 => v = .non ∧ Q (.ref x) H3) E0
def MkwE (n : Nat) (ix : List Nat) (sp : Sp) (Q : VK) (x : V) : List V → Hp → Prop := fun zs H => zs.length = n ∧ sp (x :: pick ix zs) H Q E0
def MethKE (C : Addr) (m : Str) (n : Nat) (ix : List Nat) (sp : Sp) (tk : TA) (σ : L2.St) (Q : VK) : V → Hp → Prop := fun x H1 => ∃ a dx fs, x = .ref a ∧ H1 a = some (.ins C dx fs) ∧ fs.lookup m = none ∧ tk σ H1 (MkwE n ix sp Q x)
section
variable {σ : L2.St} {H : Hp} {n : Nat} {ix : List Nat} {sp : Sp} {Q : VK} {tk : TA} {ta : TE} {zs : List V} {C a dx : Addr} {m : Str} {fs : List (Str × V)} {x : V}
theorem w_callK0 (h : tk σ H (KwE n ix sp Q)) : tCallK0 n ix sp tk σ H Q := h
theorem w_kwE (e : zs.length = n) (q : sp (pick ix zs) H Q E0) : KwE n ix sp Q zs H := ⟨e, q⟩
theorem w_makeK (h : tk σ H (MkE C n ix sp Q)) : tMakeK C 0 n sp (fun vs zs => vs ++ pick ix zs) E0 tNil tk σ H Q := h
theorem w_mkE (e : zs.length = n) (q : ∀ x dx, H x = none → H dx = none → dx ≠ x → sp ([.ref x] ++ pick ix zs) (upd (upd H dx (.own x)) x (.ins C dx [])) (fun v H3 => v = .non ∧ Q (.ref x) H3) E0) : MkE C n ix sp Q zs H := ⟨rfl, e, q⟩
theorem w_methK (h : ta σ H (MethKE C m n ix sp tk σ Q)) : tMethK0 C m n ix sp ta tk σ H Q := h
theorem w_methKE (h : H a = some (.ins C dx fs)) (e : fs.lookup m = none) (q : tk σ H (MkwE n ix sp Q (.ref a))) : MethKE C m n ix sp tk σ Q (.ref a) H := ⟨a, dx, fs, rfl, h, e, q⟩
theorem w_mkwE (e : zs.length = n) (q : sp (x :: pick ix zs) H Q E0) : MkwE n ix sp Q x zs H := ⟨e, q⟩
end
def LenSE (K : PySem.W.Frag) (Q : VK) : V → Hp → Prop := fun x H1 => ∃ (l : Addr) (ns : List Int), x = .ref l ∧ SqL K H1 l (ns.map V.int) ∧ ns.length ≤ 4000 ∧ Q (.int ((distinct ns).length : Nat)) H1
section
variable {K : PySem.W.Frag} {σ : L2.St} {H : Hp} {ta : TE} {Q : VK} {a : Addr} {ns : List Int} {b : Bool}
theorem w_lenSet (h : ta σ H (LenSE K Q)) : tLenSetJ K ta σ H Q := h
theorem w_lenSE (h : SqL K H a (ns.map V.int)) (hl : ns.length ≤ 4000) (q : Q (.int ((distinct ns).length : Nat)) H) : LenSE K Q (.ref a) H := ⟨a, ns, rfl, h, hl, q⟩
/-- isinstance by built-in classes -/
theorem w_isi {x : V} {n : String} {t : Value} (h : TyX K H x t) (e : PySem.W.kitOne K t (.type n) = some b) (q : Q (.bl b) H) : rIsi K [x, .ty n] H Q := ⟨x, .ty n, t, .type n, b, rfl, .ty n, h, e, q⟩
theorem tyx_lst {xs : List V} (h : H a = some (.lst xs)) : TyX K H (.ref a) (.type "list") := .base (.lst h)
theorem tyx_tup {xs : List V} (h : H a = some (.tup xs)) : TyX K H (.ref a) (.type "tuple") := .base (.tup h)
def SrtKE (K : PySem.W.Frag) (b : Bool) (Q : VK) : List V → List V → Hp → Prop := fun vs zs H => rSortedKw K b [.bl b] vs zs H Q
theorem w_sortKw {t tk : TA} {r : List V → List V → Hp → VK → Prop} (h : t σ H fun vs H1 => tk σ H1 fun zs H2 => r vs zs H2 Q) : tCKw r t tk σ H Q := h
theorem w_sortedKw (h : SqL K H a (ns.map V.int)) (q : ∀ (ns' : List Int) (p : Addr), ns'.Perm ns → OrdB b ns' → H p = none → Q (.ref p) (upd H p (.lst (ns'.map V.int)))) : rSortedKw K b [.bl b] [.ref a] [.bl b] H Q := ⟨a, ns, rfl, rfl, h, q⟩
theorem w_sortedI (h : SqL K H a (ns.map V.int)) (q : ∀ (ns' : List Int) (p : Addr), ns'.Perm ns → ns'.Pairwise (· ≤ ·) → H p = none → Q (.ref p) (upd H p (.lst (ns'.map V.int)))) : rSortedI K [.ref a] H Q := ⟨a, ns, rfl, h, q⟩
theorem w_extendI {q : Addr} {ms : List Int} (h1 : H a = some (.lst (ns.map V.int))) (h2 : H q = some (.lst (ms.map V.int))) (hz : ns.length + ms.length ≤ 16777216) (k : Q .non (upd H a (.lst ((ns ++ ms).map V.int)))) : rExtend (.ref a) [.ref q] H Q :=
  ⟨a, q, _, _, rfl, rfl, h1, h2, szle' (by rw [List.length_map, List.length_map]; exact hz), by rw [← List.map_append]; exact k⟩
/-- [m] * k -/
theorem w_rep1 {k m : Int} (h : H a = some (.lst [.int m])) (k1 : -(2 ^ 63) ≤ k) (k2 : k ≤ 16777216) (q : ∀ r, H r = none → Q (.ref r) (upd H r (.lst ((List.replicate k.toNat m).map V.int)))) : rRep (.ref a) (.int k) H Q := by
  refine ⟨a, k, _, rfl, rfl, h, k1, Int.lt_of_le_of_lt k2 (by decide), szle' (by simp; omega), fun r hr => ?_⟩
  have e : (List.replicate k.toNat [V.int m]).flatten = (List.replicate k.toNat m).map V.int := by
    rw [List.map_replicate]
    generalize k.toNat = j
    induction j with
    | zero => rfl
    | succ j ih => rw [List.replicate_succ, List.flatten_cons, ih, List.replicate_succ]; rfl
  rw [e]
  exact q r hr
end
section
variable {σ : L2.St} {H : Hp} {c : TT} {tb : TS} {D : Ends}
def WhT (W : Nat → L2.St → Hp → Prop) (m : Nat) (tb : TS) (D : Ends) (σ : L2.St) (H1 : Hp) : Prop := ∃ N : L2.St → Hp → Prop, (∀ σ' H', N σ' H' → ∃ m', m' < m ∧ W m' σ' H') ∧ tb { D with nx := N, ct := N, bk := D.nx } σ H1
theorem w_while (W : Nat → L2.St → Hp → Prop) (m0 : Nat) (h0 : W m0 σ H) (hs : ∀ m σ H, W m σ H → c σ H fun b H1 => if b = true then WhT W m tb D σ H1 else D.nx σ H1) : tWhile c tb D σ H := ⟨W, ⟨m0, h0⟩, hs⟩
theorem w_whT {W : Nat → L2.St → Hp → Prop} {m : Nat} (q : tb { D with nx := fun σ' H' => ∃ m', m' < m ∧ W m' σ' H', ct := fun σ' H' => ∃ m', m' < m ∧ W m' σ' H', bk := D.nx } σ H) : WhT W m tb D σ H := ⟨_, fun _ _ h => h, q⟩
end
/-! ### joins, dicts -/
section
variable {K : PySem.W.Frag} {σ : L2.St} {H : Hp} {D : Ends} {c : TT} {t1 t2 : TS} {td ty tv ta tb te : TE} {Q : VK} {a g : Addr} {kvs kvs' : List (Key × V)} {k : Str} {v x y : V} {R : Hp → Prop} {S S' : List Addr} {H1 H2 : Hp}
/-- one continuation for both branches: I holds at their ends -/
theorem w_ifJ (I : L2.St → Hp → Prop) (h : ∀ N : L2.St → Hp → Prop, (∀ σ H, I σ H → N σ H) → tIfS c t1 t2 { D with nx := N } σ H) (k : ∀ σ H, I σ H → D.nx σ H) : tIfS c t1 t2 D σ H := h D.nx k
def DGE (x : V) (Q : VK) : V → Hp → Prop := fun y H2 => ∃ a v, x = .ref a ∧ DGet H2 a y (some v) ∧ Q v H2
theorem w_dget (h : td σ H fun x H1 => ty σ H1 (DGE x Q)) : tDGet td ty σ H Q := h
theorem w_dgetE (h : H a = some (.dK kvs)) (e : valV kvs (.inr k) = some v) (q : Q v H) : DGE (.ref a) Q (.str k) H := ⟨a, v, rfl, by rw [← e]; exact DGet.k (k := .inr k) h, q⟩
def DPE (x : V) (v : V) (R : Hp → Prop) : V → Hp → Prop := fun y H3 => ∃ a H4, x = .ref a ∧ DPut H3 a y v H4 ∧ R H4
theorem w_dput (h : tv σ H fun v H1 => td σ H1 fun x H2 => ty σ H2 (DPE x v (D.nx σ))) : sDPut td ty tv D σ H := h
theorem w_dputE (h : H a = some (.dK kvs)) (hl : kvs.length < 16777216) (e : putK kvs (.inr k) v = kvs') (q : R (upd H a (.dK kvs'))) : DPE (.ref a) v R (.str k) H := ⟨a, _, rfl, DPut.k (k := .inr k) h (szlt hl), by rw [e]; exact q⟩
def DAE (tv : TE) (rd : V → V → Hp → VK → Prop) (R : Hp → Prop) (σ : L2.St) (x : V) : V → Hp → Prop := fun y H2 => ∃ a v, x = .ref a ∧ DGet H2 a y (some v) ∧ tv σ H2 fun y2 H3 => rd v y2 H3 fun z H4 => ∃ H5, DPut H4 a y z H5 ∧ R H5
theorem w_daug {rd : V → V → Hp → VK → Prop} (h : td σ H fun x H1 => ty σ H1 (DAE tv rd (D.nx σ) σ x)) : sDAug td ty tv rd D σ H := h
theorem w_daugE {rd : V → V → Hp → VK → Prop} (h : H a = some (.dK kvs)) (e : valV kvs (.inr k) = some v) (q : tv σ H fun y2 H3 => rd v y2 H3 fun z H4 => DPE (.ref a) z R (.str k) H4) : DAE tv rd R σ (.ref a) (.str k) H := by
  refine ⟨a, v, rfl, by rw [← e]; exact DGet.k (k := .inr k) h, ?_⟩
  have e2 : (fun (y2 : V) (H3 : Hp) => rd v y2 H3 fun z H4 => DPE (.ref a) z R (.str k) H4) = fun y2 H3 => rd v y2 H3 fun z H4 => ∃ H5, DPut H4 a (.str k) z H5 ∧ R H5 := by
    funext y2 H3
    congr 1
    funext z H4
    exact propext ⟨fun ⟨b, H5, e, p, r⟩ => by cases e; exact ⟨H5, p, r⟩, fun ⟨H5, p, r⟩ => ⟨a, H5, rfl, p, r⟩⟩
  rw [← e2]
  exact q
def keysOf : List (V × V) → List (Key × V)
  | [] => []
  | (.str s, v) :: r => (.inr s, v) :: keysOf r
  | _ :: r => keysOf r
def DspE (p : Addr) (Q : VK) : List (V × V) → Hp → Prop := fun ps H2 => H2 p = some (.dK []) ∧ ∃ kvs : List (Key × V), ps = kvs.map (fun kv => (kV kv.1, kv.2)) ∧ kvs.length ≤ 15 ∧ Q (.ref p) (upd H2 p (.dK (mergeK [] kvs)))
theorem w_disp {trs : List (TE × TE)} (h : ∀ p, H p = none → tPairs trs σ (upd H p (.dK [])) (DspE p Q)) : tDisp trs σ H Q := h
theorem w_pairN {R : List (V × V) → Hp → Prop} (h : R [] H) : tPairs [] σ H R := h
theorem w_pairC {tk tv : TE} {trs : List (TE × TE)} {R : List (V × V) → Hp → Prop} (h : tk σ H fun x H1 => tv σ H1 fun y H2 => tPairs trs σ H2 fun ps H3 => R ((x, y) :: ps) H3) : tPairs ((tk, tv) :: trs) σ H R := h
theorem valV_ne {p : Key × V} {r : List (Key × V)} {k : Key} (e : ¬ p.1 = k) : valV (p :: r) k = valV r k := valV_neg e
theorem mergeK_go : ∀ (more acc : List (Key × V)), (acc.map (·.1) ++ more.map (·.1)).Nodup → mergeK acc more = acc ++ more
  | [], acc, _ => by simp [mergeK]
  | p :: r, acc, h => by
    have hp : valV acc p.1 = none := by
      cases e : valV acc p.1 with
      | none => rfl
      | some z =>
        have e2 := valV_any p.1 acc
        rw [e] at e2
        obtain ⟨q, hq, hq2⟩ := List.any_eq_true.mp (show (acc.any fun kv => decide (kv.1 = p.1)) = true from e2)
        have hq3 := of_decide_eq_true hq2
        have := (List.nodup_append.mp h).2.2 q.1 (List.mem_map.mpr ⟨q, hq, rfl⟩) p.1 (by simp)
        exact absurd hq3 this
    have e : mergeK acc (p :: r) = mergeK (putK acc p.1 p.2) r := rfl
    rw [e, putK_new _ hp, mergeK_go r (acc ++ [(p.1, p.2)]) (by simpa using h)]
    simp
theorem w_dspE {p : Addr} {ps : List (V × V)} (h : H p = some (.dK [])) (e : ps = (keysOf ps).map fun kv => (kV kv.1, kv.2)) (hl : (keysOf ps).length ≤ 15) (n : ((keysOf ps).map (·.1)).Nodup) (q : Q (.ref p) (upd H p (.dK (keysOf ps)))) : DspE p Q ps H := by
  refine ⟨h, keysOf ps, e, hl, ?_⟩
  rw [mergeK_go _ [] (by simpa using n)]
  exact q
theorem mem2a {a g : Addr} : a ∈ [a, g] := by simp
theorem mem2b {a g : Addr} : g ∈ [a, g] := by simp
theorem nn3 {b a g : Addr} (h1 : b ≠ a) (h2 : b ≠ g) : b ∉ [a, g] := by simp [h1, h2]
theorem _root_.Pg.Fr.loc2 {p q : Addr} (h : Fr S H H1) (n : H p = none) (m : H q = none) (h' : Fr [p, q] H1 H2) : Fr S H H2 := fun b o z e => by
  refine h' b o (nn3 ?_ ?_) (h b o z e)
  · intro q
    rw [q, n] at e
    cases e
  · intro q
    rw [q, m] at e
    cases e
/-! ### pop, repr, texts of ints -/
theorem w_pop0 {ns : List Int} {m : Int} (h : H a = some (.lst ((m :: ns).map V.int))) (q : Q (.int m) (upd H a (.lst (ns.map V.int)))) : rPopAt (.ref a) [.int 0] H Q := by
  refine ⟨a, _, 0, 0, .int m, rfl, rfl, h, by decide, by decide, ?_, rfl, q⟩
  simp [seqIndex?]
end
def rReprI : List V → Hp → VK → Prop := fun xs H Q => ∃ i, xs = [.int i] ∧ i.natAbs.log2 < 1920 ∧ Q (.str (toString i)) H
theorem call_reprI {X : Cx} : CallR X (.builtin "repr") rReprI := SkE.call_repr_int
theorem w_reprI {i : Int} {H : Hp} {Q : VK} (h : i.natAbs.log2 < 1920) (q : Q (.str (toString i)) H) : rReprI [.int i] H Q := ⟨i, rfl, h, q⟩
theorem log_lt {i : Int} (h : i.natAbs < 2 ^ 250) : i.natAbs.log2 < 1920 := Nat.lt_of_lt_of_le (PySem.Flt.log2_lt_of (by decide) h) (by decide)
theorem w_eqS {s t : Str} {H : Hp} {Q : VK} (q : Q (.bl (decide (s = t))) H) : rEq (.str s) (.str t) H Q := ⟨rfl, by
  have e : decide (V.str s = V.str t) = decide (s = t) := by
    by_cases z : s = t
    · subst z
      rw [decide_eq_true rfl, decide_eq_true rfl]
    · rw [decide_eq_false z, decide_eq_false fun q => z (V.str.inj q)]
  rw [e]
  exact q⟩
theorem w_neS {s t : Str} {H : Hp} {Q : VK} (q : Q (.bl (!decide (s = t))) H) : rNe (.str s) (.str t) H Q := ⟨rfl, by
  have e : decide (V.str s = V.str t) = decide (s = t) := by
    by_cases z : s = t
    · subst z
      rw [decide_eq_true rfl, decide_eq_true rfl]
    · rw [decide_eq_false z, decide_eq_false fun q => z (V.str.inj q)]
  rw [e]
  exact q⟩
/-! ### slices, counts, pops -/
def cutI (ns : List Int) (lo hi : Option Int) : List Int := (ns.drop (HT.sIx ns.length 0 lo)).take (HT.sIx ns.length ns.length hi - HT.sIx ns.length 0 lo)
theorem cutV_ints (ns : List Int) (lo hi : Option Int) : cutV (ns.map V.int) lo hi = (cutI ns lo hi).map V.int := by
  unfold cutV cutI
  rw [List.length_map, List.map_take, List.map_drop]
theorem cutI_mem {ns : List Int} {lo hi : Option Int} {x : Int} (h : x ∈ cutI ns lo hi) : x ∈ ns := List.mem_of_mem_drop (List.mem_of_mem_take h)
theorem cutI_len (ns : List Int) (lo hi : Option Int) : (cutI ns lo hi).length ≤ ns.length := by
  unfold cutI
  rw [List.length_take, List.length_drop]
  omega
theorem cutI_take (ns : List Int) (n : Nat) : cutI ns none (some (n : Int)) = ns.take n := by
  unfold cutI
  rw [HT.sIx_nat, HT.sIx_none, List.drop_zero, Nat.sub_zero]
  by_cases h : n ≤ ns.length
  · rw [Nat.min_eq_left h]
  · rw [Nat.min_eq_right (by omega), List.take_length, List.take_of_length_le (by omega)]
theorem cutI_drop (ns : List Int) (n : Nat) : cutI ns (some (n : Int)) none = ns.drop n := by
  unfold cutI
  rw [HT.sIx_nat, HT.sIx_none]
  by_cases h : n ≤ ns.length
  · rw [Nat.min_eq_left h, List.take_of_length_le (by rw [List.length_drop]; omega)]
  · rw [Nat.min_eq_right (by omega), List.drop_length, List.drop_of_length_le (by omega)]
    simp
def PartE (R : Option Int → Hp → Prop) : V → Hp → Prop := fun x H1 => ∃ i, x = .int i ∧ R (some i) H1
section
variable {K : PySem.W.Frag} {σ : L2.St} {H : Hp} {ta tb te : TE} {Q : VK} {a p : Addr} {ns ms : List Int} {xs ys : List V} {m n : Int} {v x y : V} {tl th : TO}
theorem w_sl {r : V → Option Int → Option Int → Hp → VK → Prop} (h : te σ H fun x H1 => tl σ H1 fun l H2 => th σ H2 fun u H3 => r x l u H3 Q) : tSl r te tl th σ H Q := h
theorem w_noPart {R : Option Int → Hp → Prop} (h : R none H) : tNoPart σ H R := h
theorem w_part {R : Option Int → Hp → Prop} (h : te σ H (PartE R)) : tPart te σ H R := h
theorem w_partE {R : Option Int → Hp → Prop} (h : R (some m) H) : PartE R (.int m) H := ⟨m, rfl, h⟩
theorem w_slI {lo hi : Option Int} (h : SqL K H a (ns.map V.int)) (q : ∀ p, H p = none → Q (.ref p) (upd H p (.lst ((cutI ns lo hi).map V.int)))) : rSlL K (.ref a) lo hi H Q := ⟨a, _, rfl, h, fun p hp => by rw [cutV_ints]; exact q p hp⟩
theorem w_lcount (h : SqL K H a (ns.map V.int)) (q : Q (.int (ns.count m : Nat)) H) : rCntI K (.ref a) [.int m] H Q := ⟨a, ns, m, rfl, rfl, h, q⟩
theorem w_popAt (h : H a = some (.lst (ns.map V.int))) (h0 : 0 ≤ m) (h1 : m < ns.length) (hz : ns.length ≤ 16777216) (q : ∀ n, ns[m.toNat]? = some n → Q (.int n) (upd H a (.lst ((ns.eraseIdx m.toNat).map V.int)))) : rPopAt (.ref a) [.int m] H Q := by
  obtain ⟨n, hn, e2, e3⟩ := atI_ints h0 h1
  refine ⟨a, _, m, m.toNat, .int n, rfl, rfl, h, by omega, by omega, ?_, by rw [List.getElem?_map, e3]; rfl, by rw [erase_mapI]; exact q n e3⟩
  have hneg : ¬ m < 0 := by omega
  simp only [seqIndex?, List.length_map, hneg, if_false]
  rw [if_pos]
  simp only [Bool.and_eq_true, decide_eq_true_eq]
  omega
theorem w_setLI {Q : Hp → Prop} (h : H p = some (.lst (ns.map V.int))) (h0 : 0 ≤ m) (h1 : m < ns.length) (q : Q (upd H p (.lst ((ns.set m.toNat n).map V.int)))) : rSetL (.ref p) (.int m) (.int n) H Q := by
  refine ⟨p, _, m, m.toNat, rfl, rfl, h, ?_, by rw [← List.map_set]; exact q⟩
  rw [List.length_map]
  have z : ((m.toNat : Nat) : Int) = m := Int.toNat_of_nonneg h0
  unfold ixN
  rw [if_pos h0, if_pos h1]
theorem w_catLL {q : Addr} (h1 : H p = some (.lst xs)) (h2 : H q = some (.lst ys)) (e : xs = (unV xs).map V.int) (e2 : ys = (unV ys).map V.int) (hz : (unV xs).length + (unV ys).length ≤ 16777216) (k : ∀ r, H r = none → Q (.ref r) (upd H r (.lst ((unV xs ++ unV ys).map V.int)))) : rCat (.ref p) (.ref q) H Q :=
  w_catI (by rw [← e]; exact h1) (by rw [← e2]; exact h2) hz k
theorem w_isN (q : Q (.bl (decide (x = .non))) H) : rIsN x .non H Q := ⟨rfl, q⟩
theorem w_notN (q : Q (.bl (!decide (x = .non))) H) : rNotN x .non H Q := ⟨rfl, q⟩
theorem w_isNN (q : Q (.bl true) H) : rIsN .non .non H Q := ⟨rfl, q⟩
theorem w_isNI (q : Q (.bl false) H) : rIsN (.int m) .non H Q := ⟨rfl, q⟩
theorem w_isNR (q : Q (.bl false) H) : rIsN (.ref a) .non H Q := ⟨rfl, q⟩
theorem w_notNN (q : Q (.bl false) H) : rNotN .non .non H Q := ⟨rfl, q⟩
theorem w_notNI (q : Q (.bl true) H) : rNotN (.int m) .non H Q := ⟨rfl, q⟩
theorem w_notNR (q : Q (.bl true) H) : rNotN (.ref a) .non H Q := ⟨rfl, q⟩
def OrE (K : PySem.W.Frag) (tb : TE) (σ : L2.St) (Q : VK) : V → Hp → Prop := fun x H1 => ∃ k, TruV K x H1 k ∧ if k = true then Q x H1 else tb σ H1 Q
theorem w_orT (h : ta σ H (OrE K tb σ Q)) : tOrT K ta tb σ H Q := h
theorem w_orN (h : tb σ H Q) : OrE K tb σ Q .non H := ⟨false, rfl, w_iteF h⟩
theorem w_orI (h0 : m ≠ 0) (h : Q (.int m) H) : OrE K tb σ Q (.int m) H := ⟨true, by show true = _; simp [h0], w_iteT h⟩
theorem w_appV (h : H p = some (.lst xs)) (hz : xs.length < 16777216) (q : Q .non (upd H p (.lst (xs ++ [y])))) : rAppend (.ref p) [y] H Q := w_append h (szlt hz) q
theorem w_rep3 (h : H a = some (.lst [v])) (q : ∀ r, H r = none → Q (.ref r) (upd H r (.lst [v, v, v]))) : rRep (.ref a) (.int 3) H Q :=
  ⟨a, 3, _, rfl, rfl, h, by decide, by decide, szle rfl, fun r hr => q r hr⟩
end
theorem cmulW {i j : Int} {a b : Nat} (ha : i.natAbs < 2 ^ a) (hb : j.natAbs < 2 ^ b) (h : a + b < 1000000) (ha0 : 0 < a) (hb0 : 0 < b) : CMulW i j := by
  have h1 := PySem.Flt.log2_lt_of ha0 ha
  have h2 := PySem.Flt.log2_lt_of hb0 hb
  show i.natAbs.log2 + j.natAbs.log2 < 1000000
  omega
section
variable {σ : L2.St} {H : Hp} {ta tb : TE} {Q : VK} {b : Bool}
theorem w_andV (h : ta σ H fun x H1 => ∃ c, x = .bl c ∧ if c = true then tb σ H1 Q else Q (.bl false) H1) : tAndV ta tb σ H Q := h
theorem w_orV (h : ta σ H fun x H1 => ∃ c, x = .bl c ∧ if c = true then Q (.bl true) H1 else tb σ H1 Q) : tOrV ta tb σ H Q := h
theorem w_notV (h : ta σ H fun x H1 => ∃ c, x = .bl c ∧ Q (.bl (!c)) H1) : tNotV ta σ H Q := h
end
/-! ### range(i, j, -1), slices with a step -/
def Rng3E (R : It → Hp → Prop) : List V → Hp → Prop := fun vs H1 => ∃ (i j c : Int) (n : Nat), vs = [.int i, .int j, .int c] ∧ RgC i j c n ∧ R (Itc i c n) H1
section
variable {K : PySem.W.Frag} {σ : L2.St} {H : Hp} {D : Ends} {ta : TA} {R : It → Hp → Prop} {g : TG} {tb : TS} {te : TE} {tl ts : TO} {Q : VK} {a : Addr} {ns : List Int} {n : Nat} {i c : Int} {lo st : Option Int} {x : V}
theorem w_rng3 (h : ta σ H (Rng3E R)) : iRng3 ta σ H R := h
theorem f_rangeC (Pv : Nat → L2.St → Hp → Prop) (h0 : Pv 0 σ H) (hs : ∀ k σ H, k < n → Pv k σ H → g (.int (i + (k : Nat) * c)) σ H fun σ2 H2 => tb { D with nx := Pv (k + 1), ct := Pv (k + 1), bk := D.nx } σ2 H2) (hd : ∀ σ H, Pv n σ H → D.nx σ H) :
    ForB g tb D σ (Itc i c n) H := for_rangeC Pv h0 hs hd
def SlsE (K : PySem.W.Frag) (Q : VK) (x : V) (lo : Option Int) : Option Int → Hp → Prop := fun st H3 => ∃ a xs, x = .ref a ∧ SqL K H3 a xs ∧ st ≠ some 0 ∧ (pickSl xs lo st).length ≤ sizeLine ∧ ∀ p, H3 p = none → Q (.ref p) (upd H3 p (.lst (pickSl xs lo st)))
theorem w_sls (h : te σ H fun x H1 => tl σ H1 fun lo H2 => ts σ H2 (SlsE K Q x lo)) : tSlStep K te tl ts σ H Q := h
theorem pickSl_map (ns : List Int) : pickSl (ns.map V.int) lo st = (pickSl ns lo st).map V.int := by
  unfold pickSl
  rw [List.length_map, List.map_filterMap]
  congr 1
  funext k
  rw [List.getElem?_map]
theorem w_slsE (h : SqL K H a (ns.map V.int)) (h0 : st ≠ some 0) (hz : (pickSl ns lo st).length ≤ 16777216) (q : ∀ p, H p = none → Q (.ref p) (upd H p (.lst ((pickSl ns lo st).map V.int)))) : SlsE K Q (.ref a) lo st H :=
  ⟨a, _, rfl, h, h0, by rw [pickSl_map, List.length_map]; exact szle' hz, fun p hp => by rw [pickSl_map]; exact q p hp⟩
end
theorem w_rng3N {H : Hp} {R : It → Hp → Prop} {i j : Int} (h : -(2 ^ 62) ≤ i ∧ i < 2 ^ 62 ∧ -(2 ^ 62) ≤ j ∧ j < 2 ^ 62) (q : R (Itc i (-1) (i - j).toNat) H) : Rng3E R [.int i, .int j, .int (-1)] H :=
  ⟨i, j, -1, _, rfl, RgC.neg h.1 h.2.1 h.2.2.1 h.2.2.2, q⟩
theorem w_appendR {H : Hp} {Q : VK} {p y : Addr} {ps : List Addr} (h : H p = some (.lst (ps.map V.ref))) (hz : ps.length < 16777216) (q : Q .non (upd H p (.lst ((ps ++ [y]).map V.ref)))) : rAppend (.ref p) [.ref y] H Q :=
  w_append h (by rw [List.length_map]; exact szlt hz) (by rw [show ps.map V.ref ++ [V.ref y] = (ps ++ [y]).map V.ref by simp]; exact q)
section
variable {K : PySem.W.Frag} {σ : L2.St} {H : Hp} {te : TE} {Q : VK} {a : Addr} {ns : List Int}
def RevE (K : PySem.W.Frag) (Q : VK) : V → Hp → Prop := fun x H1 => ∃ a xs, x = .ref a ∧ SqL K H1 a xs ∧ ∀ p, H1 p = none → Q (.ref p) (upd H1 p (.lst xs.reverse))
theorem w_revL (h : te σ H (RevE K Q)) : tRevL K te σ H Q := h
theorem w_revE (h : SqL K H a (ns.map V.int)) (q : ∀ p, H p = none → Q (.ref p) (upd H p (.lst (ns.reverse.map V.int)))) : RevE K Q (.ref a) H := ⟨a, _, rfl, h, fun p hp => by rw [← List.map_reverse]; exact q p hp⟩
end
theorem w_whileJ {c : TT} {tb : TS} {D : Ends} {σ : L2.St} {H : Hp} (I : L2.St → Hp → Prop) (h : ∀ N : L2.St → Hp → Prop, (∀ σ H, I σ H → N σ H) → tWhile c tb { D with nx := N } σ H) (k : ∀ σ H, I σ H → D.nx σ H) : tWhile c tb D σ H := h D.nx k
theorem w_appER {L R : Addr} {N : Hp → Prop} {rs : List Addr} {H : Hp} (h : H L = some (.lst (rs.map V.ref))) (hz : rs.length < 16777216) (q : N (upd H L (.lst ((rs ++ [R]).map V.ref)))) : AppE L N (.ref R) H := ⟨_, h, by rw [List.length_map]; exact szlt hz, by rw [show rs.map V.ref ++ [V.ref R] = (rs ++ [R]).map V.ref by simp]; exact q⟩
end Pg

namespace Pg
open PySem PySem.Spec PyProof.Rows L2
/-! ### defs that are run where no repr is under way -/
structure FnG (P : Program) (w : World) (K : PySem.W.Frag) (mg : Str → Option Value) (base : Heap) (k : Nat) (f : Addr) (fd : FuncData) (ps : List Str) (sp : Sp) : Prop where
  len : ∀ vs H Q E, sp vs H Q E → vs.length = ps.length
  run : ∀ (A : Around) (outer : List Env) (s : Shared) (H : Hp) (args : Args) (us : List Value) (vs : List V) (Q : VK) (E : XK), Room k A → A.guards = some [] → Env0 P w K mg base A outer s H →
    BindsTo s fd args (ps.zip us) → Vals vs us → sp vs H Q E → codeAny (model P w) A (.call (.ref f) args) (CR CX0 outer P w H s Q E) s
structure GefAt (P : Program) (w : World) (K : PySem.W.Frag) (mg : Str → Option Value) (base : Heap) (x : Str) (st : Stmt) (k : Nat) (ps : List Str) (sp : Sp) : Prop where
  ex : ∃ f fd, mg x = some (.ref f) ∧ Fun K x x st f fd ∧ FnG P w K mg base k f fd ps sp ∧ Binds K fd ps []
section
variable {P : Program} {w : World} {K : PySem.W.Frag} {mg : Str → Option Value} {base : Heap} {x : Str} {st : Stmt} {k : Nat} {ps N : List Str} {sp : Sp}
theorem CE.of_inv {qual : Str} {scope : Scope} {f : Addr} {cd : Value} {A : Around} {outer : List Env} {s s' : Shared} {H H' : Hp} {E : XK} {σ : L2.St} {v : V} {u : Value} {Q : VK}
    (J : Inv (cxOf CX0 P w K mg base N qual scope f cd A outer s H E) [] σ H' s') (r : RelV v u) (q : Q v H') : CE outer P w H s Q u s' := ⟨v, H', J.os, J.bare, J.base, J.hok, r, q⟩
/-- a def by its body, which may look at what is under way -/
theorem FunAt.okG (F : FunAt K mg x st) (S : FnScope N ps (defScope st)) (len : ∀ vs H Q E, sp vs H Q E → vs.length = ps.length)
    (hb : ∀ (kV doc pm : Value) (an : Option Addr) (cdv ct : Value) (us : List Value), us.length = ps.length → bindArgs (PySem.W.fnOf x x (defArgs st) (defBody st) (defScope st) .none kV doc pm an cdv ct) ⟨us, []⟩ = pure (ps.zip us))
    (hbody : ∀ (f : Addr) (cdv : Value) (A : Around) (outer : List Env) (s : Shared) (H : Hp) (vs : List V) (Q : VK) (E : XK), Room k (A.deeper (envOfC x (defScope st) s.heap.objs.size f cdv)) → (A.deeper (envOfC x (defScope st) s.heap.objs.size f cdv)).guards = some [] → sp vs H Q E →
      ∃ t, PSs (cxOf CX0 P w K mg base N x (defScope st) f cdv A outer s H E).nox (defBody st) t ∧ t { nx := fun _ H' => Q .non H', rt := Q } (start N vs) H) : GefAt P w K mg base x st (k + 1) ps sp := by
  obtain ⟨f, fd, hm, F⟩ := F.ex
  refine ⟨f, fd, hm, F, ⟨len, ?_⟩, F.binds hb⟩
  obtain ⟨oc, od, kV, doc, pm, an, cdv, ct, osl, rfl, lk, hcd⟩ := F.ex
  intro A outer s H args us vs Q E hr hg e0 bt rv hsp
  have there : ∀ b o, base.get? b = some o → s.heap.get? b = some o := fun b o e => (e0.bs b o e).1
  have hK := e0.mod.kin.keeps there
  have hlim := e0.mod.nolimit.keeps there
  have kinds : ∀ y ∈ ps.zip us, (defScope st).names.lookup y.1 = some .local ∨ ((defScope st).names.lookup y.1 = some .cell ∧ ((cellsFrom (s.heap.objs.size + 1) (defScope st).names []).lookup y.1).isSome = true) := by
    rintro ⟨n, v⟩ hy
    cases S.par n (List.of_mem_zip hy).1 with
    | inl q => exact .inl q
    | inr q => exact .inr ⟨q, PySem.W.cellsFrom_some _ _ _ (.inl q)⟩
  obtain ⟨t, ht, hq⟩ := hbody f cdv A outer s H vs Q E (hr.deeper _) hg hsp
  have ht := ht.nox
  apply codeAny_call_function hr.depth (hK _ _ lk) rfl S.co S.gen rfl (PySem.W.codeRec_of hK hcd)
  apply bt
  apply wpAny_newFunctionEnv_cells S.kind kinds
  rintro env rfl s1 ic
  refine ⟨hlim.keeps ic.toInCall.keep, codeAny_func ?_⟩
  have I := inv_start (CX := CX0) (P := P) (w := w) (K := K) (mg := mg) (base := base) (E := E) S hr.hd e0 (len _ _ _ _ hsp) rv ic
  refine wpAny_mono (ht.run [] s1 (start N vs) H _ I hq) ?_ (fun _ _ z => z)
  intro fl s' hs
  match fl, hs with
  | .ret u, ⟨v, σ', H', J, r, q⟩ => exact CE.of_inv J r q
  | .next, ⟨σ', H', J, q⟩ => exact CE.of_inv (v := V.non) (u := Value.none) J rfl q
  | .brk, ⟨_, _, _, q⟩ => exact q.elim
  | .cont, ⟨_, _, _, q⟩ => exact q.elim
end
section
variable {X : Cx} {x : Str} {st : Stmt} {k : Nat} {ps : List Str} {sp : Sp} {e : Expr} {es : List Expr} {t : TA} {p pos : Pos}
theorem pe_callG (D : GefAt X.prog X.w X.K X.mg X.base x st k ps sp) (hr : Room k X.A) (gu : X.A.guards = some []) (ha : PA X (e :: es) t) (hg : Gl X x := by rfl)
    (hdb : (x == ("__debug__" : Str)) = false := by decide) (he : starEach (e :: es) X.env = (false, eval e X.env) :: starEach es X.env := by rfl) (hpl : (backTo pos (starEach es X.env)).any (·.1) = false := by rfl) :
    PE X (.Call (.Name x p) (e :: es) [] pos) (tCall sp [] E0 t) := by
  obtain ⟨f, fd, hm, F, G, b⟩ := D.ex
  constructor
  intro pins s σ H Q I h
  apply wpAny_Call_Name_kw (ld_glob I hg hm ?_ hdb)
  apply PySem.W.callWith_K (h₀ := X.base) I.ok.mod.kin F.kp ?_ he hpl
  refine thn (ha.run pos pins s σ H _ I h) ?_
  rintro us s1 ⟨vs, H1, I1, r, q⟩
  refine ⟨I1.kIn, wpAny_call (codeAny_mono (G.run X.A X.stack s1 H1 ⟨us, []⟩ (us ++ []) (vs ++ []) Q E0 hr gu I1.env0 (b s1 us I1.kIn ?_) (r.append .nil) q) ?_)⟩
  · rw [← (r.append (Paired.nil : Vals [] [])).length]
    exact G.len _ _ _ _ q
  · intro rr s' hq
    match rr, hq with
    | .error e, hq => exact (pass0 (X := X) pins σ H1 s1 e s' I1 hq)
    | .ok (.ret u), hq => exact I1.after hq
    | .ok .next, hq => exact hq.elim
    | .ok .brk, hq => exact hq.elim
    | .ok .cont, hq => exact hq.elim
end
/-! ### repr of data -/
def rReprD (K : PySem.W.Frag) : List V → Hp → VK → Prop := fun xs H Q => ∃ (a : Addr) (d : PyData), xs = [.ref a] ∧ Dp K H (.ref a) d ∧ d.showable = true ∧ SeqAt.shaped d = true ∧ d.shown.length ≤ sizeLine ∧ Q (.str d.shown) H
theorem call_reprD {X : Cx} (hg : X.A.guards = some []) (hu : X.A.units + 100 < cLine) : CallR X (.builtin "repr") (rReprD X.K) := by
  intro pins s σ H xs us Q I r h
  obtain ⟨a, d, rfl, hd, hs, hsh, hz, q⟩ := h
  obtain ⟨u, rfl, ru⟩ := vals1 r
  obtain ⟨as, r1⟩ := Dp.reads I d _ u hd ru
  cases ru
  have hsh' : (PyData.canLay0 d && decide (PyData.depth d ≤ 64)) = true := hsh
  obtain ⟨c1, c2⟩ := Bool.and_eq_true_iff.mp hsh'
  have c3 := of_decide_eq_true c2
  refine repr_of_reads' r1 hs (PyData.noDict_hsm (PyData.hasDict_of_canLay d c1)) hg (by omega) (fun _ _ e => e) (fun h' u tk hk => ?_) hz
  exact ⟨.str _, H, I.kept (t' := tk) fun b o e => hk b o e, ⟨_, rfl⟩, q⟩
theorem gu_of {k : Nat} {A : Around} (r : Room k A) : A.units + 100 < cLine := by have := r.un; omega
/-! ### the end -/
def scr (K : PySem.W.Frag) (a : Addr) (ob : Obj) (xs : List V) : Hp := fun b => if b = a ∧ K.lookup a = none then some (.frz ob (.lst xs)) else none
theorem scr_cases (K : PySem.W.Frag) (a : Addr) (ob : Obj) (xs : List V) (b : Addr) : scr K a ob xs b = none ∨ (b = a ∧ K.lookup a = none ∧ scr K a ob xs b = some (.frz ob (.lst xs))) := by
  by_cases h : b = a ∧ K.lookup a = none
  · exact .inr ⟨h.1, h.2, if_pos h⟩
  · exact .inl (if_neg h)
theorem law_callG {P : Program} {w : World} {K : PySem.W.Frag} {mg mb : Str → Option Value} {k : Nat} {fa a : Addr} {fd : FuncData} {x : Str} {sp : Sp} {s₁ : Shared} {vs : List Value} {ns : List Int}
    (KX : K.In s₁.heap) (hns : s₁.heap.Ns mainGlobals mg) (hb : s₁.heap.Ns builtinsNs mb) (hbb : ∀ x : Str, x ≠ "__name__" → mb x = bootBuiltins x) (hlim : s₁.heap.NoLimit) (hg : s₁.gens = #[])
    (ha : s₁.heap.get? a = some { cls := .type "list", data := .seq vs.toArray }) (hi : IntsAre vs ns) (hl : ns.length ≤ sizeLine) (hr : Room k callerA)
    (F : ∀ base : Heap, K.In base → base.Ns mainGlobals mg → FnG P w K mg base k fa fd [x] sp) (hbind : ∀ (s : Shared) (u : Value), BindsTo s fd ⟨[u], []⟩ [(x, u)])
    (hsp : ∀ H : Hp, SqL K H a (ns.map V.int) → sp [.ref a] H (fun v _ => v = .bl true) fun _ _ _ => False) :
    codeAny (model P w) callerA (.call (.ref fa) ⟨[.ref a], []⟩) (fun r s' => r = .ok (.ret (.bool true)) ∧ OldK s₁.heap s'.heap ∧ s'.os = s₁.os ∧ AllBare s'.gens) s₁ := by
  have rv := vals_ints hi
  let ob : Obj := { cls := .type "list", data := .seq vs.toArray }
  let H : Hp := scr K a ob (ns.map V.int)
  have cs := scr_cases K a ob (ns.map V.int)
  have hok : HOk P w H s₁.heap := by
    intro b u z
    rcases cs b with q | ⟨rfl, _, q⟩
    · rw [show H b = none from q] at z
      cases z
    · rw [show H b = _ from q] at z
      cases z
      exact ⟨ha, by rw [List.length_map]; exact hl, vs, _, rv, ha⟩
  have hS : SqL K H a (ns.map V.int) := by
    cases hk : K.lookup a with
    | none => exact .inl (.inr ⟨ob, if_pos ⟨rfl, hk⟩⟩)
    | some o =>
      have e := (KX a o hk).symm.trans ha
      cases e
      exact .inr ⟨_, vs.toArray, _, hk, rfl, rfl, rfl, by rw [List.size_toArray, hi.length]; exact hl, by simpa using rv⟩
  have free : ∀ {b : Addr} {o : Obj}, s₁.heap.get? b = some o → (∀ q n, o.data ≠ .seq q n) → H b = none := by
    intro b o e n
    rcases cs b with q | ⟨rfl, _, _⟩
    · exact q
    · rw [ha] at e
      cases e
      exact absurd rfl (n _ _)
  have nsB : ∀ {b : Addr} {m : Str → Option Value}, s₁.heap.Ns b m → (hidT s₁.heap H).Ns b m := by
    rintro b m ⟨o, es, ep, e, d, r⟩
    exact ⟨o, es, ep, hidT_get e (free e fun q n z => by rw [d] at z; cases z), d, r⟩
  have kB : K.In (hidT s₁.heap H) := by
    intro b o e
    refine hidT_get (KX b o e) ?_
    rcases cs b with q | ⟨rfl, z, _⟩
    · exact q
    · rw [z] at e
      cases e
  obtain ⟨mc, l1, l2⟩ := hlim
  have e0 : Env0 P w K mg (hidT s₁.heap H) callerA [] s₁ H :=
    { frames := rfl, mod := ⟨kB, nsB hns, ⟨mb, nsB hb, hbb⟩, ⟨mc, nsB l1, l2⟩⟩, bs := fun b o e => of_hidT e, bsz := Nat.le_of_eq (hidT_size _ _), funs := trivial, frf := (fun b z => by cases z), hok := hok, bare := .of_eq hg }
  refine codeAny_mono ((F _ kB (nsB hns)).run callerA [] s₁ H ⟨[.ref a], []⟩ [.ref a] [.ref a] _ _ hr rfl e0 (hbind s₁ (.ref a)) (.cons rfl .nil) (hsp H hS)) ?_
  intro r s' h
  match r, h with
  | .error e, h => exact (show False from h).elim
  | .ok .next, h => exact h.elim
  | .ok .brk, h => exact h.elim
  | .ok .cont, h => exact h.elim
  | .ok (.ret u), ⟨v, H', os, bare, un, hok', r', q⟩ =>
    have q : v = .bl true := q
    subst q
    have r' : u = Value.bool true := r'
    subst r'
    refine ⟨rfl, OldK.of_keep ?_, os, bare⟩
    intro b o e
    rcases cs b with q | ⟨rfl, z, q⟩
    · exact un.keep b o e q (fun z => by cases z) (by simp)
    · obtain ⟨e2, _⟩ := hok' b _ (un.frzs b ob _ q)
      rw [ha] at e
      cases e
      exact e2
theorem walk_G {l : PySem.W.OpenLaw} {n k : Nat} {q : Program} {loose : List Str} {XP : (Str → Option Value) → Heap → Prop} {YP : World → Heap → Prop} {d : DefRec} {K : Params → PySem.W.Frag} {x : Str} {sp : World → Sp}
    (hn : l.most = some n) (hn2 : n ≤ sizeLine) (hdf : d.params.defaults = []) (hr : Room k callerA) (hY : ∀ (w : World) (h : Heap), YP w h → (K w.params).In h)
    (F : ∀ (w : World) (mg : Str → Option Value) (fa : Addr) (h : Heap), (K w.params).In h → h.Ns mainGlobals mg → mg d.name = some (.ref fa) →
      ∃ fd : FuncData, (∀ (s : Shared) (u : Value), BindsTo s fd ⟨[u], []⟩ [(x, u)]) ∧ ∀ base : Heap, (K w.params).In base → base.Ns mainGlobals mg → FnG l.prog w (K w.params) mg base k fa fd [x] (sp w))
    (hsp : ∀ (w : World) (H : Hp) (a : Addr) (ns : List Int), ns.length ≤ n → (∀ z ∈ ns, Builtin.Int.intBits z ≤ 1048576) → SqL (K w.params) H a (ns.map V.int) → sp w [.ref a] H (fun v _ => v = .bl true) fun _ _ _ => False) :
    PySem.W.WalkO q loose XP YP l.row.toRowW d [] (fun f vs => PySem.call f vs) := by
  refine Att.attach_callB hn hdf ?_
  intro w s₀ s₁ mg mb fa o pm cd doc a vs ns G Y ho hd hcd hmg hobj hints hlen hbits hg
  obtain ⟨fd, hb, hF⟩ := F w mg fa _ (hY w _ Y) G.T.g hmg
  exact law_callG (hY w _ Y) G.T.g G.T.b G.T.builtins G.T.nolimit hg hobj hints (Nat.le_trans hlen hn2) hr hF hb (fun H hS => hsp w H a ns hlen hbits hS)
/-! ### data that can be shown -/
structure Fine (d : PyData) : Prop where
  s : d.showable = true
  p : SeqAt.shaped d = true
  l : d.leavesShort 50 = true
  b : d.bulk ≤ 100000
theorem w_reprD {K : PySem.W.Frag} {H : Hp} {Q : VK} {a : Addr} {d : PyData} (h : Dp K H (.ref a) d) (f : Fine d) (q : Q (.str d.shown) H) : rReprD K [.ref a] H Q := by
  refine ⟨a, d, rfl, h, f.s, f.p, ?_, q⟩
  have h1 := PyData.shown_le_bulk 50 (by decide) d f.l
  have h2 := f.b
  rw [sizeLine_eq]
  omega
theorem showable_int {i : Int} (h : i.natAbs < 10 ^ 40) : (PyData.int i).showable = true := by
  have := log_lt (i := i) (Nat.lt_of_lt_of_le h (by decide))
  simp only [PyData.showable, this, decide_true]
theorem short_int {i : Int} (h : i.natAbs < 10 ^ 40) : (PyData.int i).leavesShort 50 = true := by
  have e := int_text_length_le10 (k := 40) (by decide) h
  have e2 : (PyData.shown (.int i)).length = (toString i).length := by
    simp only [PyData.shown]
    exact PySem.ofString_length (toString i)
  simp only [PyData.leavesShort, e2]
  exact decide_eq_true (by omega)
theorem showable_ints : ∀ {ns : List Int}, (∀ x ∈ ns, x.natAbs < 10 ^ 40) → PyData.showableAll (ns.map PyData.int) = true
  | [], _ => rfl
  | n :: ns, h => by
    have ih := showable_ints (ns := ns) fun x hx => h x (List.mem_cons_of_mem _ hx)
    have h1 := showable_int (h n List.mem_cons_self)
    simp only [List.map_cons, PyData.showableAll, ih, h1, Bool.and_self]
theorem short_ints : ∀ {ns : List Int}, (∀ x ∈ ns, x.natAbs < 10 ^ 40) → PyData.leavesShortAll 50 (ns.map PyData.int) = true
  | [], _ => rfl
  | n :: ns, h => by
    have ih := short_ints (ns := ns) fun x hx => h x (List.mem_cons_of_mem _ hx)
    have h1 := short_int (h n List.mem_cons_self)
    simp only [List.map_cons, PyData.leavesShortAll, ih, h1, Bool.and_self]
theorem bulk_ints : ∀ ns : List Int, PyData.bulkAll (ns.map PyData.int) = ns.length
  | [] => rfl
  | n :: ns => by
    have ih := bulk_ints ns
    simp only [List.map_cons, PyData.bulkAll, PyData.bulk, ih, List.length_cons]
    omega
def dI (ns : List Int) : PyData := .list (ns.map PyData.int)
theorem fine_ints {ns : List Int} (h : ∀ x ∈ ns, x.natAbs < 10 ^ 40) (hl : ns.length ≤ 10000) : Fine (dI ns) :=
  ⟨by simp only [dI, PyData.showable]; exact showable_ints h, shaped_ints ns, by simp only [dI, PyData.leavesShort]; exact short_ints h, by simp only [dI, PyData.bulk]; rw [bulk_ints]; omega⟩
structure FineAll (ds : List PyData) : Prop where
  s : PyData.showableAll ds = true
  c : PyData.canLayAll0 ds = true
  d : PyData.depthAll ds ≤ 40
  l : PyData.leavesShortAll 50 ds = true
theorem FineAll.nil : FineAll [] := ⟨rfl, rfl, by simp [PyData.depthAll], rfl⟩
theorem FineAll.cons {d : PyData} {ds : List PyData} (f : d.showable = true) (c : d.canLay0 = true) (dp : d.depth ≤ 40) (l : d.leavesShort 50 = true) (r : FineAll ds) : FineAll (d :: ds) :=
  ⟨by simp only [PyData.showableAll, f, r.s, Bool.and_self], by simp only [PyData.canLayAll0, c, r.c, Bool.and_self], by have := r.d; simp only [PyData.depthAll]; omega, by simp only [PyData.leavesShortAll, l, r.l, Bool.and_self]⟩
theorem FineAll.cons_ints {ns : List Int} {ds : List PyData} (h : ∀ x ∈ ns, x.natAbs < 10 ^ 40) (r : FineAll ds) : FineAll (dI ns :: ds) :=
  .cons (by simp only [dI, PyData.showable]; exact showable_ints h) (by simp only [dI, PyData.canLay0]; exact canLay_ints ns) (by have := depth_ints ns; simp only [dI, PyData.depth]; omega) (by simp only [dI, PyData.leavesShort]; exact short_ints h) r
theorem FineAll.cons_lst {xs ds : List PyData} (f : FineAll xs) (dp : PyData.depthAll xs ≤ 30) (r : FineAll ds) : FineAll (.list xs :: ds) :=
  .cons (by simp only [PyData.showable]; exact f.s) (by simp only [PyData.canLay0]; exact f.c) (by simp only [PyData.depth]; omega) (by simp only [PyData.leavesShort]; exact f.l) r
theorem FineAll.fine {ds : List PyData} (r : FineAll ds) (b : PyData.bulkAll ds ≤ 100000) : Fine (.list ds) :=
  ⟨by simp only [PyData.showable]; exact r.s, by
    unfold SeqAt.shaped
    have h1 : PyData.canLay0 (.list ds) = true := by simp only [PyData.canLay0]; exact r.c
    have h2 : PyData.depth (.list ds) ≤ 64 := by
      have := r.d
      simp only [PyData.depth]
      omega
    rw [h1, decide_eq_true h2]
    rfl, by simp only [PyData.leavesShort]; exact r.l, by simp only [PyData.bulk]; exact b⟩
/-! ### generators -/
structure GnAt (P : Program) (w : World) (K : PySem.W.Frag) (mg : Str → Option Value) (base : Heap) (x : Str) (st : Stmt) (k : Nat) (ps : List Str) (sp : SpG) : Prop where
  ex : ∃ f fd, mg x = some (.ref f) ∧ Fun K x x st f fd ∧ GFn P w K mg base k f fd ps sp ∧ Binds K fd ps []
theorem FunAt.okGn {P : Program} {w : World} {K : PySem.W.Frag} {mg : Str → Option Value} {base : Heap} {x : Str} {st : Stmt} {k : Nat} {ps N : List Str} {sp : SpG} (F : FunAt K mg x st) (S : GScope N ps (defScope st)) (len : ∀ vs H Q E, sp vs H Q E → vs.length = ps.length)
    (hb : ∀ (kV doc pm : Value) (an : Option Addr) (cdv ct : Value) (us : List Value), us.length = ps.length → bindArgs (PySem.W.fnOf x x (defArgs st) (defBody st) (defScope st) .none kV doc pm an cdv ct) ⟨us, []⟩ = pure (ps.zip us))
    (hbody : ∀ (f : Addr) (cdv : Value) (A : Around) (outer : List Env) (s : Shared) (H : Hp) (vs : List V) (Q : List V → Hp → Prop) (E : XK) (pn : List (Addr × Obj)), Room k (A.deeper (envOfC x (defScope st) s.heap.objs.size f cdv)) → sp vs H Q E →
      ∃ t, GSs (gcxOf P w K mg base N x (defScope st) f cdv A outer s H E pn) (defBody st) t ∧ t { nx := fun ys _ H' => Q ys H', rt := fun ys v H' => v = .non ∧ Q ys H' } [] (start N vs) H) : GnAt P w K mg base x st (k + 1) ps sp := by
  obtain ⟨f, fd, hm, F⟩ := F.ex
  refine ⟨f, fd, hm, F, ?_, F.binds hb⟩
  obtain ⟨oc, od, kV, doc, pm, an, cdv, ct, osl, rfl, lk, hcd⟩ := F.ex
  exact gfn_of lk hcd S len fun A outer s H vs Q E pn hr h => hbody f cdv A outer s H vs Q E pn hr h
theorem pe_listGD {X : Cx} {x : Str} {st : Stmt} {k : Nat} {ps : List Str} {sp : SpG} {e : Expr} {es : List Expr} {t : TA} {p p0 p1 pos : Pos} (D : GnAt X.prog X.w X.K X.mg X.base x st k ps sp) (hr : Room (k + 3) X.A) (hgl : Gl X "list") (hml : X.mg "list" = none) (ha : PA X (e :: es) t) (hg : Gl X x := by rfl)
    (hdb : (x == ("__debug__" : Str)) = false := by decide) (he : starEach (e :: es) X.env = (false, eval e X.env) :: starEach es X.env := by rfl) (hpl : (backTo p1 (starEach es X.env)).any (·.1) = false := by rfl)
    (he2 : starEach [.Call (.Name x p) (e :: es) [] p1] X.env = (false, eval (.Call (.Name x p) (e :: es) [] p1) X.env) :: starEach [] X.env := by rfl) :
    PE X (.Call (.Name "list" p0) [.Call (.Name x p) (e :: es) [] p1] [] pos) (tListG (tCallG sp [] E0 t)) := by
  obtain ⟨f, fd, hm, F, G, b⟩ := D.ex
  exact pe_listG (pgen_call G (hr.mono (by omega)) hg hm F.kp b .nil ha hdb he hpl) (fun _ _ _ _ _ _ _ z => by
    obtain ⟨_, _, _, _, _, _, _, _, _, _, _, _, q⟩ := z
    exact q.elim) (fun _ _ _ z => z.elim) hr hgl hml boot_list (by decide) (by decide) he2
section
variable {D : GEnds} {ys : List V} {σ : L2.St} {H : Hp} {t u : TGn} {te : TE} {c : TT} {tb : TGn} {ts : TS}
theorem w_gStart {N : List Str} {vs : List V} {σ' : L2.St} (e : L2.start N vs = σ') (h : t D ys σ' H) : t D ys (L2.start N vs) H := e ▸ h
theorem w_gThen (h : t { D with nx := fun ys' σ' H' => u D ys' σ' H' } ys σ H) : tGThen t u D ys σ H := h
theorem w_gPlain (h : ts (D.at ys) σ H) : tPlain ts D ys σ H := h
theorem w_gYield (hz : ys.length < 16777216) (h : te σ H fun x H1 => D.nx (ys ++ [x]) σ H1) : tGYield te D ys σ H := ⟨szlt hz, h⟩
theorem w_g0 (h : D.nx ys σ H) : tG0 D ys σ H := h
theorem w_at (h : D.nx ys σ H) : (D.at ys).nx σ H := h
end
section
variable {D : GEnds} {ys : List V} {σ : L2.St} {H : Hp} {c : TT} {tb : TGn}
def GWh (W : Nat → List V → L2.St → Hp → Prop) (m : Nat) (tb : TGn) (D : GEnds) (ys : List V) (σ : L2.St) (H1 : Hp) : Prop := ∃ N : List V → L2.St → Hp → Prop, (∀ ys' σ' H', N ys' σ' H' → ∃ m', m' < m ∧ W m' ys' σ' H') ∧ tb { D with nx := N, ct := N, bk := D.nx } ys σ H1
theorem w_gWhile (W : Nat → List V → L2.St → Hp → Prop) (m0 : Nat) (h0 : W m0 ys σ H) (hs : ∀ m ys σ H, W m ys σ H → c σ H fun b H1 => if b = true then GWh W m tb D ys σ H1 else D.nx ys σ H1) : tGWhile c tb D ys σ H := ⟨W, ⟨m0, h0⟩, hs⟩
theorem w_gWh {W : Nat → List V → L2.St → Hp → Prop} {m : Nat} (q : tb { D with nx := fun ys' σ' H' => ∃ m', m' < m ∧ W m' ys' σ' H', ct := fun ys' σ' H' => ∃ m', m' < m ∧ W m' ys' σ' H', bk := D.nx } ys σ H) : GWh W m tb D ys σ H := ⟨_, fun _ _ _ h => h, q⟩
def ListGE (Q : VK) : List V → Hp → Prop := fun out H2 => ∀ p, H2 p = none → Q (.ref p) (upd H2 p (.lst out))
theorem w_listG {tg : TGen} {Q : VK} (h : tg σ H (ListGE Q)) : tListG tg σ H Q := h
theorem w_callG {sp : SpG} {dvs : List V} {E : XK} {t : TA} {cont : List V → Hp → Prop} (h : t σ H fun vs H1 => sp (vs ++ dvs) H1 cont E) : tCallG sp dvs E t σ H cont := h
theorem w_listGE {Q : VK} {out : List V} (h : ∀ p, H p = none → Q (.ref p) (upd H p (.lst out))) : ListGE Q out H := h
end
end Pg

namespace Pg
open PySem PySem.Spec PyProof.Rows L2
/-! ### truths compared; None or a number compared -/
theorem dec_bl {a b : Bool} : decide (V.bl a = V.bl b) = (a == b) := by
  cases a <;> cases b <;> rfl
theorem w_eqB {a b : Bool} {H : Hp} {Q : VK} (q : Q (.bl (a == b)) H) : rEq (.bl a) (.bl b) H Q := ⟨rfl, by rw [dec_bl]; exact q⟩
theorem w_neB {a b : Bool} {H : Hp} {Q : VK} (q : Q (.bl (a != b)) H) : rNe (.bl a) (.bl b) H Q := ⟨rfl, by rw [dec_bl]; exact q⟩
theorem beq_iff {p q : Prop} [Decidable p] [Decidable q] (h : p ↔ q) : (decide p == decide q) = true := by
  by_cases z : p
  · rw [decide_eq_true z, decide_eq_true (h.mp z)]; rfl
  · rw [decide_eq_false z, decide_eq_false fun y => z (h.mpr y)]; rfl
theorem bne_iff {p q : Prop} [Decidable p] [Decidable q] (h : p ↔ q) : (decide p != decide q) = false := by
  by_cases z : p
  · rw [decide_eq_true z, decide_eq_true (h.mp z)]; rfl
  · rw [decide_eq_false z, decide_eq_false fun y => z (h.mpr y)]; rfl
theorem w_iteV {b : Bool} {A B : Prop} (e : b = true) (h : A) : if b = true then A else B := by rw [if_pos e]; exact h
theorem w_iteW {b : Bool} {A B : Prop} (e : b = false) (h : B) : if b = true then A else B := by rw [e]; exact h
/-- None or a number -/
def NonInt (v : V) : Prop := v = .non ∨ ∃ i, v = .int i
theorem NonInt.dp {K : PySem.W.Frag} {H : Hp} {v : V} (h : NonInt v) : ∃ d, Dp K H v d ∧ SeqAt.shaped d = true ∧ PyData.eqv d d = true := by
  rcases h with rfl | ⟨i, rfl⟩
  · exact ⟨.none, .non, by decide, by simp [PyData.eqv]⟩
  · exact ⟨.int i, .int i, by rfl, by simp [PyData.eqv]⟩
theorem w_eqSame {K : PySem.W.Frag} {H : Hp} {Q : VK} {v : V} (h : NonInt v) (q : Q (.bl true) H) : rEqD K v v H Q := by
  obtain ⟨d, h1, h2, h3⟩ := h.dp (K := K) (H := H)
  exact ⟨d, d, h1, h1, h2, h2, by rw [h3]; exact q⟩
theorem w_neSame {K : PySem.W.Frag} {H : Hp} {Q : VK} {v : V} (h : NonInt v) (q : Q (.bl false) H) : rNeD K v v H Q := by
  obtain ⟨d, h1, h2, h3⟩ := h.dp (K := K) (H := H)
  exact ⟨d, d, h1, h1, h2, h2, by rw [h3]; exact q⟩
/-! ### steps that go up, comprehensions over any walk -/
section
variable {σ : L2.St} {H : Hp} {g : TG} {tt : TT} {te : TE} {vs : List Nat} {Q : VK}
theorem l_it {J : It} {n : Nat} {G : Hp → Prop} {Y : Nat → Hp → V → Hp → Prop} (w : Walk J n G Y) (Pv : Addr → Nat → Hp → Prop) (h0 : ∀ L, H L = none → Pv L 0 (upd H L (.lst []))) (hG : ∀ L i H', H L = none → i ≤ n → Pv L i H' → G H')
    (hs : ∀ L i x H' H'', H L = none → i < n → Pv L i H' → Y i H' x H'' → g x (wipe σ vs) H'' fun σ2 H2 => wipe σ2 vs = wipe σ vs ∧ tt σ2 H2 fun b H3 => if b = true then te σ2 H3 (AppE L (Pv L (i + 1))) else Pv L (i + 1) H3)
    (hd : ∀ L H', H L = none → Pv L n H' → Q (.ref L) H') : LcB g tt te vs σ Q J H := fun L hL => lc_it w (Pv L) (h0 L hL) (fun i H' => hG L i H' hL) (fun i x H' H'' => hs L i x H' H'' hL) (fun H' => hd L H' hL)
theorem l_rangeC {lo c : Int} {n : Nat} (Pv : Addr → Nat → Hp → Prop) (h0 : ∀ L, H L = none → Pv L 0 (upd H L (.lst [])))
    (hs : ∀ L i H', H L = none → i < n → Pv L i H' → g (.int (lo + (i : Nat) * c)) (wipe σ vs) H' fun σ2 H2 => wipe σ2 vs = wipe σ vs ∧ tt σ2 H2 fun b H3 => if b = true then te σ2 H3 (AppE L (Pv L (i + 1))) else Pv L (i + 1) H3)
    (hd : ∀ L H', H L = none → Pv L n H' → Q (.ref L) H') : LcB g tt te vs σ Q (Itc lo c n) H :=
  l_it walk_rangeC Pv h0 (fun _ _ _ _ _ _ => trivial) (fun L i x H' H'' hL hi p y => by
    obtain ⟨e1, e2⟩ := y
    subst e1 e2
    exact hs L i _ hL hi p) hd
theorem l_enum {K : PySem.W.Frag} {a : Addr} (xs : List V) (Pv : Addr → Nat → Hp → Prop) (h0 : ∀ L, H L = none → Pv L 0 (upd H L (.lst []))) (hl : ∀ L i H', H L = none → i ≤ xs.length → Pv L i H' → SqL K H' a xs)
    (hs : ∀ L i x T H', H L = none → xs[i]? = some x → Pv L i H' → H' T = none → g (.ref T) (wipe σ vs) (upd H' T (.tup [.int (i : Nat), x])) fun σ2 H2 => wipe σ2 vs = wipe σ vs ∧ tt σ2 H2 fun b H3 => if b = true then te σ2 H3 (AppE L (Pv L (i + 1))) else Pv L (i + 1) H3)
    (hd : ∀ L H', H L = none → Pv L xs.length H' → Q (.ref L) H') : LcB g tt te vs σ Q (Ite K a) H :=
  l_it walk_enum Pv h0 hl (fun L i x H' H'' hL hi p y => by
    obtain ⟨T, u, v, h1, h2, h3, h4, h5⟩ := y
    subst h1 h3
    have h4 := Option.some.inj h4
    subst h4
    exact hs L i v T H' hL h5 p h2) hd
end
theorem RgC.pos {i j c : Int} (hi : 0 ≤ i) (hj : i ≤ j) (hj2 : j < 2 ^ 30) (hc : 1 ≤ c) (hc2 : c < 2 ^ 30) : RgC i j c ((j - i + c - 1) / c).toNat := by
  have e : Builtin.Range.rangeSize i j c = (((j - i + c - 1) / c).toNat : Int) := by
    unfold Builtin.Range.rangeSize
    rw [if_pos (by omega)]
    have h0 : 0 ≤ (j - i + c - 1) / c := Int.ediv_nonneg (by omega) (by omega)
    rw [Int.toNat_of_nonneg h0]
    by_cases h : i < j
    · rw [if_pos h, show j - i + c - 1 = (j - i - 1) + c by omega, Int.add_ediv_of_dvd_right (Int.dvd_refl c), Int.ediv_self (by omega)]
    · rw [if_neg h, show j - i + c - 1 = c - 1 by omega, Int.ediv_eq_zero_of_lt (by omega) (by omega)]
  have hb : ((j - i + c - 1) / c).toNat < 2 ^ 31 := by
    have h1 : (j - i + c - 1) / c ≤ j - i + c - 1 := Int.ediv_le_self _ (by omega)
    omega
  refine ⟨by omega, by omega, ?_, e⟩
  unfold Builtin.Range.small
  rw [e]
  simp only [Builtin.Range.rangeFitsLong, Bool.and_eq_true, Bool.or_eq_true, decide_eq_true_eq, beq_iff_eq]
  rw [if_pos (by omega)]
  simp only [Bool.and_eq_true, decide_eq_true_eq]
  omega
theorem w_rng3P {H : Hp} {R : It → Hp → Prop} {i j c : Int} (h : 0 ≤ i ∧ i ≤ j ∧ j < 2 ^ 30 ∧ 1 ≤ c ∧ c < 2 ^ 30) (q : R (Itc i c ((j - i + c - 1) / c).toNat) H) : Rng3E R [.int i, .int j, .int c] H :=
  ⟨i, j, c, _, rfl, RgC.pos h.1 h.2.1 h.2.2.1 h.2.2.2.1 h.2.2.2.2, q⟩
theorem kc_pi {X : Cx} {K : PySem.W.Frag} {tg e : Expr} {t : TE} (h : PI X tg e (iList X.K t)) (q : X.K = K) : PI X tg e (iList K t) := q ▸ h
theorem w_extendR {H : Hp} {Q : VK} {a q : Addr} {ps qs : List Addr} (h1 : H a = some (.lst (ps.map V.ref))) (h2 : H q = some (.lst (qs.map V.ref))) (hz : ps.length + qs.length ≤ 16777216) (k : Q .non (upd H a (.lst ((ps ++ qs).map V.ref)))) : rExtend (.ref a) [.ref q] H Q :=
  ⟨a, q, _, _, rfl, rfl, h1, h2, szle' (by rw [List.length_map, List.length_map]; exact hz), by rw [← List.map_append]; exact k⟩
/-! ### lists of pairs of numbers -/
def dP (l : Int × Int) : PyData := .tuple [.int l.1, .int l.2]
theorem canLay_pairs : ∀ ls : List (Int × Int), PyData.canLayAll0 (ls.map dP) = true
  | [] => rfl
  | l :: ls => by
    have ih := canLay_pairs ls
    simp only [List.map_cons, dP, PyData.canLayAll0, PyData.canLay0, Bool.and_self, Bool.true_and]
    exact ih
theorem depth_pairs : ∀ ls : List (Int × Int), PyData.depthAll (ls.map dP) ≤ 3
  | [] => by simp [PyData.depthAll]
  | l :: ls => by
    have ih := depth_pairs ls
    have e : PyData.depth (dP l) ≤ 2 := by simp [dP, PyData.depthAll, PyData.depth]
    simp only [List.map_cons, PyData.depthAll]
    omega
theorem shaped_pairs (ls : List (Int × Int)) : SeqAt.shaped (.list (ls.map dP)) = true := by
  unfold SeqAt.shaped
  have h1 : PyData.canLay0 (.list (ls.map dP)) = true := by simp only [PyData.canLay0]; exact canLay_pairs ls
  have h2 : PyData.depth (.list (ls.map dP)) ≤ 64 := by
    have := depth_pairs ls
    simp only [PyData.depth]
    omega
  rw [h1, decide_eq_true h2]
  rfl
theorem eqvAll_pairs : ∀ ls ms : List (Int × Int), PyData.eqvAll (ls.map dP) (ms.map dP) = decide (ls = ms)
  | [], [] => by simp [PyData.eqvAll]
  | [], m :: ms => by simp [PyData.eqvAll]
  | n :: ns, [] => by simp [PyData.eqvAll]
  | n :: ns, m :: ms => by
    have ih := eqvAll_pairs ns ms
    simp only [List.map_cons, PyData.eqvAll, ih]
    have e : PyData.eqv (dP n) (dP m) = decide (n = m) := by
      obtain ⟨n1, n2⟩ := n
      obtain ⟨m1, m2⟩ := m
      simp only [dP, PyData.eqv, PyData.eqvAll, Prod.mk.injEq]
      by_cases h : n1 = m1 <;> by_cases h2 : n2 = m2 <;> simp [h, h2]
    rw [e]
    by_cases h : n = m
    · subst h
      by_cases h2 : ns = ms <;> simp [h2]
    · simp [h]
/-! ### repr of None or of data -/
def rReprA (K : PySem.W.Frag) : List V → Hp → VK → Prop := fun xs H Q => (xs = [.non] ∧ Q (.str "None") H) ∨ rReprD K xs H Q
theorem call_reprA {X : Cx} (hg : X.A.guards = some []) (hu : X.A.units + 100 < cLine) : CallR X (.builtin "repr") (rReprA X.K) := by
  intro pins s σ H xs us Q I r h
  rcases h with ⟨rfl, q⟩ | h
  · obtain ⟨u, rfl, ru⟩ := vals1 r
    cases ru
    exact PySem.P.repr_of_none ⟨.str "None", H, I.tok _, ⟨_, rfl⟩, q⟩
  · exact call_reprD hg hu pins s σ H xs us Q I r h
theorem w_reprA0 {K : PySem.W.Frag} {H : Hp} {Q : VK} (q : Q (.str "None") H) : rReprA K [.non] H Q := .inl ⟨rfl, q⟩
theorem w_reprA {K : PySem.W.Frag} {H : Hp} {Q : VK} {a : Addr} {d : PyData} (h : Dp K H (.ref a) d) (f : Fine d) (q : Q (.str d.shown) H) : rReprA K [.ref a] H Q := .inr (w_reprD h f q)
theorem w_all {K : PySem.W.Frag} {H : Hp} {Q : VK} {a : Addr} {bs : List Bool} (h : H a = some (.lst (bs.map V.bl))) (q : Q (.bl (bs.all id)) H) : rAll K [.ref a] H Q := ⟨a, bs, rfl, SqL.of h, q⟩
/-! ### slices of lists of objects, loops over tuples -/
theorem cutV_take (xs : List V) (n : Nat) : cutV xs none (some (n : Int)) = xs.take n := by
  show (xs.drop (HT.sIx xs.length 0 none)).take (HT.sIx xs.length xs.length (some (n : Int)) - HT.sIx xs.length 0 none) = xs.take n
  have e1 : HT.sIx xs.length 0 none = 0 := rfl
  have e2 : HT.sIx xs.length xs.length (some (n : Int)) = min n xs.length := by
    simp only [HT.sIx]
    rw [if_neg (by omega)]
    omega
  rw [e1, e2, List.drop_zero, Nat.sub_zero]
  by_cases h : n ≤ xs.length
  · rw [Nat.min_eq_left h]
  · rw [Nat.min_eq_right (by omega), List.take_length, List.take_of_length_le (by omega)]
theorem w_slTake {K : PySem.W.Frag} {H : Hp} {Q : VK} {a : Addr} {ps : List Addr} {n : Nat} (h : H a = some (.lst (ps.map V.ref))) (q : ∀ p, H p = none → Q (.ref p) (upd H p (.lst ((ps.take n).map V.ref)))) : rSlL K (.ref a) none (some (n : Int)) H Q :=
  ⟨a, _, rfl, SqL.of h, fun p hp => by rw [cutV_take, ← List.map_take]; exact q p hp⟩
def TupE (K : PySem.W.Frag) (R : It → Hp → Prop) : V → Hp → Prop := fun x H1 => ∃ a, x = .ref a ∧ (∃ xs, SqT K H1 a xs) ∧ R (Itt K a) H1
theorem w_iTup {K : PySem.W.Frag} {tl : TE} {σ : L2.St} {H : Hp} {R : It → Hp → Prop} (h : tl σ H (TupE K R)) : iTup K tl σ H R := h
theorem w_iTupE {K : PySem.W.Frag} {a : Addr} {xs : List V} {H : Hp} {R : It → Hp → Prop} (h : SqT K H a xs) (q : R (Itt K a) H) : TupE K R (.ref a) H := ⟨a, rfl, ⟨xs, h⟩, q⟩
theorem kc_pg {X : Cx} {K : PySem.W.Frag} {tg : Expr} {k : Nat} {t : TGs} (h : PG X tg (gTup X.K k t)) (q : X.K = K) : PG X tg (gTup K k t) := q ▸ h
/-! ### x *= y -/
def ipM : TIp := fun x y H Q => ∃ i j, x = .int i ∧ y = .int j ∧ CMulW i j ∧ Q (.int (i * j)) H
theorem ip_mul {X : Cx} : PIp X .Mult ipM := by
  intro pins s σ H x y v u Q I r1 r2 h
  obtain ⟨i, j, e1, e2, c, q⟩ := h
  subst e1; subst e2
  obtain ⟨t, rfl⟩ := r1
  obtain ⟨t', rfl⟩ := r2
  exact imul_int ⟨.int _, H, I.tok _, ⟨_, rfl⟩, q⟩ c.ok
theorem w_ipM {m n : Int} {H : Hp} {Q : VK} (c : CMulW m n) (q : Q (.int (m * n)) H) : ipM (.int m) (.int n) H Q := ⟨m, n, rfl, rfl, c, q⟩
theorem FineAll.tup {ds : List PyData} (r : FineAll ds) (b : PyData.bulkAll ds ≤ 100000) : Fine (.tuple ds) :=
  ⟨by simp only [PyData.showable]; exact r.s, by
    unfold SeqAt.shaped
    have h1 : PyData.canLay0 (.tuple ds) = true := by simp only [PyData.canLay0]; exact r.c
    have h2 : PyData.depth (.tuple ds) ≤ 64 := by
      have := r.d
      simp only [PyData.depth]
      omega
    rw [h1, decide_eq_true h2]
    rfl, by simp only [PyData.leavesShort]; exact r.l, by simp only [PyData.bulk]; exact b⟩
theorem FineAll.cons_int {i : Int} {ds : List PyData} (h : i.natAbs < 10 ^ 40) (r : FineAll ds) : FineAll (.int i :: ds) :=
  .cons (showable_int h) (by simp only [PyData.canLay0]) (by simp [PyData.depth]) (short_int h) r
theorem fine_pair {i j : Int} (hi : i.natAbs < 10 ^ 40) (hj : j.natAbs < 10 ^ 40) : Fine (dP (i, j)) := (FineAll.cons_int hi (.cons_int hj .nil)).tup (by simp [PyData.bulkAll, PyData.bulk])
theorem w_ixLR {K : PySem.W.Frag} {H : Hp} {Q : VK} {p : Addr} {ps : List Addr} {m : Int} (h : H p = some (.lst (ps.map V.ref))) (h0 : 0 ≤ m) (h1 : m < ps.length) (q : ∀ t, ps[m.toNat]? = some t → Q (.ref t) H) : rIxL K (.ref p) (.int m) H Q := by
  obtain ⟨v, hv, e, e2⟩ := atI_lt (xs := ps.map V.ref) h0 (by rw [List.length_map]; exact h1)
  rw [List.getElem?_map] at e2
  cases z : ps[m.toNat]? with
  | none =>
    rw [z] at e2
    cases e2
  | some t =>
    rw [z] at e2
    have e3 : v = .ref t := (Option.some.inj e2).symm
    subst e3
    exact w_ixL (SqL.of h) e (q t z)
theorem w_setLR {H : Hp} {p t : Addr} {ps : List Addr} {m : Int} {Q : Hp → Prop} (h : H p = some (.lst (ps.map V.ref))) (h0 : 0 ≤ m) (h1 : m < ps.length) (q : Q (upd H p (.lst ((ps.set m.toNat t).map V.ref)))) : rSetL (.ref p) (.int m) (.ref t) H Q := by
  refine ⟨p, _, m, m.toNat, rfl, rfl, h, ?_, by rw [← List.map_set]; exact q⟩
  rw [List.length_map]
  have z : ((m.toNat : Nat) : Int) = m := Int.toNat_of_nonneg h0
  unfold ixN
  rw [if_pos h0, if_pos h1]
theorem w_catR {H : Hp} {Q : VK} {p q : Addr} {ps qs : List Addr} (h1 : H p = some (.lst (ps.map V.ref))) (h2 : H q = some (.lst (qs.map V.ref))) (hz : ps.length + qs.length ≤ 16777216) (k : ∀ r, H r = none → Q (.ref r) (upd H r (.lst ((ps ++ qs).map V.ref)))) : rCat (.ref p) (.ref q) H Q :=
  ⟨p, q, _, _, rfl, rfl, h1, h2, szle' (by rw [List.length_map, List.length_map]; exact hz), fun r hr => by rw [← List.map_append]; exact k r hr⟩
def Par3E (i j l : Nat) (R : L2.St → Hp → Prop) (σ : L2.St) : List V → Hp → Prop := fun vs H1 => ∃ u v w, vs = [u, v, w] ∧ R (((σ.set i (some u)).set j (some v)).set l (some w)) H1
theorem w_par3 {i j l : Nat} {tA : TA} {D : Ends} {σ : L2.St} {H : Hp} (h : tA σ H (Par3E i j l (D.nx) σ)) : tPar3 i j l tA D σ H := h
theorem w_par3E {i j l : Nat} {R : L2.St → Hp → Prop} {σ : L2.St} {H : Hp} {x y z : V} (q : R (((σ.set i (some x)).set j (some y)).set l (some z)) H) : Par3E i j l R σ [x, y, z] H := ⟨x, y, z, rfl, q⟩
/-! ### defs that call themselves -/
def spNo : Sp := fun _ _ _ _ => False
theorem FunAt.never {P : Program} {w : World} {K : PySem.W.Frag} {mg : Str → Option Value} {base : Heap} {x : Str} {st : Stmt} {k : Nat} {ps : List Str} (F : FunAt K mg x st)
    (hb : ∀ (kV doc pm : Value) (an : Option Addr) (cdv ct : Value) (us : List Value), us.length = ps.length → bindArgs (PySem.W.fnOf x x (defArgs st) (defBody st) (defScope st) .none kV doc pm an cdv ct) ⟨us, []⟩ = pure (ps.zip us)) : DefAt P w K mg base x st k ps spNo := by
  obtain ⟨f, fd, hm, F⟩ := F.ex
  exact ⟨f, fd, hm, F, ⟨fun _ _ _ _ h => h.elim, fun _ _ _ _ _ _ _ _ _ _ _ _ _ h => h.elim⟩, F.binds hb⟩
/-! ### lists of lists of numbers -/
structure ListsAt (H : Hp) (ps : List Addr) (xss : List (List Int)) : Prop where
  len : ps.length = xss.length
  at_ : ∀ (i : Nat) (p : Addr) (xs : List Int), ps[i]? = some p → xss[i]? = some xs → H p = some (.lst (xs.map V.int))
theorem ListsAt.nil {H : Hp} : ListsAt H [] [] := ⟨rfl, by simp⟩
theorem ListsAt.fr {H H' : Hp} {ps : List Addr} {xss : List (List Int)} (h : ListsAt H ps xss) (f : Fr [] H H') : ListsAt H' ps xss := ⟨h.len, fun i p l h1 h2 => f.at0 (h.at_ i p l h1 h2)⟩
theorem ListsAt.app {H : Hp} {ps qs : List Addr} {xss yss : List (List Int)} (h : ListsAt H ps xss) (k : ListsAt H qs yss) : ListsAt H (ps ++ qs) (xss ++ yss) := by
  refine ⟨by simp [h.len, k.len], fun i q m h1 h2 => ?_⟩
  have hl := h.len
  by_cases hi : i < ps.length
  · rw [List.getElem?_append_left hi] at h1
    rw [List.getElem?_append_left (by omega)] at h2
    exact h.at_ i q m h1 h2
  · rw [List.getElem?_append_right (by omega)] at h1
    rw [List.getElem?_append_right (by omega), ← hl] at h2
    exact k.at_ _ q m h1 h2
theorem ListsAt.one {H : Hp} {p : Addr} {xs : List Int} (h : H p = some (.lst (xs.map V.int))) : ListsAt H [p] [xs] := ⟨rfl, fun i q m h1 h2 => by
  match i, h1, h2 with
  | 0, h1, h2 =>
    have e1 : p = q := by simpa using h1
    have e2 : xs = m := by simpa using h2
    subst e1 e2
    exact h
  | i + 1, h1, h2 => simp at h1⟩
theorem ListsAt.put {H : Hp} {a : Addr} {o : HO} {ps : List Addr} {xss : List (List Int)} (h : ListsAt H ps xss) (ha : a ∉ ps) : ListsAt (upd H a o) ps xss :=
  ⟨h.len, fun i q m h1 h2 => by
    have hne : q ≠ a := fun e => ha (e ▸ List.mem_of_getElem? h1)
    rw [upd_ne hne]
    exact h.at_ i q m h1 h2⟩
theorem dpAll_lists {K : PySem.W.Frag} {H : Hp} : ∀ {ps : List Addr} {xss : List (List Int)}, ListsAt H ps xss → DpAll K H (ps.map V.ref) (xss.map dI)
  | [], [], _ => .nil
  | [], _ :: _, h => by cases h.len
  | _ :: _, [], h => by cases h.len
  | p :: ps, l :: ls, h => .cons (dp_ints (SqL.of (h.at_ 0 p l rfl rfl))) (dpAll_lists ⟨by simpa using h.len, fun i q m h1 h2 => h.at_ (i + 1) q m (by simpa using h1) (by simpa using h2)⟩)
theorem canLay_lists : ∀ ls : List (List Int), PyData.canLayAll0 (ls.map dI) = true
  | [] => rfl
  | l :: ls => by
    have ih := canLay_lists ls
    have h1 : PyData.canLay0 (dI l) = true := by simp only [dI, PyData.canLay0]; exact canLay_ints l
    simp only [List.map_cons, PyData.canLayAll0, h1, ih, Bool.and_self]
theorem depth_lists : ∀ ls : List (List Int), PyData.depthAll (ls.map dI) ≤ 3
  | [] => by simp [PyData.depthAll]
  | l :: ls => by
    have ih := depth_lists ls
    have h1 : PyData.depth (dI l) ≤ 2 := by
      have := depth_ints l
      simp only [dI, PyData.depth]
      omega
    simp only [List.map_cons, PyData.depthAll]
    omega
theorem shaped_lists (ls : List (List Int)) : SeqAt.shaped (.list (ls.map dI)) = true := by
  unfold SeqAt.shaped
  have h1 : PyData.canLay0 (.list (ls.map dI)) = true := by simp only [PyData.canLay0]; exact canLay_lists ls
  have h2 : PyData.depth (.list (ls.map dI)) ≤ 64 := by
    have := depth_lists ls
    simp only [PyData.depth]
    omega
  rw [h1, decide_eq_true h2]
  rfl
theorem w_neNilL {K : PySem.W.Frag} {H : Hp} {Q : VK} {a b : Addr} {ps : List Addr} {xss : List (List Int)} (ha : H a = some (.lst (ps.map V.ref))) (hb : H b = some (.lst [])) (h1 : ListsAt H ps xss) (k : Q (.bl (!decide (xss = []))) H) : rNeD K (.ref a) (.ref b) H Q :=
  ⟨_, _, .lst (SqL.of ha) (dpAll_lists h1), .lst (SqL.of hb) (dpAll_lists (ps := []) (xss := []) .nil), shaped_lists _, shaped_lists _, by
    have e : PyData.eqv (.list (xss.map dI)) (.list (([] : List (List Int)).map dI)) = decide (xss = []) := by
      simp only [PyData.eqv]
      cases xss with
      | nil => simp [PyData.eqvAll]
      | cons x xs => simp [PyData.eqvAll]
    rw [e]
    exact k⟩
theorem FineAll.cons_pair {l : Int × Int} {ds : List PyData} (hi : l.1.natAbs < 10 ^ 40) (hj : l.2.natAbs < 10 ^ 40) (r : FineAll ds) : FineAll (dP l :: ds) := by
  have f : FineAll [PyData.int l.1, PyData.int l.2] := FineAll.cons_int hi (.cons_int hj .nil)
  exact .cons (by simp only [dP, PyData.showable]; exact f.s) (by simp only [dP, PyData.canLay0]; exact f.c) (by simp [dP, PyData.depth, PyData.depthAll]) (by simp only [dP, PyData.leavesShort]; exact f.l) r
theorem fineAll_pairs : ∀ {ls : List (Int × Int)}, (∀ l ∈ ls, l.1.natAbs < 10 ^ 40 ∧ l.2.natAbs < 10 ^ 40) → FineAll (ls.map dP)
  | [], _ => .nil
  | l :: ls, h => .cons_pair (h l List.mem_cons_self).1 (h l List.mem_cons_self).2 (fineAll_pairs fun m hm => h m (List.mem_cons_of_mem _ hm))
theorem bulk_pairs : ∀ ls : List (Int × Int), PyData.bulkAll (ls.map dP) ≤ 10 * ls.length
  | [] => by simp [PyData.bulkAll]
  | l :: ls => by
    have ih := bulk_pairs ls
    have h1 : PyData.bulk (dP l) ≤ 5 := by simp [dP, PyData.bulk, PyData.bulkAll]
    simp only [List.map_cons, PyData.bulkAll, List.length_cons]
    omega
theorem fine_pairs {ls : List (Int × Int)} (h : ∀ l ∈ ls, l.1.natAbs < 10 ^ 40 ∧ l.2.natAbs < 10 ^ 40) (hl : ls.length ≤ 1000) : Fine (.list (ls.map dP)) :=
  (fineAll_pairs h).fine (by have := bulk_pairs ls; omega)
/-! ### repr of a great number, where no limit of digits was set -/
def rReprBig : List V → Hp → VK → Prop := fun xs H Q => ∃ i : Int, xs = [.int i] ∧ i.natAbs < 10 ^ 4300 ∧ Q (.str (toString i)) H
theorem nodigits_of {K : PySem.W.Frag} {h : Heap} (X : K.In h) (hl : h.NoLimit) (nd : PySem.W.nsIn K cStatics "sys.int_max_str_digits" = some none) : h.NoDigits := by
  obtain ⟨mc, hn, _⟩ := hl
  exact ⟨mc, hn, PySem.W.ns_none_of X hn nd⟩
theorem call_reprBig {X : Cx} (nd : PySem.W.nsIn X.K cStatics "sys.int_max_str_digits" = some none) (hu : X.A.units + 100 < cLine) (hc : X.calm = true := by rfl) : CallR X (.builtin "repr") rReprBig := by
  intro pins s σ H xs us Q I r h
  obtain ⟨i, rfl, hz, q⟩ := h
  obtain ⟨u, rfl, t, rfl⟩ := vals1 r
  exact call_repr_slot (by omega) (typeIs_int s i t) PySem.F.slot_int_repr.toG (PyProof.Rows.call_int_repr_or (A := X.A.in1) (I.ok.hd hc) (nodigits_of I.kIn I.nolimit nd) (fun _ => ⟨_, _, rfl, .str _, H, I.tok _, ⟨_, rfl⟩, q⟩) fun hge => absurd hz (Nat.not_lt.mpr hge))
theorem w_reprBig {i : Int} {H : Hp} {Q : VK} (h : i.natAbs < 10 ^ 4300) (q : Q (.str (toString i)) H) : rReprBig [.int i] H Q := ⟨i, rfl, h, q⟩
/-! ### dicts with int keys -/
section
variable {K : PySem.W.Frag} {σ : L2.St} {H : Hp} {td ty : TE} {Q : VK} {a : Addr} {kvs kvs' : List (Key × V)} {k : Int} {v x : V} {R : Hp → Prop}
theorem w_dnewK (q : ∀ p, H p = none → Q (.ref p) (upd H p (.dK []))) : tDNewK σ H Q := q
theorem w_dgetI (h : H a = some (.dK kvs)) (e : valV kvs (.inl k) = some v) (q : Q v H) : DGE (.ref a) Q (.int k) H := ⟨a, v, rfl, by rw [← e]; exact DGet.k (k := .inl k) h, q⟩
theorem w_dputI (h : H a = some (.dK kvs)) (hl : kvs.length < 16777216) (q : R (upd H a (.dK (putK kvs (.inl k) v)))) : DPE (.ref a) v R (.int k) H := ⟨a, _, rfl, DPut.k (k := .inl k) h (szlt hl), q⟩
def DNE (Q : VK) (y : V) : V → Hp → Prop := fun x H2 => ∃ a o, x = .ref a ∧ DGet H2 a y o ∧ Q (.bl (!o.isSome)) H2
theorem w_dnotIn (h : ty σ H fun y H1 => td σ H1 (DNE Q y)) : tDNotIn ty td σ H Q := h
theorem w_dnotInE (h : H a = some (.dK kvs)) (q : Q (.bl (!(valV kvs (.inl k)).isSome)) H) : DNE Q (.int k) (.ref a) H := ⟨a, _, rfl, DGet.k (k := .inl k) h, q⟩
end
end Pg

namespace Pg
open PySem PySem.Spec PyProof.Rows L2
/-! ### an exception that was caught, as a thing of the heap -/
def exh (a : Addr) (cls : Value) (d : Option Addr) : HO := .ext fun h => ∃ oe vs, h.get? a = some oe ∧ Zc cls d oe ∧ oe.data = .fields vs
theorem exh_ok {P : Program} {w : World} {H : Hp} {h : Heap} {a : Addr} {cls : Value} {d : Option Addr} {oe : Obj} {vs : Array Value} (e : h.get? a = some oe) (z : Zc cls d oe) (f : oe.data = .fields vs) : ObjOk P w H h a (exh a cls d) :=
  ⟨⟨oe, vs, e, z, f⟩, ⟨oe, e⟩, fun h1 h2 ⟨o, v, e1, z1, f1⟩ k => ⟨o, v, k _ e1, z1, f1⟩⟩
theorem exh_at {P : Program} {w : World} {H : Hp} {h : Heap} {a : Addr} {cls : Value} {d : Option Addr} (hok : HOk P w H h) (e : H a = some (exh a cls d)) : ∃ oe vs, h.get? a = some oe ∧ Zc cls d oe ∧ oe.data = .fields vs := by
  have x : ObjOk P w H h a (.ext fun h => ∃ oe vs, h.get? a = some oe ∧ Zc cls d oe ∧ oe.data = .fields vs) := hok a _ e
  exact x.1
section
variable {X : Cx} {pins : List (Addr × Obj)} {σ : L2.St} {H : Hp} {s : Shared} {a : Addr} {oe : Obj} {vs : Array Value} {cls : Value} {d : Option Addr}
/-- the exception is tracked from here on -/
theorem Inv.hold (I : Inv X pins σ H s) (ha : s.heap.get? a = some oe) (hz : Zc cls d oe) (hd : oe.data = .fields vs) (na : H a = none) (n0 : X.s_0.heap.get? a = none) (nL : a ≠ X.env.locals) (np : ∀ p ∈ X.pn ++ pins, p.1 ≠ a) :
    Inv X pins σ (upd H a (exh a cls d)) s := by
  have ne : ∀ {b : Addr} {o : HO}, H b = some o → b ≠ a := fun {b o} e z => by
    rw [z, na] at e
    cases e
  have n0' : ∀ b o, X.s_0.heap.get? b = some o → b ≠ a := fun b o e z => by
    rw [z, n0] at e
    cases e
  refine ⟨I.ok, I.os, I.bare, ⟨I.base.keep, I.base.slot, fun b o e n hx => ?_, I.base.there, fun b xs e => ?_, fun b o u e => ?_, fun b ps e => ?_⟩, I.loc, I.cell, ?_, fun x c e => ?_, fun p hp => ?_, fun b o e => ?_, I.len⟩
  · rw [upd_ne (n0' b o e)]
    exact I.base.free b o e n hx
  · have z := I.base.tups b xs e
    rw [upd_ne (ne z)]
    exact z
  · have z := I.base.frzs b o u e
    rw [upd_ne (ne z)]
    exact z
  · obtain ⟨more, z⟩ := I.base.tbls b ps e
    exact ⟨more, by rw [upd_ne (ne z)]; exact z⟩
  · rw [upd_ne nL.symm]
    exact I.free
  · have hc : c ≠ a := fun z => by
      obtain ⟨v, o, e1, e2⟩ := I.cell x c e
      rw [z, ha] at e1
      cases e1
      rw [hd] at e2
      cases e2
    rw [upd_ne hc]
    exact I.freeC x c e
  · obtain ⟨z1, z2, z3⟩ := I.pin p hp
    exact ⟨z1, by rw [upd_ne (np p hp)]; exact z2, z3⟩
  · by_cases hb : b = a
    · subst hb
      rw [upd_same] at e
      cases e
      exact exh_ok ha hz hd
    · rw [upd_ne hb] at e
      exact (I.hok b o e).stay (fun _ _ _ q => q) (fun c hc => by rw [upd_ne (ne hc)]; exact hc) (fun c xs hc => by rw [upd_ne (ne hc)]; exact hc)
theorem Inv.toSuite (I : Inv X pins σ H s) (a : Addr) : Inv (X.suite a (X.pn ++ pins)) [] σ H s :=
  ⟨I.ok.suite _ _, I.os, I.bare, I.base, I.loc, I.cell, I.free, I.freeC, fun p hp => I.pin p (by rw [List.append_nil] at hp; exact hp), I.hok, I.len⟩
theorem Inv.ofSuite {pn' : List (Addr × Obj)} (I : Inv (X.suite a (X.pn ++ pins)) pn' σ H s) (ok : X.Ok) : Inv X pins σ H s :=
  ⟨ok, I.os, I.bare, I.base, I.loc, I.cell, I.free, I.freeC, fun p hp => I.pin p (List.mem_append_left _ hp), I.hok, I.len⟩
end
/-- what 'except x as n' wishes of an exception of the body: slot i is n's; the suite finds the exception in the heap -/
def wCau (K : PySem.W.Frag) (c : Value) (i : Nat) (ts : TS) (Wout : WX) (D : Ends) : WX := fun cls d σ H =>
  ∃ b, PySem.W.exmOne K cls c = some b ∧ (b = true → ∀ a, H a = none → ts { nx := fun σ' H' => D.nx (σ'.set i none) H', rt := D.rt, bk := fun σ' H' => D.bk (σ'.set i none) H', ct := fun σ' H' => D.ct (σ'.set i none) H' } (σ.set i (some (.ref a))) (upd H a (exh a cls d))) ∧
    (b = false → Wout cls d σ H)
/-- its reading -/
def tTryH (K : PySem.W.Frag) (c : Value) (i : Nat) (tb : WX → TS) (ts : TS) (Wout : WX) : TS := fun D σ H => tb (wCau K c i ts Wout D) D σ H
section
variable {X : Cx} {x n : Str} {c : Value} {i : Nat} {body suite : List Stmt} {b₀ : Stmt} {np pos pos' : Pos} {tb : WX → TS} {ts : TS} {Wout : WX}
theorem ps_tryH (hs : X.stack = X.env :: X.outer) (hf : X.env.frame = some X.env.locals) (hex : X.ex = []) (hN : X.N.Nodup) (hi : X.N[i]? = some n) (hln : X.env.kindOf n = some .local) (hc : Names X x c) (tk : Takes X Wout)
    (hb : ∀ (W : WX) (pn : List (Addr × Obj)) (xe : Value → Shared → Prop), Takes (X.tr pn xe) W → PassesOwn (model X.prog X.w) X.A X.env xe → PSs (X.tr pn xe) body (tb W))
    (hsu : ∀ (a : Addr) (pn : List (Addr × Obj)), PSs (X.suite a pn) (b₀ :: suite) ts) :
    PS X (.Try body [.ExceptHandler (some (.Name x np)) (some n) (b₀ :: suite) pos'] [] [] pos) (tTryH X.K c i tb ts Wout) := by
  refine ⟨fun pins s σ H D I h => ?_⟩
  have ok := I.ok
  have hfr : X.A.frames = some (X.env :: X.outer) := by rw [ok.frames, hs]
  refine wpAny_Try_except (wpAny_mono ((hb (wCau X.K c i ts Wout D) (X.pn ++ pins) _ (fun u s' xx => ?_) PassesOwn.looking).run [] s σ H D (I.toTry _) h) (fun f s1 hsp => ?_) (fun e s1 he => he))
  · obtain ⟨a, B, sI, pins', σ', H', cls, d, rfl, J', nb, up, sky, na, os, ag, b, hb1, hyes, hno⟩ := xx
    have J : Inv X pins σ' H' sI := J'.ofTry ok
    have sky' : Sky B (X.env :: X.outer) a (Zc cls d) X.env.locals s'.heap := by rw [← hs]; exact sky
    show wpAny (model X.prog X.w) X.A (noteFrame (.ref a) X.env) _ _ _
    refine Sky.land Zc.steady hfr hf sky' fun h3 fl3 up3 => ?_
    have J3 : Inv X pins σ' H' { s' with heap := h3 } := J.landed nb fl3.1 (up.trans up3) os ag
    obtain ⟨oe3, vs3, he3, hz3, hd3⟩ := fl3.there
    have nfr : a ∉ frs (X.env :: X.outer) := fun hm => by
      obtain ⟨_, o', e', hnf⟩ := fl3.2.2.1.mem hm
      rw [he3] at e'
      cases e'
      exact hnf _ hd3
    have nL : a ≠ X.env.locals := fun z => nfr (List.mem_filterMap.mpr ⟨X.env, List.mem_cons_self, by rw [hf, z]⟩)
    -- where the exception stands nothing stood
    have nI : sI.heap.get? a = none := by
      cases q : sI.heap.get? a with
      | none => rfl
      | some o =>
        have z := nb a o q (by rw [hs]; exact nfr)
        have z2 := fl3.2.1
        rw [z] at z2
        cases z2
    have n0 : X.s_0.heap.get? a = none := by
      cases q : X.s_0.heap.get? a with
      | none => rfl
      | some o =>
        obtain ⟨o', z⟩ := J.base.there a o q (by rw [hex]; simp)
        rw [nI] at z
        cases z
    have npn : ∀ p ∈ X.pn ++ pins, p.1 ≠ a := fun p hp z => by
      have z1 := (J.pin p hp).1
      rw [z, nI] at z1
      cases z1
    refine wpAny_handleBy_cons (codeAny_handlers_test ?_) (by intro q; cases q)
    have S3 := Inv.toSuite J3 a
    have LT : PySem.W.Looks (model X.prog X.w) h3 (typeOf (.ref a)) cls := fun A Q E s k q => wpAny_typeOf_ref (k _ _ he3) (by rw [hz3.1]; exact q)
    have LM := PySem.W.exm_one (M := model X.prog X.w) (J3.kIn) LT hb1
    have test : ∀ {Q : Value → Shared → Prop} {E : Value → Shared → Prop}, Q c { s' with heap := h3 } → wpAny (model X.prog X.w) (X.A.mark (some (.ref a))) (eval (.Name x np) X.env) Q E { s' with heap := h3 } := fun {Q E} q => by
      obtain ⟨hg, hdbg, hm | ⟨hm, hv, hnn⟩⟩ := hc
      · exact ld_glob (X := X.suite a (X.pn ++ pins)) S3 hg hm q hdbg
      · exact ld_blt (X := X.suite a (X.pn ++ pins)) S3 hg hm hv q hnn hdbg
    refine test (LM.here ?_)
    cases b with
    | true =>
      refine codeAny_handlers_suite_as ?_
      refine HandSPX.lands_againZ fl3 fun h4 fl4 up4 => ?_
      have J4 : Inv X pins σ' H' { s' with heap := h4 } := J.landed nb fl4.1 ((up.trans up3).trans up4) os ag
      obtain ⟨oe4, vs4, he4, hz4, hd4⟩ := fl4.there
      have S4 := Inv.toSuite (Inv.hold J4 he4 hz4 hd4 na n0 nL npn) a
      refine store_ok (X := X.suite a (X.pn ++ pins)) (v := .ref a) S4 hN hi (.inl hln) rfl (fun s5 S5 => ?_) (.inr hln)
      refine wpAny_mono ((hsu a (X.pn ++ pins)).run [] s5 _ _ _ S5 (hyes rfl a na)) (fun f s6 hsp => ?_) (fun _ _ z => False.elim z)
      have end_ : ∀ {σ6 : L2.St} {H6 : Hp} {Q : Shared → Prop}, Inv (X.suite a (X.pn ++ pins)) [] σ6 H6 s6 → (∀ s7, Inv X pins (σ6.set i none) H6 s7 → Q s7) →
          wpAny (model X.prog X.w) X.A (do bindName X.env n .none; unbindBehindTheSuite X.env n pos') (fun _ s7 => Q s7) X.xe s6 := fun {σ6 H6 Q} S6 hq => gone_ok (Inv.ofSuite S6 ok) hN hi hln hq
      cases f with
      | next =>
        obtain ⟨σ6, H6, S6, q6⟩ := hsp
        exact end_ S6 fun s7 J7 => ⟨_, _, J7, q6⟩
      | brk =>
        obtain ⟨σ6, H6, S6, q6⟩ := hsp
        exact end_ S6 fun s7 J7 => ⟨_, _, J7, q6⟩
      | cont =>
        obtain ⟨σ6, H6, S6, q6⟩ := hsp
        exact end_ S6 fun s7 J7 => ⟨_, _, J7, q6⟩
      | ret u =>
        obtain ⟨v6, σ6, H6, S6, r6, q6⟩ := hsp
        exact end_ S6 fun s7 J7 => ⟨_, _, _, J7, r6, q6⟩
    | false =>
      show wpAny _ X.A (handleBy (.ref a) X.env []) _ _ _
      refine wpAny_handleBy_nil ?_
      obtain ⟨k1, k2, k3, oe, vs, T, oT, ts', he, hz, hd, h1, hr⟩ := id fl3
      unfold PySem.passOn
      refine wpAny_bind (wpAny_field he hd h1 ?_)
      rw [if_neg (show ¬ ((Value.ref T == Value.none) = true) from by simp)]
      have fin : wpAny (model X.prog X.w) X.A (setFlight (.ref a) X.env.frame) (fun _ s4 => wpAny (model X.prog X.w) X.A (throw (.ref a) : Sem Flow) (SP X pins D) X.xe s4) X.xe { s' with heap := h3 } := by
        rw [hf]
        refine HandSPX.setFlight_upZ fl3 fun h4 hh4 up4 => wpAny_throw (tk _ _ ?_)
        exact ⟨a, B, sI, pins, σ', H', cls, d, rfl, J, nb, (up.trans up3).trans up4, .inr (.inr (by rw [hs]; exact hh4)), na, os, ag, hno rfl⟩
      first
        | exact wpAny_bind (wpAny_pure (wpAny_bind fin))
        | exact wpAny_bind fin
  · cases f with
    | next =>
      obtain ⟨σ', H', J', q⟩ := hsp
      exact wpAny_execs_nil ⟨σ', H', J'.ofTry ok, q⟩
    | brk =>
      obtain ⟨σ', H', J', q⟩ := hsp
      exact ⟨σ', H', J'.ofTry ok, q⟩
    | cont =>
      obtain ⟨σ', H', J', q⟩ := hsp
      exact ⟨σ', H', J'.ofTry ok, q⟩
    | ret u =>
      obtain ⟨v, σ', H', J', r, q⟩ := hsp
      exact ⟨v, σ', H', J'.ofTry ok, r, q⟩
end
/-! ### defs that may raise -/
structure DefAtX (P : Program) (w : World) (K : PySem.W.Frag) (mg : Str → Option Value) (base : Heap) (x : Str) (st : Stmt) (k : Nat) (ps : List Str) (sp : Sp) : Prop where
  ex : ∃ f fd, mg x = some (.ref f) ∧ Fun K x x st f fd ∧ FnOk P w K mg base (L2.CX P w) k f fd ps sp ∧ Binds K fd ps []
structure MDefAtX (P : Program) (w : World) (K : PySem.W.Frag) (mg : Str → Option Value) (base : Heap) (C : Addr) (m qual : Str) (st : Stmt) (k : Nat) (ps : List Str) (sp : Sp) : Prop where
  ex : ∃ f fd, Meth K C m f ∧ Fun K m qual st f fd ∧ FnOk P w K mg base (L2.CX P w) k f fd ps sp ∧ Binds K fd ps []
section
variable {P : Program} {w : World} {K : PySem.W.Frag} {mg : Str → Option Value} {base : Heap} {x m qual : Str} {st : Stmt} {k : Nat} {ps N : List Str} {sp : Sp} {C : Addr}
theorem FunAt.okX (F : FunAt K mg x st) (S : FnScope N ps (defScope st)) (len : ∀ vs H Q E, sp vs H Q E → vs.length = ps.length)
    (hb : ∀ (kV doc pm : Value) (an : Option Addr) (cdv ct : Value) (us : List Value), us.length = ps.length → bindArgs (PySem.W.fnOf x x (defArgs st) (defBody st) (defScope st) .none kV doc pm an cdv ct) ⟨us, []⟩ = pure (ps.zip us))
    (hbody : ∀ (f : Addr) (cdv : Value) (A : Around) (outer : List Env) (s : Shared) (H : Hp) (vs : List V) (Q : VK) (E : XK), Room k (A.deeper (envOfC x (defScope st) s.heap.objs.size f cdv)) → sp vs H Q E →
      ∃ t, PSs (cxOf (L2.CX P w) P w K mg base N x (defScope st) f cdv A outer s H E) (defBody st) t ∧ t { nx := fun _ H' => Q .non H', rt := Q } (start N vs) H) : DefAtX P w K mg base x st (k + 1) ps sp := by
  obtain ⟨f, fd, hm, F⟩ := F.ex
  exact ⟨f, fd, hm, F, F.okX S len (fun cdv A outer s H vs Q E hr h => hbody f cdv A outer s H vs Q E hr h), F.binds hb⟩
theorem MethAt.okX (F : MethAt K C m qual st) (S : FnScope N ps (defScope st)) (len : ∀ vs H Q E, sp vs H Q E → vs.length = ps.length)
    (hb : ∀ (kV doc pm : Value) (an : Option Addr) (cdv ct : Value) (us : List Value), us.length = ps.length → bindArgs (PySem.W.fnOf m qual (defArgs st) (defBody st) (defScope st) .none kV doc pm an cdv ct) ⟨us, []⟩ = pure (ps.zip us))
    (hbody : ∀ (f : Addr) (cdv : Value) (A : Around) (outer : List Env) (s : Shared) (H : Hp) (vs : List V) (Q : VK) (E : XK), Room k (A.deeper (envOfC qual (defScope st) s.heap.objs.size f cdv)) → sp vs H Q E →
      ∃ t, PSs (cxOf (L2.CX P w) P w K mg base N qual (defScope st) f cdv A outer s H E) (defBody st) t ∧ t { nx := fun _ H' => Q .non H', rt := Q } (start N vs) H) : MDefAtX P w K mg base C m qual st (k + 1) ps sp := by
  obtain ⟨f, fd, hm, F⟩ := F.ex
  exact ⟨f, fd, hm, F, F.okX S len (fun cdv A outer s H vs Q E hr h => hbody f cdv A outer s H vs Q E hr h), F.binds hb⟩
end
/-! ### .. called -/
abbrev wAt (W : WX) (σ : L2.St) : XK := fun cls d H => W cls d σ H
def tCallX (sp : Sp) (W : WX) (t : TA) : TE := fun σ H Q => t σ H fun vs H1 => sp vs H1 Q (wAt W σ)
def tCallXK (n : Nat) (ix : List Nat) (sp : Sp) (W : WX) (tk : TA) : TE := fun σ H Q => tk σ H fun zs H2 => zs.length = n ∧ sp (pick ix zs) H2 Q (wAt W σ)
def tMethX (C : Addr) (m : Str) (sp : Sp) (W : WX) (ta : TE) (t : TA) : TE := fun σ H Q => ta σ H fun x H1 => ∃ a dx fs, x = .ref a ∧ H1 a = some (.ins C dx fs) ∧ fs.lookup m = none ∧ t σ H1 fun vs H2 => sp (x :: vs) H2 Q (wAt W σ)
def tMethXK (C : Addr) (m : Str) (n : Nat) (ix : List Nat) (sp : Sp) (W : WX) (ta : TE) (tk : TA) : TE := fun σ H Q => ta σ H fun x H1 => ∃ a dx fs, x = .ref a ∧ H1 a = some (.ins C dx fs) ∧ fs.lookup m = none ∧ tk σ H1 fun zs H2 => zs.length = n ∧ sp (x :: pick ix zs) H2 Q (wAt W σ)
def tMakeX (C : Addr) (sp : Sp) (W : WX) (t : TA) : TE := fun σ H Q => t σ H fun vs H1 => ∀ x dx, H1 x = none → H1 dx = none → dx ≠ x →
  sp (.ref x :: vs) (upd (upd H1 dx (.own x)) x (.ins C dx [])) (fun v H3 => v = .non ∧ Q (.ref x) H3) (wAt W σ)
def tMakeXK (C : Addr) (n : Nat) (ix : List Nat) (sp : Sp) (W : WX) (tk : TA) : TE := fun σ H Q => tk σ H fun zs H1 => zs.length = n ∧ ∀ x dx, H1 x = none → H1 dx = none → dx ≠ x →
  sp (.ref x :: pick ix zs) (upd (upd H1 dx (.own x)) x (.ins C dx [])) (fun v H3 => v = .non ∧ Q (.ref x) H3) (wAt W σ)
section
variable {X : Cx} {x m qual : Str} {st : Stmt} {k n : Nat} {ps ks : List Str} {sp : Sp} {C : Addr} {e o : Expr} {es : List Expr} {kws : List Keyword} {t tk : TA} {ta : TE} {p pos apos : Pos} {W : WX} {ix : List Nat} {CX : CXT} {f : Addr} {fd : FuncData}
/-- the callee runs; what it lets out is taken at these slots -/
theorem run_at {pins : List (Addr × Obj)} {σ : L2.St} {H : Hp} {s : Shared} {Q : VK} {E : XK} {us us' : List Value} {kw : List (Str × Value)} {vs : List V} (F : FnOk X.prog X.w X.K X.mg X.base CX k f fd ps sp) (hr : Room k X.A) (hx : PassesAt CX X σ E)
    (I : Inv X pins σ H s) (b : BindsTo s fd ⟨us, kw⟩ (ps.zip us')) (r : Vals vs us') (h : sp vs H Q E) : wpAny (model X.prog X.w) X.A (call (.ref f) us kw) (EP X pins σ Q) X.xe s := by
  refine wpAny_call (codeAny_mono (F.run X.A X.stack s H ⟨us, kw⟩ us' vs Q E hr I.env0 b r h) fun q s' hq => ?_)
  cases q with
  | error e => exact hx pins H s e s' I hq
  | ok fl =>
    cases fl with
    | ret u => exact I.after hq
    | next => exact False.elim hq
    | brk => exact False.elim hq
    | cont => exact False.elim hq
theorem run_makeAt {pins : List (Addr × Obj)} {σ : L2.St} {H : Hp} {s : Shared} {Q : VK} {E : XK} {us us' : List Value} {kw : List (Str × Value)} {vs : List V} (M : Mk X.K C f) (F : FnOk X.prog X.w X.K X.mg X.base CX k f fd ps sp) (hr : Room (k + 1) X.A) (hx : PassesAt CX X σ E)
    (I : Inv X pins σ H s) (b : ∀ (s' : Shared) (a : Addr), vs.length + 1 = ps.length → X.K.In s'.heap → BindsTo s' fd ⟨.ref a :: us, kw⟩ (ps.zip (.ref a :: us'))) (r : Vals vs us')
    (h : ∀ x dx, H x = none → H dx = none → dx ≠ x → sp (.ref x :: vs) (upd (upd H dx (.own x)) x (.ins C dx [])) (fun v H2 => v = .non ∧ Q (.ref x) H2) E) :
    wpAny (model X.prog X.w) X.A (call (.ref C) us kw) (EP X pins σ Q) X.xe s := by
  have hq := h (s.heap.objs.size + 1) s.heap.objs.size (I.hok.fresh (Nat.le_succ _)) (I.hok.fresh (Nat.le_refl _)) (Nat.ne_of_lt (Nat.lt_succ_self _))
  have I2 := Inv.made (C := C) I
  have r2 : Vals (V.ref (s.heap.objs.size + 1) :: vs) (Value.ref (s.heap.objs.size + 1) :: us') := .cons rfl r
  refine wpAny_call (make_map (f := f) I.kIn M.makes M.init (beq_iff_eq.mp M.fn) (codeAny_mono (F.run _ X.stack _ _ ⟨Value.ref (s.heap.objs.size + 1) :: us, kw⟩ _ _ _ E (hr.make C us kw) (I2.env0.make C us kw) (b _ _ (F.len _ _ _ _ hq) I2.kIn) r2 hq) fun q s' hq' => ?_))
  cases q with
  | error e => exact hx pins _ _ e s' I2 hq'
  | ok fl =>
    cases fl with
    | ret u =>
      obtain ⟨v, H', I3, rv, ev, q3⟩ := I2.after hq'
      subst ev
      exact ⟨rv, ⟨V.ref (s.heap.objs.size + 1), H', I3, rfl, q3⟩⟩
    | next => exact False.elim hq'
    | brk => exact False.elim hq'
    | cont => exact False.elim hq'
theorem binds0 {K : PySem.W.Frag} {s : Shared} {us : List Value} {vs : List V} (hb : Binds K fd ps []) (r : Vals vs us) (hl : vs.length = ps.length) (k : K.In s.heap) : BindsTo s fd ⟨us, []⟩ (ps.zip us) := by
  have b := hb s us k (by rw [List.append_nil, ← r.length]; exact hl)
  rw [List.append_nil] at b
  exact b
theorem pe_callX (D : DefAtX X.prog X.w X.K X.mg X.base x st k ps sp) (hr : Room k X.A) (tkn : Takes X W) (ha : PA X (e :: es) t) (hg : Gl X x := by rfl)
    (hdb : (x == ("__debug__" : Str)) = false := by decide) (he : starEach (e :: es) X.env = (false, eval e X.env) :: starEach es X.env := by rfl) (hpl : (backTo pos (starEach es X.env)).any (·.1) = false := by rfl) :
    PE X (.Call (.Name x p) (e :: es) [] pos) (tCallX sp W t) := by
  obtain ⟨f, fd, hm, F, G, b⟩ := D.ex
  refine ⟨fun pins s σ H Q I h => ?_⟩
  refine wpAny_Call_Name_kw (ld_glob I hg hm ?_ hdb)
  refine PySem.W.callWith_K (h₀ := X.base) I.ok.mod.kin F.kp (thn (ha.run pos pins s σ H _ I h) fun us s1 ⟨vs, H1, I1, r, q⟩ => ⟨I1.kIn, ?_⟩) he hpl
  exact run_at (us := us) G hr (L2.passAt tkn σ) I1 (binds0 b r (G.len _ _ _ _ q) I1.kIn) r q
theorem pe_callXK (D : DefAtX X.prog X.w X.K X.mg X.base x st k ps sp) (hr : Room k X.A) (tkn : Takes X W) (hkw : PK X kws tk) (B : KB0 x x st ps ks 0 ix) (hg : Gl X x := by rfl)
    (hall : (backToKw pos (keywordEach kws X.env)).all (·.1.isSome) = true := by rfl) (hks : (backToKw pos (keywordEach kws X.env)).filterMap (·.1) = ks := by rfl) (hdb : (x == ("__debug__" : Str)) = false := by decide)
    (hpl : ((backTo pos (starEach [] X.env)).any (·.1) || (backToKw pos (keywordEach kws X.env)).any (·.1.isNone)) = false := by rfl) :
    PE X (.Call (.Name x p) [] kws pos) (tCallXK ks.length ix sp W tk) := by
  obtain ⟨f, fd, hm, F, G, b⟩ := D.ex
  refine ⟨fun pins s σ H Q I h => ?_⟩
  refine wpAny_Call_Name_kw (ld_glob I hg hm ?_ hdb)
  refine PySem.W.callWith_KW0 (h₀ := X.base) I.ok.mod.kin F.kp hall ?_ hpl
  refine thn (hkw.run pos pins s σ H _ I h) fun ws s2 ⟨zs, H2, I2, rz, l2, q2⟩ => ⟨I2.kIn, ?_⟩
  rw [hks]
  exact run_at (us := []) G hr (L2.passAt tkn σ) I2 ((B.kbn F).to s2 [] ws I2.kIn rfl (rz.length.symm.trans l2)) (pick_vals rz ix) q2
theorem pe_methX {pl : Sem Bool} (he : PE X o ta) (T : Cls X.K C) (D : MDefAtX X.prog X.w X.K X.mg X.base C m qual st k ps sp) (hr : Room k X.A) (tkn : Takes X W) (ha : PA X (e :: es) t)
    (hst : starEach (e :: es) X.env = (false, eval e X.env) :: starEach es X.env := by rfl) (hpl : (backTo pos (starEach es X.env)).any (·.1) = false := by rfl)
    (ht : eval (.Call (.Attribute o m apos) (e :: es) [] pos) X.env = (do
      let ov ← eval o X.env
      standAt apos.atName
      let (f, first) ← holding [ov] (getMethod ov m pl)
      callWith pos f first (backTo pos (starEach (e :: es) X.env)) (backToKw pos (keywordEach [] X.env))) := by rfl) :
    PE X (.Call (.Attribute o m apos) (e :: es) [] pos) (tMethX C m sp W ta t) := by
  obtain ⟨f, fd, hm, F, G, b⟩ := D.ex
  refine ⟨fun pins s σ H Q I h => ?_⟩
  refine PySem.W.methodCall_KW (pl := pl) (thn (he.run pins s σ H _ I h) fun u s1 ⟨x, H1, I1, rx, a, dx, fs, ex, ea, l, q⟩ => ?_) ht
  subst ex
  obtain rfl : u = Value.ref a := rx
  refine getmeth_ok I1 ea T hm l ?_
  refine PySem.W.callWith_K (first := [.ref a]) (h₀ := X.base) I.ok.mod.kin hm.kp (thn (ha.run pos pins s1 σ H1 _ I1 q) fun us s2 ⟨vs, H2, I2, r, q2⟩ => ⟨I2.kIn, ?_⟩) hst hpl
  have r2 : Vals (V.ref a :: vs) (Value.ref a :: us) := .cons rfl r
  exact run_at (us := .ref a :: us) G hr (L2.passAt tkn σ) I2 (binds0 b r2 (G.len _ _ _ _ q2) I2.kIn) r2 q2
theorem pe_methX0 {pl : Sem Bool} (he : PE X o ta) (T : Cls X.K C) (D : MDefAtX X.prog X.w X.K X.mg X.base C m qual st k ps sp) (hr : Room k X.A) (tkn : Takes X W)
    (ht : eval (.Call (.Attribute o m apos) [] [] pos) X.env = (do
      let ov ← eval o X.env
      standAt apos.atName
      let (f, first) ← holding [ov] (getMethod ov m pl)
      callWith pos f first (backTo pos (starEach [] X.env)) (backToKw pos (keywordEach [] X.env))) := by rfl) :
    PE X (.Call (.Attribute o m apos) [] [] pos) (tMethX C m sp W ta tNil) := by
  obtain ⟨f, fd, hm, F, G, b⟩ := D.ex
  refine ⟨fun pins s σ H Q I h => ?_⟩
  refine PySem.W.methodCall_KW (pl := pl) (thn (he.run pins s σ H _ I h) fun u s1 ⟨x, H1, I1, rx, a, dx, fs, ex, ea, l, q⟩ => ?_) ht
  subst ex
  obtain rfl : u = Value.ref a := rx
  refine getmeth_ok I1 ea T hm l ?_
  refine PySem.W.callWith_K0 (first := [.ref a]) I1.kIn hm.kp ?_
  have r2 : Vals [V.ref a] [Value.ref a] := .cons rfl .nil
  exact run_at (us := [.ref a]) G hr (L2.passAt tkn σ) I1 (binds0 b r2 (G.len _ _ _ _ q) I1.kIn) r2 q
theorem pe_methXK {pl : Sem Bool} (he : PE X o ta) (T : Cls X.K C) (D : MDefAtX X.prog X.w X.K X.mg X.base C m qual st k ps sp) (hr : Room k X.A) (tkn : Takes X W) (hkw : PK X kws tk) (B : KB0 m qual st ps ks 1 ix)
    (hall : (backToKw pos (keywordEach kws X.env)).all (·.1.isSome) = true := by rfl) (hks : (backToKw pos (keywordEach kws X.env)).filterMap (·.1) = ks := by rfl)
    (hpl : ((backTo pos (starEach [] X.env)).any (·.1) || (backToKw pos (keywordEach kws X.env)).any (·.1.isNone)) = false := by rfl)
    (ht : eval (.Call (.Attribute o m apos) [] kws pos) X.env = (do
      let ov ← eval o X.env
      standAt apos.atName
      let (f, first) ← holding [ov] (getMethod ov m pl)
      callWith pos f first (backTo pos (starEach [] X.env)) (backToKw pos (keywordEach kws X.env))) := by rfl) :
    PE X (.Call (.Attribute o m apos) [] kws pos) (tMethXK C m ks.length ix sp W ta tk) := by
  obtain ⟨f, fd, hm, F, G, b⟩ := D.ex
  refine ⟨fun pins s σ H Q I h => ?_⟩
  refine PySem.W.methodCall_KW (pl := pl) (thn (he.run pins s σ H _ I h) fun u s1 ⟨x, H1, I1, rx, a, dx, fs, ex, ea, l, q⟩ => ?_) ht
  subst ex
  obtain rfl : u = Value.ref a := rx
  refine getmeth_ok I1 ea T hm l ?_
  refine PySem.W.callWith_KW0 (first := [.ref a]) (h₀ := X.base) I.ok.mod.kin hm.kp hall ?_ hpl
  refine thn (hkw.run pos pins s1 σ H1 _ I1 q) fun ws s2 ⟨zs, H2, I2, rz, l2, q2⟩ => ⟨I2.kIn, ?_⟩
  rw [hks]
  have r2 : Vals (V.ref a :: pick ix zs) (Value.ref a :: pick ix ws) := .cons rfl (pick_vals rz ix)
  exact run_at (us := [.ref a]) G hr (L2.passAt tkn σ) I2 ((B.kbn F).to s2 [.ref a] ws I2.kIn rfl (rz.length.symm.trans l2)) r2 q2
theorem pe_makeX (T : ClsAt X.K X.mg x C) (D : MDefAtX X.prog X.w X.K X.mg X.base C "__init__" qual st k ps sp) (hr : Room (k + 1) X.A) (tkn : Takes X W) (ha : PA X (e :: es) t) (hg : Gl X x := by rfl)
    (hdb : (x == ("__debug__" : Str)) = false := by decide) (he : starEach (e :: es) X.env = (false, eval e X.env) :: starEach es X.env := by rfl) (hpl : (backTo pos (starEach es X.env)).any (·.1) = false := by rfl) :
    PE X (.Call (.Name x p) (e :: es) [] pos) (tMakeX C sp W t) := by
  obtain ⟨f, fd, hm, F, G, b⟩ := D.ex
  refine ⟨fun pins s σ H Q I h => ?_⟩
  refine wpAny_Call_Name_kw (ld_glob I hg T.g ?_ hdb)
  refine PySem.W.callWith_K (h₀ := X.base) I.ok.mod.kin T.kp (thn (ha.run pos pins s σ H _ I h) fun us s1 ⟨vs, H1, I1, r, q⟩ => ⟨I1.kIn, ?_⟩) he hpl
  refine run_makeAt (us := us) ⟨T.mks, hm.at_, hm.fn, T.kp⟩ G hr (L2.passAt tkn σ) I1 (fun s' a hl hk => ?_) r q
  have r2 : Vals (V.ref a :: vs) (Value.ref a :: us) := .cons rfl r
  exact binds0 b r2 hl hk
theorem pe_makeXK (T : ClsAt X.K X.mg x C) (D : MDefAtX X.prog X.w X.K X.mg X.base C "__init__" qual st k ps sp) (hr : Room (k + 1) X.A) (tkn : Takes X W) (hkw : PK X kws tk) (B : KB0 "__init__" qual st ps ks 1 ix) (hg : Gl X x := by rfl)
    (hall : (backToKw pos (keywordEach kws X.env)).all (·.1.isSome) = true := by rfl) (hks : (backToKw pos (keywordEach kws X.env)).filterMap (·.1) = ks := by rfl) (hdb : (x == ("__debug__" : Str)) = false := by decide)
    (hpl : ((backTo pos (starEach [] X.env)).any (·.1) || (backToKw pos (keywordEach kws X.env)).any (·.1.isNone)) = false := by rfl) :
    PE X (.Call (.Name x p) [] kws pos) (tMakeXK C ks.length ix sp W tk) := by
  obtain ⟨f, fd, hm, F, G, b⟩ := D.ex
  refine ⟨fun pins s σ H Q I h => ?_⟩
  refine wpAny_Call_Name_kw (ld_glob I hg T.g ?_ hdb)
  refine PySem.W.callWith_KW0 (h₀ := X.base) I.ok.mod.kin T.kp hall ?_ hpl
  refine thn (hkw.run pos pins s σ H _ I h) fun ws s2 ⟨zs, H2, I2, rz, l2, q2⟩ => ⟨I2.kIn, ?_⟩
  rw [hks]
  exact run_makeAt (us := []) ⟨T.mks, hm.at_, hm.fn, T.kp⟩ G hr (L2.passAt tkn σ) I2 (fun s' a _ hk => (B.kbn F).to s' [.ref a] ws hk rfl (rz.length.symm.trans l2)) (pick_vals rz ix) q2
end
/-! ### the classes of exceptions -/
/-- what the written part says of an own class C below ValueError whose instances have the field f -/
structure ExAt (K : PySem.W.Frag) (mg : Str → Option Value) (x : Str) (C : Addr) : Prop where
  g : mg x = some (.ref C)
  kp : PySem.W.keepIn K (.ref C) = true
  o : OexC K C
  ga : PySem.W.findIn K (.ref C) "__getattribute__" = some (some (.builtin "BaseException.__getattribute__"))
  gg : PySem.W.findIn K (.ref C) "__getattr__" = some none
  hd : PySem.W.hasDictIn K C = true
  cl : PySem.W.findIn K (.ref C) "__class__" = some (some (.builtin "object.__class__"))
  cn : PySem.W.specialIn K (.builtin "object.__class__") "__get__" = some (some (.builtin "getset_descriptor.__get__"))
  ct : PySem.W.takesIn K (.builtin "object.__class__") = some true
  cm : PySem.W.mroIn K C (.type "object") = some true
  no : PySem.W.findIn K (.ref C) "value" = some none
/-- the base class, whose __init__ is ValueError's -/
structure ExBase (K : PySem.W.Frag) (mg : Str → Option Value) (x : Str) (C : Addr) : Prop where
  g : mg x = some (.ref C)
  rd : PySem.W.readsIn K C (.type "type") = true
  ga : PySem.W.specialIn K (.ref C) "__getattribute__" = some (some (.builtin "type.__getattribute__"))
  i : PySem.W.findCls K (.ref C) (.type "type") "__init__" = some (.val (.builtin "ValueError.__init__"))
section
variable {X : Cx} {o e : Expr} {es : List Expr} {to te : TE} {ta : TA} {f x : Str} {p p' p1 p2 pos : Pos} {B C : Addr}
/-- B.__init__(self, ..), B's __init__ being ValueError's -/
theorem pe_beinit {pl : Sem Bool} (T : ExBase X.K X.mg x B) (ha : PA X (e :: es) ta) (hg : Gl X x := by rfl) (hdb : (x == ("__debug__" : Str)) = false := by decide)
    (hc : eval (.Call (.Attribute (.Name x p1) "__init__" p2) (e :: es) [] pos) X.env = (do
      let ov ← eval (.Name x p1) X.env
      standAt p2.atName
      let (f, first) ← holding [ov] (getMethod ov "__init__" pl)
      callWith pos f first (backTo pos (starEach (e :: es) X.env)) (backToKw pos (keywordEach [] X.env))) := by rfl)
    (he : starEach (e :: es) X.env = (false, eval e X.env) :: starEach es X.env := by rfl) (hpl : (backTo pos (starEach es X.env)).any (·.1) = false := by rfl) :
    PE X (.Call (.Attribute (.Name x p1) "__init__" p2) (e :: es) [] pos) (tVeI X.K ta) := by
  refine ⟨fun pins s σ H Q I h => ?_⟩
  refine PySem.W.methodCall_KW (ld_glob I hg T.g ?_ hdb) hc
  refine PySem.W.method_cls I.kIn T.ga (PySem.W.cls_value I.kIn T.rd T.i rfl ?_)
  refine PyProof.Rows.callWith_method1 (thn (ha.run pos pins _ σ H _ (I.tok _) h) fun us s1 ⟨vs, H1, I1, r1, a, C, ws, ev, hl, T, ea, q⟩ => ?_) he hpl
  subst ev
  cases r1 with
  | @cons _ u0 _ ur ra rw' =>
    obtain rfl : u0 = Value.ref a := ra
    have hlen : ur.length ≤ sizeLine := by
      rw [← Paired.length rw', sizeLine_eq]
      omega
    exact oinit_ok T I1 ea hlen fun s' J => ⟨.non, H1, J, rfl, q⟩
end
/-- what the __init__ of such a class does -/
def spEInit (K : PySem.W.Frag) (C : Addr) : Sp := fun vs H Q _ => ∃ (a : Addr) (y : V), vs = [.ref a, y] ∧ H a = some (exo a C none) ∧ ∀ dx, H dx = none → dx ≠ a → Q .non (upd (upd H dx (exd dx [("value", y)])) a (exo a C (some dx)))
/-- raise C(e) -/
def tRaiseX (K : PySem.W.Frag) (C : Addr) (W : WX) (te : TE) : TS := fun _ σ H => tMkO C (spEInit K C) [] (tCons te tNil) σ H (wAt W σ)
def RaiseX (K : PySem.W.Frag) (C : Addr) (W : WX) (σ : L2.St) : V → Hp → Prop := fun y H1 => [y].length ≤ 1000 ∧ ∀ a, H1 a = none → spEInit K C (.ref a :: ([y] ++ [])) (upd H1 a (exo a C none))
  (fun v H2 => v = .non ∧ ∃ (d : Addr) (fs : List (Str × V)), H2 a = some (exo a C (some d)) ∧ H2 d = some (exd d fs) ∧ H1 d = none ∧ wAt W σ (.ref C) (some d) (upd (del H2 a) d (.xd fs))) (fun _ _ _ => False)
section
variable {X : Cx} {e : Expr} {te : TE} {x qual : Str} {st : Stmt} {k : Nat} {C : Addr} {W : WX} {p pos pos2 : Pos} {K : PySem.W.Frag} {σ : L2.St} {H : Hp} {D : Ends} {y : V}
theorem w_raise (h : te σ H (RaiseX K C W σ)) : tRaiseX K C W te D σ H := h
theorem w_raiseE (q : ∀ d, H d = none → W (.ref C) (some d) σ (upd H d (.xd [("value", y)]))) : RaiseX K C W σ y H := by
  refine ⟨by simp, fun a na => ⟨a, y, rfl, upd_same, fun dx nd ne => ?_⟩⟩
  have nd' : H dx = none := by
    rw [upd_ne ne] at nd
    exact nd
  refine ⟨rfl, dx, [("value", y)], upd_same, ?_, nd', ?_⟩
  · rw [upd_ne ne]
    exact upd_same
  · have e : upd (del (upd (upd (upd H a (exo a C none)) dx (exd dx [("value", y)])) a (exo a C (some dx))) a) dx (.xd [("value", y)]) = upd H dx (.xd [("value", y)]) := by
      funext b
      by_cases hb : b = dx
      · rw [hb, upd_same, upd_same]
      · rw [upd_ne hb, upd_ne hb]
        by_cases ha : b = a
        · rw [ha, del_same, na]
        · rw [del_ne ha, upd_ne ha, upd_ne hb, upd_ne ha]
    show W _ _ σ _
    rw [e]
    exact q dx nd'
theorem ps_raiseX (T : ExAt X.K X.mg x C) (D : MDefAt X.prog X.w X.K X.mg X.base C "__init__" qual st k ["self", "value"] (spEInit X.K C)) (hr : Room (k + 1) X.A) (tk : Takes X W) (he : PE X e te) (hc : X.calm = true := by rfl) (hg : Gl X x := by rfl)
    (hdb : (x == ("__debug__" : Str)) = false := by decide) (hst : starEach [e] X.env = (false, eval e X.env) :: starEach [] X.env := by rfl) (hpl : (backTo pos (starEach [] X.env)).any (·.1) = false := by rfl) :
    PS X (.Raise (some (.Call (.Name x p) [e] [] pos)) none pos2) (tRaiseX X.K C W te) := by
  obtain ⟨f, fd, hm, F, G, b⟩ := D.ex
  have ti : PySem.W.typeIn X.K (.ref f) = some (.type "function") := beq_iff_eq.mp hm.fn
  exact ⟨fun pins s σ H D I h => (ps_raise hc tk (pmk_oex (p := p) (pos := pos) T.o hm.at_ ti G hr b .nil (fun _ _ _ _ _ _ _ z => z.elim) hg T.g (pa_cons he pa_nil hst) hdb hst hpl)).run pins s σ H D I h⟩
end
/-! ### the exception in the heap: its class, its field -/
/-- isinstance(e, c), e an exception that was caught -/
def rIsE (K : PySem.W.Frag) : List V → Hp → VK → Prop := fun xs H Q => ∃ (a D dd : Addr) (fs : List (Str × V)) (mg : Str → Option Value) (x : Str) (c : V) (u : Value) (b : Bool), xs = [.ref a, c] ∧ ClsV c u ∧ H a = some (exh a (.ref D) (some dd)) ∧ H dd = some (.xd fs) ∧ ExAt K mg x D ∧ PySem.W.kitOne K (.ref D) u = some b ∧ Q (.bl b) H
/-- isinstance(e, (c1, ..)) -/
def rIsET (K : PySem.W.Frag) : List V → Hp → VK → Prop := fun xs H Q => ∃ (a D dd tp : Addr) (fs : List (Str × V)) (mg : Str → Option Value) (x : Str) (cs : List V) (us : List Value) (b : Bool), xs = [.ref a, .ref tp] ∧ H tp = some (.tup cs) ∧ Paired ClsV cs us ∧ H a = some (exh a (.ref D) (some dd)) ∧ H dd = some (.xd fs) ∧ ExAt K mg x D ∧ PySem.W.kitAny K (.ref D) us = some b ∧ Q (.bl b) H
section
variable {X : Cx} {pins : List (Addr × Obj)} {σ : L2.St} {H : Hp} {s : Shared} {a D dd : Addr} {fs : List (Str × V)} {mg : Str → Option Value} {x : Str}
theorem exh_inst (I : Inv X pins σ H s) (ea : H a = some (exh a (.ref D) (some dd))) (ed : H dd = some (.xd fs)) : ∃ oe od, PySem.W.InstAt s.heap a oe D (some od) ∧ ∃ mA : Str → Option Value, (∀ f, RelO (fs.lookup f) (mA f)) ∧ ∀ f, PySem.W.lookIn f od = some (mA f) := by
  obtain ⟨oe, vs, h1, hz, hd⟩ := exh_at I.hok ea
  have hx : ObjOk X.prog X.w H s.heap dd (.xd fs) := I.hok dd _ ed
  obtain ⟨mA, hns, hr⟩ := hx
  obtain ⟨od, ho, hl⟩ := lookIn_ns hns
  exact ⟨oe, od, ⟨h1, hz.1, by unfold PySem.W.notCls; rw [hd] <;> rfl, by rw [hz.2]; exact ho⟩, mA, hr, hl⟩
theorem ExAt.some {K : PySem.W.Frag} (T : ExAt K mg x D) : (PySem.W.clsIn K D).isSome = true := by
  obtain ⟨cd, hc, _⟩ := PySem.W.any_some T.hd
  rw [hc]
  rfl
theorem call_isE : CallR X (.builtin "isinstance") (rIsE X.K) := by
  intro pins s σ H xs us Q I r h
  obtain ⟨a, D, dd, fs, mg, x, c, u, b, rfl, k, ea, ed, T, e, q⟩ := h
  obtain ⟨u1, u2, rfl, r1, r2⟩ := vals2 r
  have e2 := k.eq r2
  subst e2
  obtain rfl : u1 = Value.ref a := r1
  obtain ⟨oe, od, J, _⟩ := exh_inst I ea ed
  exact PySem.W.kia_one (PySem.W.kitx_exc T.some T.ga T.gg T.o.exC T.cl T.cn T.ct T.cm) I.kIn J e (fun z => nomatch z) fun tk => ⟨.bl b, H, I.tok tk, rfl, q⟩
theorem call_isET : CallR X (.builtin "isinstance") (rIsET X.K) := by
  intro pins s σ H xs us Q I r h
  obtain ⟨a, D, dd, tp, fs, mg, x, cs, ws, b, rfl, hT, k, ea, ed, T, e, q⟩ := h
  obtain ⟨u1, u2, rfl, r1, r2⟩ := vals2 r
  obtain rfl : u1 = Value.ref a := r1
  cases (show u2 = Value.ref tp from r2)
  obtain ⟨oe, od, J, _⟩ := exh_inst I ea ed
  obtain ⟨_, its, rv, o, h1, h2, n, h3⟩ := (show ObjOk X.prog X.w H s.heap tp (.tup cs) from I.hok tp _ hT)
  have e3 := ClsV.all k rv
  subst e3
  obtain ⟨oc, od', dt, sl⟩ := o
  simp only at h2 h3
  subst h2 h3
  exact PySem.W.kia_tup (PySem.W.kitx_exc T.some T.ga T.gg T.o.exC T.cl T.cn T.ct T.cm) I.kIn J h1 e (fun z => nomatch z) fun tk => ⟨.bl b, H, I.tok tk, rfl, q⟩
/-- e.value -/
def XfE (K : PySem.W.Frag) (Q : VK) : V → Hp → Prop := fun x H1 => ∃ (a D dd : Addr) (fs : List (Str × V)) (mg : Str → Option Value) (nm : Str) (v : V), x = .ref a ∧ H1 a = some (exh a (.ref D) (some dd)) ∧ H1 dd = some (.xd fs) ∧ ExAt K mg nm D ∧ fs.lookup ("value" : Str) = some v ∧ Q v H1
def tXfH (K : PySem.W.Frag) (te : TE) : TE := fun σ H Q => te σ H (XfE K Q)
theorem pe_xfH {e : Expr} {te : TE} {pos : Pos} (he : PE X e te) (hb : attributeBase e "value" X.env (eval e X.env) = eval e X.env := by rfl) : PE X (.Attribute e "value" pos) (tXfH X.K te) := by
  refine ⟨fun pins s σ H Q I h => ?_⟩
  refine attr_of hb (thn (he.run pins s σ H _ I h) fun u s1 hh => ?_)
  obtain ⟨x, H1, I1, rx, a, D, dd, fs, mg, nm, v, ex, ea, ed, T, l, q⟩ := hh
  subst ex
  obtain rfl : u = Value.ref a := rx
  obtain ⟨oe, od, J, mA, hr, hl⟩ := exh_inst I1 ea ed
  obtain ⟨u, hu, ru⟩ := RelO.some_of (v := v) (o := mA "value") (by rw [← l]; exact hr "value")
  exact HandSPX.exc_get I1.kIn J T.ga T.gg T.o.exC (PySem.W.findObj_own T.hd T.no rfl (by rw [hl, hu])) (handed_of ru) ⟨v, H1, I1.tok _, ru, q⟩
end
section
variable {K : PySem.W.Frag} {mg mg2 : Str → Option Value} {x y : Str} {C D : Addr} {b : Bool}
/-- isinstance of own classes, answered -/
theorem kit_ex (hC : PySem.W.hasDictIn K C = true) (ty : PySem.W.typeIn K (.ref C) = some (.type "type")) (self : PySem.W.subIn K (.ref D) (.ref D) = some true) (sub : PySem.W.subIn K (.ref D) (.ref C) = some b) : PySem.W.kitOne K (.ref D) (.ref C) = some b := by
  obtain ⟨cd, hc, _⟩ := PySem.W.any_some hC
  unfold PySem.W.kitOne
  by_cases e : D = C
  · subst e
    rw [self] at sub
    cases sub
    rw [if_pos (beq_self_eq_true _)]
  · have ne : (Value.ref D == Value.ref C) = false := Bool.eq_false_iff.mpr fun z => e (Value.ref.inj (beq_iff_eq.mp z))
    rw [ne, if_neg Bool.false_ne_true]
    show (if ((PySem.W.clsIn K C).isSome && PySem.W.typeIn K (.ref C) == some (.type "type")) = true then PySem.W.subIn K (.ref D) (.ref C) else none) = some b
    rw [hc, ty, sub, if_pos (by rfl)]
theorem kit_exT {T : String} (m : PySem.W.kitMeta T = true) (sub : PySem.W.subIn K (.ref D) (.type T) = some b) : PySem.W.kitOne K (.ref D) (.type T) = some b := by
  unfold PySem.W.kitOne
  have ne : (Value.ref D == Value.type T) = false := Bool.eq_false_iff.mpr fun z => by cases beq_iff_eq.mp z
  rw [ne, if_neg Bool.false_ne_true]
  show (if PySem.W.kitMeta T = true then PySem.W.subIn K (.ref D) (.type T) else none) = some b
  rw [if_pos m, sub]
end
section
variable {K : PySem.W.Frag} {c : Value} {i : Nat} {tb : WX → TS} {ts : TS} {Wout : WX} {D : Ends} {σ : L2.St} {H : Hp} {cls : Value} {d : Option Addr} {Q : VK}
theorem w_try (h : tb (wCau K c i ts Wout D) D σ H) : tTryH K c i tb ts Wout D σ H := h
theorem w_caught (hb : PySem.W.exmOne K cls c = some true) (h : ∀ a, H a = none → ts { nx := fun σ' H' => D.nx (σ'.set i none) H', rt := D.rt, bk := fun σ' H' => D.bk (σ'.set i none) H', ct := fun σ' H' => D.ct (σ'.set i none) H' } (σ.set i (some (.ref a))) (upd H a (exh a cls d))) :
    wCau K c i ts Wout D cls d σ H := ⟨true, hb, fun _ => h, fun z => nomatch z⟩
variable {a D' dd tp : Addr} {fs : List (Str × V)} {mg : Str → Option Value} {x : Str} {cv : V} {u : Value} {b : Bool} {cs : List V} {us : List Value} {v : V} {te : TE} {sp : Sp} {W : WX} {t tk : TA} {n : Nat} {ix : List Nat} {C dx : Addr} {m : Str} {ta : TE} {y : V}
theorem w_isE (ea : H a = some (exh a (.ref D') (some dd))) (ed : H dd = some (.xd fs)) (T : ExAt K mg x D') (k : ClsV cv u) (e : PySem.W.kitOne K (.ref D') u = some b) (q : Q (.bl b) H) : rIsE K [.ref a, cv] H Q := ⟨a, D', dd, fs, mg, x, cv, u, b, rfl, k, ea, ed, T, e, q⟩
theorem w_xfH (h : te σ H (XfE K Q)) : tXfH K te σ H Q := h
theorem w_xfE (ea : H a = some (exh a (.ref D') (some dd))) (ed : H dd = some (.xd [("value", v)])) (T : ExAt K mg x D') (q : Q v H) : XfE K Q (.ref a) H := ⟨a, D', dd, _, mg, x, v, rfl, ea, ed, T, by simp [List.lookup], q⟩
/-- calls -/
def CallXE (sp : Sp) (W : WX) (σ : L2.St) (Q : VK) : List V → Hp → Prop := fun vs H1 => sp vs H1 Q (wAt W σ)
theorem w_callX (h : t σ H (CallXE sp W σ Q)) : tCallX sp W t σ H Q := h
theorem w_callXE {vs : List V} (h : sp vs H Q (wAt W σ)) : CallXE sp W σ Q vs H := h
def KwXE (n : Nat) (ix : List Nat) (sp : Sp) (W : WX) (σ : L2.St) (Q : VK) : List V → Hp → Prop := fun zs H => zs.length = n ∧ sp (pick ix zs) H Q (wAt W σ)
theorem w_callXK (h : tk σ H (KwXE n ix sp W σ Q)) : tCallXK n ix sp W tk σ H Q := h
theorem w_kwXE {zs : List V} (e : zs.length = n) (q : sp (pick ix zs) H Q (wAt W σ)) : KwXE n ix sp W σ Q zs H := ⟨e, q⟩
def MethXE (C : Addr) (m : Str) (t : TA) (R : V → List V → Hp → Prop) (σ : L2.St) : V → Hp → Prop := fun x H1 => ∃ a dx fs, x = .ref a ∧ H1 a = some (.ins C dx fs) ∧ fs.lookup m = none ∧ t σ H1 (R x)
def MRunXE (sp : Sp) (W : WX) (σ : L2.St) (Q : VK) : V → List V → Hp → Prop := fun x vs H2 => sp (x :: vs) H2 Q (wAt W σ)
def MKwXE (n : Nat) (ix : List Nat) (sp : Sp) (W : WX) (σ : L2.St) (Q : VK) : V → List V → Hp → Prop := fun x zs H2 => zs.length = n ∧ sp (x :: pick ix zs) H2 Q (wAt W σ)
theorem w_methX (h : ta σ H (MethXE C m t (MRunXE sp W σ Q) σ)) : tMethX C m sp W ta t σ H Q := h
theorem w_methXK (h : ta σ H (MethXE C m tk (MKwXE n ix sp W σ Q) σ)) : tMethXK C m n ix sp W ta tk σ H Q := h
theorem w_methXE {R : V → List V → Hp → Prop} (h : H a = some (.ins C dx fs)) (e : fs.lookup m = none) (q : t σ H (R (.ref a))) : MethXE C m t R σ (.ref a) H := ⟨a, dx, fs, rfl, h, e, q⟩
theorem w_mrunXE {vs : List V} (h : sp (y :: vs) H Q (wAt W σ)) : MRunXE sp W σ Q y vs H := h
theorem w_mkwXE {zs : List V} (e : zs.length = n) (h : sp (y :: pick ix zs) H Q (wAt W σ)) : MKwXE n ix sp W σ Q y zs H := ⟨e, h⟩
def MakeXE (C : Addr) (sp : Sp) (W : WX) (σ : L2.St) (Q : VK) : List V → Hp → Prop := fun vs H1 => ∀ x dx, H1 x = none → H1 dx = none → dx ≠ x →
  sp (.ref x :: vs) (upd (upd H1 dx (.own x)) x (.ins C dx [])) (fun v H3 => v = .non ∧ Q (.ref x) H3) (wAt W σ)
theorem w_makeX (h : t σ H (MakeXE C sp W σ Q)) : tMakeX C sp W t σ H Q := h
theorem w_makeXE {vs : List V} (h : ∀ x dx, H x = none → H dx = none → dx ≠ x → sp (.ref x :: vs) (upd (upd H dx (.own x)) x (.ins C dx [])) (fun v H3 => v = .non ∧ Q (.ref x) H3) (wAt W σ)) : MakeXE C sp W σ Q vs H := h
def MakeXKE (C : Addr) (n : Nat) (ix : List Nat) (sp : Sp) (W : WX) (σ : L2.St) (Q : VK) : List V → Hp → Prop := fun zs H1 => zs.length = n ∧ ∀ x dx, H1 x = none → H1 dx = none → dx ≠ x →
  sp (.ref x :: pick ix zs) (upd (upd H1 dx (.own x)) x (.ins C dx [])) (fun v H3 => v = .non ∧ Q (.ref x) H3) (wAt W σ)
theorem w_makeXK (h : tk σ H (MakeXKE C n ix sp W σ Q)) : tMakeXK C n ix sp W tk σ H Q := h
theorem w_makeXKE {zs : List V} (e : zs.length = n) (h : ∀ x dx, H x = none → H dx = none → dx ≠ x → sp (.ref x :: pick ix zs) (upd (upd H dx (.own x)) x (.ins C dx [])) (fun v H3 => v = .non ∧ Q (.ref x) H3) (wAt W σ)) : MakeXKE C n ix sp W σ Q zs H := ⟨e, h⟩
/-- __init__ of such a class -/
def VeIE (K : PySem.W.Frag) (Q : VK) : List V → Hp → Prop := fun vs H1 => ∃ (a C : Addr) (ws : List V), vs = .ref a :: ws ∧ ws.length ≤ 1000 ∧ OexC K C ∧ H1 a = some (exo a C none) ∧ Q .non H1
theorem w_veI (h : t σ H (VeIE K Q)) : tVeI K t σ H Q := h
theorem w_veIE {ws : List V} (hl : ws.length ≤ 1000) (T : OexC K C) (e : H a = some (exo a C none)) (q : Q .non H) : VeIE K Q (.ref a :: ws) H := ⟨a, C, ws, rfl, hl, T, e, q⟩
def OstE (K : PySem.W.Frag) (f : Str) (R : L2.St → Hp → Prop) (σ : L2.St) (y : V) : V → Hp → Prop := fun x H2 => ∃ a C : Addr, x = .ref a ∧ OexC K C ∧ PySem.W.findIn K (.ref C) f = some none ∧
  ((H2 a = some (exo a C none) ∧ ∀ dx, H2 dx = none → dx ≠ a → R σ (upd (upd H2 dx (exd dx [(f, y)])) a (exo a C (some dx)))) ∨
    ∃ (dx : Addr) (fs : List (Str × V)), H2 a = some (exo a C (some dx)) ∧ H2 dx = some (exd dx fs) ∧ fs.length ≤ 900 ∧ R σ (upd H2 dx (exd dx ((f, y) :: fs))))
theorem w_ost {f : Str} {to : TE} (h : te σ H fun y H1 => to σ H1 (OstE K f D.nx σ y)) : tOst K f to te D σ H := h
theorem w_ostE {f : Str} {R : L2.St → Hp → Prop} (T : OexC K C) (no : PySem.W.findIn K (.ref C) f = some none) (e : H a = some (exo a C none)) (q : ∀ dx, H dx = none → dx ≠ a → R σ (upd (upd H dx (exd dx [(f, y)])) a (exo a C (some dx)))) : OstE K f R σ y (.ref a) H := ⟨a, C, rfl, T, no, .inl ⟨e, q⟩⟩
end
theorem ho_lst_ext {v1 : List V} {φ : Heap → Prop} : ((.lst v1) : HO) ≠ (.ext φ) := fun z => nomatch z
theorem ho_lst_exh {v1 : List V} {a : Addr} {c : Value} {d : Option Addr} : ((.lst v1) : HO) ≠ exh a c d := fun z => by
  have z' : HO.lst v1 = HO.ext _ := z
  cases z'
/-! ### list.count, list.index of flat items; lists of lists compared -/
def rCntF (K : PySem.W.Frag) : V → List V → Hp → VK → Prop := fun x xs H Q => ∃ (p : Addr) (ys : List V) (y : V), x = .ref p ∧ xs = [y] ∧ SqL K H p ys ∧ flatV y = true ∧ ys.all flatV = true ∧ Q (.int (ys.countP fun z => eqV z y : Nat)) H
theorem cnt_flat {y : V} : ∀ {ys : List V} {us : List Value}, Vals ys us → ys.all flatV = true → us.countP (eqU y) = ys.countP fun z => eqV z y
  | _, _, .nil, _ => rfl
  | z :: ys, u :: us, .cons r t, f => by
    rw [List.all_cons, Bool.and_eq_true] at f
    rw [List.countP_cons, List.countP_cons, cnt_flat t f.2, eqU_of r f.1]
theorem mt_cntF {X : Cx} : MtR X "list.count" (rCntF X.K) := by
  intro pins s σ H x xs v us Q I rx rxs h
  obtain ⟨p, ys, y, rfl, rfl, hs, fy, fys, q⟩ := h
  cases rx
  obtain ⟨u, rfl, ru⟩ := rxs.one
  obtain ⟨its, rv, ⟨⟨cls, dd, data, sl⟩, n, ho, hc, hdn, hd⟩, hlen⟩ := I.list hs
  simp only at hc hd
  subst hc hd
  refine call_meets PySem.F.slot_list_count ⟨_, ho, rfl⟩ PySem.F.entry_list_count (PySem.F.args_list_count_2 _ _)
    (SeqAt.list_countAt p its.toArray n dd sl u (eqU y)) ⟨ho, fun u' hu' => mem_eqAt ru fy rv fys u' (by simpa using hu'), ?_⟩
  have ec : its.toArray.toList.countP (eqU y) = ys.countP fun z => eqV z y := cnt_flat rv fys
  refine ⟨.int (ys.countP fun z => eqV z y : Nat), H, I.tok _, ⟨s.toks, ?_⟩, q⟩
  show Value.int ((its.toArray.toList.countP (eqU y) : Nat) : Int) s.toks = Value.int ((ys.countP fun z => eqV z y : Nat) : Int) s.toks
  rw [ec]
section
variable {K : PySem.W.Frag} {H : Hp} {Q : VK} {p q : Addr} {xs ys : List V} {y : V}
theorem w_cntF {n : Nat} (h : H p = some (.lst xs)) (f : flatV y = true) (fs : xs.all flatV = true) (e : (xs.countP fun z => eqV z y) = n) (k : Q (.int (n : Nat)) H) : rCntF K (.ref p) [y] H Q := ⟨p, xs, y, rfl, rfl, SqL.of h, f, fs, by rw [e]; exact k⟩
theorem w_index {j : Nat} {z : V} (h : H p = some (.lst xs)) (f : flatV y = true) (fs : xs.all flatV = true) (e : xs[j]? = some z) (ez : eqV z y = true) (no : ∀ (m : Nat) (z' : V), m < j → xs[m]? = some z' → eqV z' y = false) (k : Q (.int (j : Nat)) H) : rIndex K (.ref p) [y] H Q := ⟨p, xs, y, j, z, rfl, rfl, SqL.of h, f, fs, e, ez, no, k⟩
theorem w_catVV (h1 : H p = some (.lst xs)) (h2 : H q = some (.lst ys)) (hz : (xs ++ ys).length ≤ 16777216) (k : ∀ r, H r = none → Q (.ref r) (upd H r (.lst (xs ++ ys)))) : rCat (.ref p) (.ref q) H Q :=
  ⟨p, q, _, _, rfl, rfl, h1, h2, szle' (by rw [List.length_append] at hz; exact hz), k⟩
end
theorem eqvAll_lists : ∀ ls ms : List (List Int), PyData.eqvAll (ls.map dI) (ms.map dI) = decide (ls = ms)
  | [], [] => by simp [PyData.eqvAll]
  | [], m :: ms => by simp [PyData.eqvAll]
  | n :: ns, [] => by simp [PyData.eqvAll]
  | n :: ns, m :: ms => by
    have ih := eqvAll_lists ns ms
    have e : PyData.eqv (dI n) (dI m) = decide (n = m) := eqv_ints n m
    simp only [List.map_cons, PyData.eqvAll, ih, e]
    by_cases h : n = m
    · subst h
      by_cases h2 : ns = ms <;> simp [h2]
    · simp [h]
theorem w_neLists {K : PySem.W.Frag} {H : Hp} {Q : VK} {a b : Addr} {ps qs : List Addr} {xss yss : List (List Int)} (ha : H a = some (.lst (ps.map V.ref))) (hb : H b = some (.lst (qs.map V.ref))) (h1 : ListsAt H ps xss) (h2 : ListsAt H qs yss) (k : Q (.bl (!decide (xss = yss))) H) : rNeD K (.ref a) (.ref b) H Q :=
  ⟨_, _, .lst (SqL.of ha) (dpAll_lists h1), .lst (SqL.of hb) (dpAll_lists h2), shaped_lists _, shaped_lists _, by
    have e : PyData.eqv (.list (xss.map dI)) (.list (yss.map dI)) = decide (xss = yss) := by
      simp only [PyData.eqv]
      exact eqvAll_lists xss yss
    rw [e]
    exact k⟩
/-! ### lists of numbers, words, truths and None compared; insert, clear -/
def sD : V → PyData
  | .int i => .int i
  | .str s => .str s
  | .bl b => .bool b
  | _ => .none
def scal : V → Bool
  | .int _ => true
  | .str s => PyData.strOk s
  | .bl _ => true
  | .non => true
  | _ => false
theorem scal_dp {K : PySem.W.Frag} {H : Hp} : ∀ {v : V}, scal v = true → Dp K H v (sD v)
  | .int i, _ => .int i
  | .str s, _ => .str s
  | .bl b, _ => .bl b
  | .non, _ => .non
theorem scal_can : ∀ {v : V}, scal v = true → PyData.canLay0 (sD v) = true ∧ PyData.depth (sD v) ≤ 1
  | .int i, _ => by simp [sD, PyData.canLay0, PyData.depth]
  | .str s, h => by
    have h' : PyData.strOk s = true := h
    simp [sD, PyData.canLay0, PyData.depth, h']
  | .bl b, _ => by simp [sD, PyData.canLay0, PyData.depth]
  | .non, _ => by simp [sD, PyData.canLay0, PyData.depth]
theorem scal_all {K : PySem.W.Frag} {H : Hp} : ∀ {xs : List V}, xs.all scal = true → DpAll K H xs (xs.map sD) ∧ PyData.canLayAll0 (xs.map sD) = true ∧ PyData.depthAll (xs.map sD) ≤ 2
  | [], _ => ⟨.nil, by simp [PyData.canLayAll0], by simp [PyData.depthAll]⟩
  | x :: xs, h => by
    rw [List.all_cons, Bool.and_eq_true] at h
    obtain ⟨i1, i2, i3⟩ := scal_all (K := K) (H := H) h.2
    obtain ⟨j1, j2⟩ := scal_can h.1
    refine ⟨.cons (scal_dp h.1) i1, ?_, ?_⟩
    · simp only [List.map_cons, PyData.canLayAll0, j1, i2, Bool.and_self]
    · simp only [List.map_cons, PyData.depthAll]
      omega
section
variable {K : PySem.W.Frag} {H : Hp} {Q : VK} {p q : Addr} {xs : List V}
theorem scal_same (h1 : H p = some (.lst xs)) (h2 : H q = some (.lst xs)) (f : xs.all scal = true) : ∃ d, Dp K H (.ref p) d ∧ Dp K H (.ref q) d ∧ SeqAt.shaped d = true ∧ PyData.eqv d d = true := by
  obtain ⟨i1, i2, i3⟩ := scal_all (K := K) (H := H) f
  have c1 : PyData.canLay0 (.list (xs.map sD)) = true := by simp only [PyData.canLay0]; exact i2
  have c2 : PyData.depth (.list (xs.map sD)) ≤ 64 := by
    simp only [PyData.depth]
    omega
  refine ⟨.list (xs.map sD), .lst (SqL.of h1) i1, .lst (SqL.of h2) i1, ?_, PySem.SeqAt.eqv_refl _ c1⟩
  unfold SeqAt.shaped
  rw [c1]
  simpa using c2
theorem w_eqScal (h1 : H p = some (.lst xs)) (h2 : H q = some (.lst xs)) (f : xs.all scal = true) (k : Q (.bl true) H) : rEqD K (.ref p) (.ref q) H Q := by
  obtain ⟨d, a, b, c, e⟩ := scal_same (K := K) h1 h2 f
  exact ⟨d, d, a, b, c, c, by rw [e]; exact k⟩
theorem w_neScal (h1 : H p = some (.lst xs)) (h2 : H q = some (.lst xs)) (f : xs.all scal = true) (k : Q (.bl false) H) : rNeD K (.ref p) (.ref q) H Q := by
  obtain ⟨d, a, b, c, e⟩ := scal_same (K := K) h1 h2 f
  exact ⟨d, d, a, b, c, c, by rw [e]; exact k⟩
theorem w_clear (h : H p = some (.lst xs)) (k : Q .non (upd H p (.lst []))) : rClear (.ref p) [] H Q := ⟨p, xs, rfl, rfl, h, k⟩
end
def rIns : V → List V → Hp → VK → Prop := fun x vs H Q => ∃ (l : Addr) (xs : List V) (i : Int) (y : V), x = .ref l ∧ vs = [.int i, y] ∧ H l = some (.lst xs) ∧ xs.length < sizeLine ∧ 0 ≤ i ∧ i < 2 ^ 63 ∧
    Q .non (upd H l (.lst (xs.take i.toNat ++ [y] ++ xs.drop i.toNat)))
theorem mt_insertN {X : Cx} : MtR X "list.insert" rIns := mt_insert
theorem w_insI {H : Hp} {Q : VK} {p : Addr} {ns : List Int} {i y : Int} (h : H p = some (.lst (ns.map V.int))) (hz : ns.length < 16777216) (i0 : 0 ≤ i) (i1 : i < 2 ^ 63) (k : Q .non (upd H p (.lst ((ns.take i.toNat ++ [y] ++ ns.drop i.toNat).map V.int)))) : rIns (.ref p) [.int i, .int y] H Q :=
  ⟨p, _, i, .int y, rfl, rfl, h, by rw [List.length_map, sizeLine_eq]; omega, i0, i1, by rw [List.map_append, List.map_append, List.map_take, List.map_drop] at k; exact k⟩
/-! ### quiet defs: they may be called while an exception is handled; no loops, nothing is raised -/
structure RoomQ (k : Nat) (A : Around) : Prop where
  dp : A.depth + 3 * k + 5 < recursionLimit
  un : A.units + 16 * k + 200 < cLine
theorem RoomQ.mono {j k : Nat} {A : Around} (r : RoomQ k A) (h : j ≤ k) : RoomQ j A := ⟨by have := r.dp; omega, by have := r.un; omega⟩
theorem RoomQ.deeper {k : Nat} {A : Around} (r : RoomQ (k + 1) A) (env : Env) : RoomQ k (A.deeper env) :=
  ⟨by have := r.dp; show A.depth + 1 + 3 * k + 5 < _; omega, by have := r.un; show A.units + 3 + 16 * k + 200 < _; omega⟩
theorem roomQ_of {k : Nat} {A : Around} (r : Room k A) : RoomQ k A := ⟨r.dp, r.un⟩
theorem roomQ_mark {k : Nat} {A : Around} {v : Option Value} (r : Room k A) : RoomQ k (A.mark v) := ⟨r.dp, r.un⟩
structure FnQ (P : Program) (w : World) (K : PySem.W.Frag) (mg : Str → Option Value) (base : Heap) (k : Nat) (f : Addr) (fd : FuncData) (ps : List Str) (sp : Sp) : Prop where
  len : ∀ vs H Q E, sp vs H Q E → vs.length = ps.length
  run : ∀ (A : Around) (outer : List Env) (s : Shared) (H : Hp) (args : Args) (us : List Value) (vs : List V) (Q : VK) (E : XK), RoomQ k A → Env0 P w K mg base A outer s H → BindsTo s fd args (ps.zip us) → Vals vs us → sp vs H Q E →
    codeAny (model P w) A (.call (.ref f) args) (CR CX0 outer P w H s Q E) s
def cxQ (P : Program) (w : World) (K : PySem.W.Frag) (mg : Str → Option Value) (base : Heap) (N : List Str) (qual : Str) (scope : Scope) (f : Addr) (cd : Value) (A : Around) (outer : List Env) (s : Shared) (H : Hp) (E : XK) : Cx :=
  { cxOf CX0 P w K mg base N qual scope f cd A outer s H E with calm := false }
theorem inv_startQ {P : Program} {w : World} {K : PySem.W.Frag} {mg : Str → Option Value} {base : Heap} {N ps : List Str} {qual : Str} {scope : Scope} {f : Addr} {cd : Value} {A : Around} {outer : List Env} {s s1 : Shared} {H : Hp} {E : XK} {us : List Value} {vs : List V}
    (S : FnScope N ps scope) (e0 : Env0 P w K mg base A outer s H) (hl : vs.length = ps.length) (r : Vals vs us)
    (x : InCallC s s.heap.objs.size (bindL (envOfC qual scope s.heap.objs.size f cd).kindOf (ps.zip us) fun _ => none) (cellsFrom (s.heap.objs.size + 1) scope.names []) (bindC (envOfC qual scope s.heap.objs.size f cd).kindOf (ps.zip us) fun _ => none) s1) :
    Inv (cxQ P w K mg base N qual scope f cd A outer s H E) [] (L2.start N vs) H s1 := by
  have hpl : ps.length ≤ N.length := by have := congrArg List.length S.pre; rw [List.length_take] at this; omega
  obtain ⟨h1, tk, rfl, hk⟩ := x.done
  have noA : ∀ b : Addr, b ∉ (cxQ P w K mg base N qual scope f cd A outer s H E).ex := fun b z => absurd (show b ∈ ([] : List Addr) from z) (by simp)
  refine ⟨⟨e0.mod, S.kind, rfl, rfl, Nat.le_refl _, fun y z c h1 h2 => ?_, fun y hy => ?_, fun y c _ h => ?_, (fun z => Bool.noConfusion (show false = true from z)), Around.frames_deeper e0.frames, .inr ⟨rfl, rfl⟩, fun b z => absurd z (noA b), e0.bs, e0.bsz, fun b _ _ => noA b, fun b z => absurd z (noA b), e0.funs, e0.frf⟩,
    rfl, e0.bare, Un.kept hk, ⟨_, x.toInCall.ns, fun i y v h1 h2 h3 => ?_⟩, fun y c h => ⟨_, x.cell y c h⟩, e0.hok.fresh (Nat.le_refl _), fun y c h => ?_, fun p hp => absurd (show p ∈ ([] : List (Addr × Obj)) from hp) (by simp), e0.hok.kept hk, ?_⟩
  · exact name_of_addr x.apart (PySem.mem_of_lookup h1) (PySem.mem_of_lookup h2)
  · have hy : scope.names.lookup y = some .cell ∨ scope.names.lookup y = some .free := hy
    rcases hy with hy | hy
    · exact cell_has hy
    · exact absurd rfl (S.nofree _ (PySem.mem_of_lookup hy))
  · exact Nat.le_of_lt (x.above y c (PySem.mem_of_lookup h))
  · have hi : i < vs.length := by
      unfold L2.start at h2
      by_cases hi : i < vs.length
      · exact hi
      · rw [List.getElem?_append_right (by simpa using hi)] at h2
        rw [List.getElem?_replicate] at h2
        split at h2 <;> cases h2
    have ha : vs[i]? = some v := by
      unfold L2.start at h2
      rw [List.getElem?_append_left (by simpa using hi), List.getElem?_map] at h2
      cases e : vs[i]? with
      | none => rw [e] at h2; cases h2
      | some a => rw [e] at h2; cases h2; rfl
    obtain ⟨u, hu, rv⟩ := r.get ha
    have hp : ps[i]? = some y := by
      rw [← S.pre, List.getElem?_take_of_lt (by omega)]; exact h1
    have ndP : ps.Nodup := by rw [← S.pre]; exact S.nd.sublist (List.take_sublist _ _)
    refine ⟨u, rv, ?_⟩
    rcases S.par y (List.mem_of_getElem? hp) with k | k
    · exact .inl ⟨k, bindL_get ndP hp hu k⟩
    · obtain ⟨c, e⟩ := cell_has (n := s.heap.objs.size + 1) k
      refine .inr ⟨.inl k, c, e, ?_⟩
      have q := x.cell y c e
      rw [bindC_get ndP hp hu (by show scope.names.lookup y ≠ _; rw [k]; decide)] at q
      exact q
  · exact e0.hok.fresh (Nat.le_of_lt (x.above y c (PySem.mem_of_lookup h)))
  · unfold L2.start
    show _ = N.length
    rw [List.length_append, List.length_map, List.length_replicate]
    omega
structure DefAtQ (P : Program) (w : World) (K : PySem.W.Frag) (mg : Str → Option Value) (base : Heap) (x : Str) (st : Stmt) (k : Nat) (ps : List Str) (sp : Sp) : Prop where
  ex : ∃ f fd, mg x = some (.ref f) ∧ Fun K x x st f fd ∧ FnQ P w K mg base k f fd ps sp ∧ Binds K fd ps []
theorem FunAt.okQ {P : Program} {w : World} {K : PySem.W.Frag} {mg : Str → Option Value} {base : Heap} {x : Str} {st : Stmt} {k : Nat} {ps N : List Str} {sp : Sp} (F : FunAt K mg x st) (S : FnScope N ps (defScope st)) (len : ∀ vs H Q E, sp vs H Q E → vs.length = ps.length)
    (hb : ∀ (kV doc pm : Value) (an : Option Addr) (cdv ct : Value) (us : List Value), us.length = ps.length → bindArgs (PySem.W.fnOf x x (defArgs st) (defBody st) (defScope st) .none kV doc pm an cdv ct) ⟨us, []⟩ = pure (ps.zip us))
    (hbody : ∀ (f : Addr) (cdv : Value) (A : Around) (outer : List Env) (s : Shared) (H : Hp) (vs : List V) (Q : VK) (E : XK), RoomQ k (A.deeper (envOfC x (defScope st) s.heap.objs.size f cdv)) → sp vs H Q E →
      ∃ t, PSs (cxQ P w K mg base N x (defScope st) f cdv A outer s H E).nox (defBody st) t ∧ t { nx := fun _ H' => Q .non H', rt := Q } (L2.start N vs) H) : DefAtQ P w K mg base x st (k + 1) ps sp := by
  obtain ⟨f, fd, hm, F⟩ := F.ex
  refine ⟨f, fd, hm, F, ?_, F.binds hb⟩
  obtain ⟨oc, od, kV, doc, pm, an, cdv, ct, osl, rfl, lk, hcd⟩ := F.ex
  refine ⟨len, fun A outer s H args us vs Q E hr e0 hb r hsp => ?_⟩
  have hl := len _ _ _ _ hsp
  have KX : K.In s.heap := e0.mod.kin.keeps fun b o e => (e0.bs b o e).1
  have lim : s.heap.NoLimit := e0.mod.nolimit.keeps fun b o e => (e0.bs b o e).1
  have hkind : ∀ y ∈ ps.zip us, (defScope st).names.lookup y.1 = some .local ∨ ((defScope st).names.lookup y.1 = some .cell ∧ ((cellsFrom (s.heap.objs.size + 1) (defScope st).names []).lookup y.1).isSome = true) := fun ⟨n, v⟩ hy => by
    rcases S.par n (List.of_mem_zip hy).1 with q | q
    · exact .inl q
    · exact .inr ⟨q, PySem.W.cellsFrom_some _ _ _ (.inl q)⟩
  refine codeAny_call_function (by have := hr.dp; omega) (KX _ _ lk) rfl S.co S.gen rfl (PySem.W.codeRec_of KX hcd) (hb _ _ _ _ ?_)
  refine wpAny_newFunctionEnv_cells S.kind hkind fun env he s1 xx => ?_
  subst he
  refine ⟨lim.keeps xx.toInCall.keep, codeAny_func ?_⟩
  obtain ⟨t, ht0, hq⟩ := hbody f cdv A outer s H vs Q E (hr.deeper _) hsp
  have ht := ht0.nox
  have I := inv_startQ (E := E) S e0 hl r xx
  refine wpAny_mono (ht.run [] s1 (L2.start N vs) H _ I hq) (fun fl s' hs => ?_) fun e s' hs => hs
  have fin : ∀ {σ' : L2.St} {H' : Hp} {v : V} {u : Value}, Inv (cxQ P w K mg base N x (defScope st) f cdv A outer s H E) [] σ' H' s' → RelV v u → Q v H' → CE outer P w H s Q u s' :=
    fun {σ' H' v u} J rv q => ⟨v, H', J.os, J.bare, J.base, J.hok, rv, q⟩
  cases fl with
  | ret u =>
    obtain ⟨v, σ', H', J, rv, q⟩ := hs
    exact fin J rv q
  | next =>
    obtain ⟨σ', H', J, q⟩ := hs
    exact fin (v := V.non) (u := Value.none) J rfl q
  | brk =>
    obtain ⟨_, _, _, q⟩ := hs
    exact False.elim q
  | cont =>
    obtain ⟨_, _, _, q⟩ := hs
    exact False.elim q
section
variable {X : Cx} {x : Str} {st : Stmt} {k : Nat} {ps : List Str} {sp : Sp} {e : Expr} {es : List Expr} {t : TA} {p pos : Pos}
theorem pe_callQ (D : DefAtQ X.prog X.w X.K X.mg X.base x st k ps sp) (hr : RoomQ k X.A) (ha : PA X (e :: es) t) (hg : Gl X x := by rfl)
    (hdb : (x == ("__debug__" : Str)) = false := by decide) (he : starEach (e :: es) X.env = (false, eval e X.env) :: starEach es X.env := by rfl) (hpl : (backTo pos (starEach es X.env)).any (·.1) = false := by rfl) :
    PE X (.Call (.Name x p) (e :: es) [] pos) (tCall sp [] E0 t) := by
  obtain ⟨f, fd, hm, F, G, b⟩ := D.ex
  refine ⟨fun pins s σ H Q I h => ?_⟩
  refine wpAny_Call_Name_kw (ld_glob I hg hm ?_ hdb)
  refine PySem.W.callWith_K (h₀ := X.base) I.ok.mod.kin F.kp (thn (ha.run pos pins s σ H _ I h) fun us s1 ⟨vs, H1, I1, r, q⟩ => ⟨I1.kIn, ?_⟩) he hpl
  have q : sp vs H1 Q E0 := by
    have q' : sp (vs ++ []) H1 Q E0 := q
    rw [List.append_nil] at q'
    exact q'
  refine wpAny_call (codeAny_mono (G.run X.A X.stack s1 H1 ⟨us, []⟩ us vs Q E0 hr I1.env0 (binds0 b r (G.len _ _ _ _ q) I1.kIn) r q) fun q' s' hq => ?_)
  cases q' with
  | error e => exact False.elim hq
  | ok fl =>
    cases fl with
    | ret u => exact I1.after hq
    | next => exact False.elim hq
    | brk => exact False.elim hq
    | cont => exact False.elim hq
end
section
variable {K : PySem.W.Frag} {H : Hp} {Q : VK} {a D dd tp : Addr} {fs : List (Str × V)} {mg : Str → Option Value} {x : Str} {cs : List V} {us : List Value} {b : Bool}
theorem kit_any_nil {c : Value} : PySem.W.kitAny K c [] = some false := rfl
theorem kit_any_no {c u : Value} {us : List Value} {b : Bool} (h : PySem.W.kitOne K c u = some false) (k : PySem.W.kitAny K c us = some b) : PySem.W.kitAny K c (u :: us) = some b := by
  unfold PySem.W.kitAny
  rw [h]
  exact k
theorem kit_any_yes {c u : Value} {us : List Value} (h : PySem.W.kitOne K c u = some true) : PySem.W.kitAny K c (u :: us) = some true := by
  unfold PySem.W.kitAny
  rw [h]
theorem w_isET (hT : H tp = some (.tup cs)) (ea : H a = some (exh a (.ref D) (some dd))) (ed : H dd = some (.xd fs)) (T : ExAt K mg x D) (k : Paired ClsV cs us) (e : PySem.W.kitAny K (.ref D) us = some b) (q : Q (.bl b) H) : rIsET K [.ref a, .ref tp] H Q :=
  ⟨a, D, dd, tp, fs, mg, x, cs, us, b, rfl, hT, k, ea, ed, T, e, q⟩
end
/-- [list(one) for one in kept] -/
theorem l_copyL {K : PySem.W.Frag} {a : Addr} {ps : List Addr} {xss : List (List Int)} {σ : L2.St} {H : Hp} {Q : VK} {j : Nat} (hw : ∀ v, wipe ((wipe σ [j]).set j (some v)) [j] = wipe σ [j]) (hv : ∀ v, ((wipe σ [j]).set j (some v))[j]? = some (some v)) (hz : ps.length ≤ 100000)
    (ha : H a = some (.lst (ps.map V.ref))) (hl : ListsAt H ps xss)
    (hd : ∀ (L : Addr) (qs : List Addr) (H' : Hp), H L = none → Fr [] H H' → H' L = some (.lst (qs.map V.ref)) → ListsAt H' qs xss → (∀ q ∈ qs, H q = none) → L ∉ qs → qs.Nodup → Q (.ref L) H') :
    LcB (gName j) tYes (tCB (rListOf K) (tCons (tVar j) tNil)) [j] σ Q (Itl K a) H := by
  refine l_list (ps.map V.ref) (fun L i H' => ∃ qs : List Addr, Fr [] H H' ∧ H' L = some (.lst (qs.map V.ref)) ∧ ListsAt H' qs (xss.take i) ∧ L ∉ qs ∧ qs.length = i ∧ (∀ q ∈ qs, H q = none) ∧ qs.Nodup) (fun L hL => ⟨[], Fr.refl.new hL, upd_same, .nil, by simp, rfl, by simp, .nil⟩) (fun L i H' _ _ h => .of (h.choose_spec.1.at0 ha)) (fun L i x H' hL hx h => ?_) (fun L H3 hL h => ?_)
  · obtain ⟨qs, g1, g2, g3, g4, g5, g6, g7⟩ := h
    rw [List.getElem?_map] at hx
    obtain ⟨t, ht, rfl⟩ : ∃ t, ps[i]? = some t ∧ x = V.ref t := by
      cases e : ps[i]? with
      | none => rw [e] at hx; cases hx
      | some t =>
        rw [e] at hx
        cases hx
        exact ⟨t, rfl, rfl⟩
    have hil := (List.getElem?_eq_some_iff.mp ht).1
    obtain ⟨xs, hxs⟩ : ∃ xs, xss[i]? = some xs := ⟨_, List.getElem?_eq_getElem (by rw [← hl.len]; exact hil)⟩
    have htx : H' t = some (.lst (xs.map V.int)) := g1.at0 (hl.at_ i t xs ht hxs)
    refine w_gname ⟨hw _, w_tYes (w_iteT ?_)⟩
    refine w_CB (w_cons (w_var (hv _) (w_nil (w_listof (SqL.of htx) fun l nl => ?_))))
    have hLl : L ≠ l := ne_of_none g2 nl
    have hLq : L ∉ qs ++ [l] := by simp [g4, hLl]
    refine w_appER (at_upd g2 nl) (by omega) ⟨qs ++ [l], (g1.new nl).put (.inl hL), upd_same, ?_, hLq, by simp [g5], mem_snoc g6 (g1.free List.not_mem_nil nl), ?_⟩
    · rw [List.take_succ, hxs]
      exact ((g3.fr (Fr.refl.new nl)).app (.one (xs := xs) upd_same)).put hLq
    · refine List.nodup_append.mpr ⟨g7, by simp, fun q hq b hb => ?_⟩
      rw [List.mem_singleton.mp hb]
      intro e
      subst e
      obtain ⟨n, hn⟩ := List.getElem?_of_mem hq
      have hn2 := (List.getElem?_eq_some_iff.mp hn).1
      have hlen := g3.len
      obtain ⟨ys, hys⟩ : ∃ ys, (xss.take i)[n]? = some ys := ⟨_, List.getElem?_eq_getElem (by rw [← hlen]; exact hn2)⟩
      rw [g3.at_ n q ys hn hys] at nl
      cases nl
  · obtain ⟨qs, g1, g2, g3, g4, g5, g6, g7⟩ := h
    rw [List.length_map] at g5 g3
    rw [hl.len, List.take_length] at g3
    exact hd L qs H3 hL g1 g2 g3 g6 g4 g7
theorem Fr.drop {S T : List Addr} {H H1 H2 : Hp} (f : Fr S H H1) (g : Fr T H1 H2) (h : ∀ t ∈ T, t ∈ S ∨ H t = none) : Fr S H H2 := fun b o n e => g b o (fun hb => by
  rcases h b hb with z | z
  · exact n z
  · rw [z] at e
    cases e) (f b o n e)
/-- [f(one) for one in [x, y]], the element leaving all as it is -/
theorem l_two {K : PySem.W.Frag} {a x y : Addr} {v1 v2 : V} {σ : L2.St} {H : Hp} {Q : VK} {j : Nat} {te : TE} (hw : ∀ v, wipe ((wipe σ [j]).set j (some v)) [j] = wipe σ [j]) (ha : H a = some (.lst [.ref x, .ref y]))
    (e1 : ∀ (H' : Hp) (R : VK), Fr [] H H' → R v1 H' → te ((wipe σ [j]).set j (some (.ref x))) H' R)
    (e2 : ∀ (H' : Hp) (R : VK), Fr [] H H' → R v2 H' → te ((wipe σ [j]).set j (some (.ref y))) H' R)
    (hd : ∀ (L : Addr) (H' : Hp), H L = none → Fr [] H H' → H' L = some (.lst [v1, v2]) → Q (.ref L) H') : LcB (gName j) tYes te [j] σ Q (Itl K a) H := by
  refine l_list [.ref x, .ref y] (fun L i H' => Fr [] H H' ∧ H' L = some (.lst ([v1, v2].take i))) (fun L hL => ⟨Fr.refl.new hL, upd_same⟩) (fun L i H' _ _ h => .of (h.1.at0 ha)) (fun L i z H' hL hx h => ?_) (fun L H3 hL h => hd L H3 hL h.1 h.2)
  obtain ⟨g1, g2⟩ := h
  match i, hx, g2 with
  | 0, hx, g2 =>
    obtain rfl : V.ref x = z := by simpa using hx
    refine w_gname ⟨hw _, w_tYes (w_iteT (e1 H' _ g1 ?_))⟩
    exact w_appE g2 (by simp) ⟨g1.put (.inl hL), upd_same⟩
  | 1, hx, g2 =>
    obtain rfl : V.ref y = z := by simpa using hx
    refine w_gname ⟨hw _, w_tYes (w_iteT (e2 H' _ g1 ?_))⟩
    exact w_appE g2 (by simp) ⟨g1.put (.inl hL), upd_same⟩
  | i + 2, hx, g2 => simp at hx
theorem all_si {s : Str} {i : Int} (h : PyData.strOk s = true) : [V.str s, V.int i].all scal = true := by
  have h' : scal (.str s) = true := h
  simp [scal, h]
theorem all_sn {s : Str} (h : PyData.strOk s = true) : [V.str s, V.non].all scal = true := by
  have h' : scal (.str s) = true := h
  simp [scal, h]
theorem kc_xfH {X : Cx} {K : PySem.W.Frag} {e : Expr} {te : TE} (h : PE X e (tXfH X.K te)) (hk : X.K = K) : PE X e (tXfH K te) := hk ▸ h
/-! ### None, or a tuple of a word and a number -/
def DueAt (H : Hp) : Option (Str × Int) → V → Prop
  | none, v => v = .non
  | some (wd, y), v => ∃ t, v = .ref t ∧ H t = some (.tup [.str wd, .int y])
theorem DueAt.fr {H H' : Hp} {d : Option (Str × Int)} {v : V} (h : DueAt H d v) (f : Fr [] H H') : DueAt H' d v := by
  cases d with
  | none => exact h
  | some z =>
    obtain ⟨t, h1, h2⟩ := h
    exact ⟨t, h1, f.at0 h2⟩
theorem DueAt.made {H' : Hp} {wd : Str} {y : Int} {p : Addr} (h : H' p = some (.tup [.str wd, .int y])) : DueAt H' (some (wd, y)) (.ref p) := ⟨p, rfl, h⟩
theorem DueAt.pair {K : PySem.W.Frag} {H : Hp} {d : Option (Str × Int)} {v w : V} (ok : ∀ wd y, d = some (wd, y) → PyData.strOk wd = true) (h1 : DueAt H d v) (h2 : DueAt H d w) : ∃ x, Dp K H v x ∧ Dp K H w x ∧ SeqAt.shaped x = true ∧ PyData.eqv x x = true := by
  cases d with
  | none =>
    obtain rfl : v = .non := h1
    obtain rfl : w = .non := h2
    exact ⟨.none, .non, .non, by decide +kernel, by decide +kernel⟩
  | some z =>
    obtain ⟨wd, y⟩ := z
    obtain ⟨t, rfl, h1⟩ := h1
    obtain ⟨u, rfl, h2⟩ := h2
    obtain ⟨i1, i2, i3⟩ := scal_all (K := K) (H := H) (xs := [V.str wd, V.int y]) (all_si (ok wd y rfl))
    have c1 : PyData.canLay0 (.tuple ([V.str wd, V.int y].map sD)) = true := by simp only [PyData.canLay0]; exact i2
    have c2 : PyData.depth (.tuple ([V.str wd, V.int y].map sD)) ≤ 64 := by
      simp only [PyData.depth]
      omega
    refine ⟨.tuple ([V.str wd, V.int y].map sD), .tup (SqT.of h1) i1, .tup (SqT.of h2) i1, ?_, PySem.SeqAt.eqv_refl _ c1⟩
    unfold SeqAt.shaped
    rw [c1]
    simpa using c2
theorem w_neDue {K : PySem.W.Frag} {H : Hp} {Q : VK} {d : Option (Str × Int)} {v w : V} (ok : ∀ wd y, d = some (wd, y) → PyData.strOk wd = true) (h1 : DueAt H d v) (h2 : DueAt H d w) (k : Q (.bl false) H) : rNeD K v w H Q := by
  obtain ⟨x, a, b, s1, e⟩ := DueAt.pair (K := K) ok h1 h2
  exact ⟨x, x, a, b, s1, s1, by rw [e]; exact k⟩
/-! ### methods with a star parameter -/
def stSp (n : Nat) (sp : Sp) : Sp := fun vs H Q E => ∃ ws rest, vs = ws ++ rest ∧ ws.length = n ∧ rest.length ≤ sizeLine ∧ ∀ p, H p = none → sp (ws ++ [V.ref p]) (upd H p (.tup rest)) Q E
structure MDefAtS (P : Program) (w : World) (K : PySem.W.Frag) (mg : Str → Option Value) (base : Heap) (C : Addr) (m qual : Str) (st : Stmt) (k : Nat) (ps : List Str) (pv : Str) (sp : Sp) : Prop where
  ex : ∃ f fd, Meth K C m f ∧ Fun K m qual st f fd ∧ FnR P w K mg base (L2.CX P w) k f (stSp ps.length sp)
theorem MethAt.okS {P : Program} {w : World} {K : PySem.W.Frag} {mg : Str → Option Value} {base : Heap} {m qual pv : Str} {st : Stmt} {k : Nat} {ps N : List Str} {sp : Sp} {C : Addr} (F : MethAt K C m qual st) (S : FnScope N (ps ++ [pv]) (defScope st))
    (hb : ∀ (kV doc pm : Value) (an : Option Addr) (cdv ct : Value) (us rest : List Value), us.length = ps.length → bindArgs (PySem.W.fnOf m qual (defArgs st) (defBody st) (defScope st) .none kV doc pm an cdv ct) ⟨us ++ rest, []⟩ = (newTuple rest >>= fun t => pure (ps.zip us ++ [(pv, t)])))
    (hbody : ∀ (f : Addr) (cdv : Value) (A : Around) (outer : List Env) (s : Shared) (H : Hp) (vs : List V) (Q : VK) (E : XK), Room k (A.deeper (envOfC qual (defScope st) s.heap.objs.size f cdv)) → sp vs H Q E →
      ∃ t, PSs (cxOf (L2.CX P w) P w K mg base N qual (defScope st) f cdv A outer s H E) (defBody st) t ∧ t { nx := fun _ H' => Q .non H', rt := Q } (start N vs) H) : MDefAtS P w K mg base C m qual st (k + 1) ps pv sp := by
  obtain ⟨f, fd, hm, F⟩ := F.ex
  refine ⟨f, fd, hm, F, ?_⟩
  obtain ⟨oc, od, kV, doc, pm, an, cdv, ct, osl, rfl, lk, hcd⟩ := F.ex
  exact StX.fn_star lk hcd S StX.cxUp (hb kV doc pm an cdv ct) fun A outer s H vs Q E hr hsp => hbody f cdv A outer s H vs Q E hr hsp
section
variable {X : Cx} {m qual pv : Str} {st : Stmt} {k : Nat} {ps : List Str} {sp : Sp} {C : Addr} {e o : Expr} {es : List Expr} {t : TA} {ta : TE} {pos apos : Pos} {W : WX} {CX : CXT} {f : Addr}
theorem run_atR {pins : List (Addr × Obj)} {σ : L2.St} {H : Hp} {s : Shared} {Q : VK} {E : XK} {us : List Value} {vs : List V} {sq : Sp} (F : FnR X.prog X.w X.K X.mg X.base CX k f sq) (hr : Room k X.A) (hx : PassesAt CX X σ E)
    (I : Inv X pins σ H s) (r : Vals vs us) (h : sq vs H Q E) : wpAny (model X.prog X.w) X.A (call (.ref f) us) (EP X pins σ Q) X.xe s := by
  refine wpAny_call (codeAny_mono (F X.A X.stack s H us vs Q E hr I.env0 r h) fun q s' hq => ?_)
  cases q with
  | error e => exact hx pins H s e s' I hq
  | ok fl =>
    cases fl with
    | ret u => exact I.after hq
    | next => exact False.elim hq
    | brk => exact False.elim hq
    | cont => exact False.elim hq
theorem pe_methS {pl : Sem Bool} (he : PE X o ta) (T : Cls X.K C) (D : MDefAtS X.prog X.w X.K X.mg X.base C m qual st k ps pv sp) (hr : Room k X.A) (tkn : Takes X W) (ha : PA X (e :: es) t)
    (hst : starEach (e :: es) X.env = (false, eval e X.env) :: starEach es X.env := by rfl) (hpl : (backTo pos (starEach es X.env)).any (·.1) = false := by rfl)
    (ht : eval (.Call (.Attribute o m apos) (e :: es) [] pos) X.env = (do
      let ov ← eval o X.env
      standAt apos.atName
      let (f, first) ← holding [ov] (getMethod ov m pl)
      callWith pos f first (backTo pos (starEach (e :: es) X.env)) (backToKw pos (keywordEach [] X.env))) := by rfl) :
    PE X (.Call (.Attribute o m apos) (e :: es) [] pos) (tMethX C m (stSp ps.length sp) W ta t) := by
  obtain ⟨f, fd, hm, F, G⟩ := D.ex
  refine ⟨fun pins s σ H Q I h => ?_⟩
  refine PySem.W.methodCall_KW (pl := pl) (thn (he.run pins s σ H _ I h) fun u s1 ⟨x, H1, I1, rx, a, dx, fs, ex, ea, l, q⟩ => ?_) ht
  subst ex
  obtain rfl : u = Value.ref a := rx
  refine getmeth_ok I1 ea T hm l ?_
  refine PySem.W.callWith_K (first := [.ref a]) (h₀ := X.base) I.ok.mod.kin hm.kp (thn (ha.run pos pins s1 σ H1 _ I1 q) fun us s2 ⟨vs, H2, I2, r, q2⟩ => ⟨I2.kIn, ?_⟩) hst hpl
  have r2 : Vals (V.ref a :: vs) (Value.ref a :: us) := .cons rfl r
  exact run_atR (us := .ref a :: us) G hr (L2.passAt tkn σ) I2 r2 q2
theorem pe_methS0 {pl : Sem Bool} (he : PE X o ta) (T : Cls X.K C) (D : MDefAtS X.prog X.w X.K X.mg X.base C m qual st k ps pv sp) (hr : Room k X.A) (tkn : Takes X W)
    (ht : eval (.Call (.Attribute o m apos) [] [] pos) X.env = (do
      let ov ← eval o X.env
      standAt apos.atName
      let (f, first) ← holding [ov] (getMethod ov m pl)
      callWith pos f first (backTo pos (starEach [] X.env)) (backToKw pos (keywordEach [] X.env))) := by rfl) :
    PE X (.Call (.Attribute o m apos) [] [] pos) (tMethX C m (stSp ps.length sp) W ta tNil) := by
  obtain ⟨f, fd, hm, F, G⟩ := D.ex
  refine ⟨fun pins s σ H Q I h => ?_⟩
  refine PySem.W.methodCall_KW (pl := pl) (thn (he.run pins s σ H _ I h) fun u s1 ⟨x, H1, I1, rx, a, dx, fs, ex, ea, l, q⟩ => ?_) ht
  subst ex
  obtain rfl : u = Value.ref a := rx
  refine getmeth_ok I1 ea T hm l ?_
  refine PySem.W.callWith_K0 (first := [.ref a]) I1.kIn hm.kp ?_
  exact run_atR (us := [.ref a]) (vs := [V.ref a]) G hr (L2.passAt tkn σ) I1 (.cons rfl .nil) q
end
theorem w_listofT {K : PySem.W.Frag} {H : Hp} {Q : VK} {p : Addr} {xs : List V} (h : SqT K H p xs) (q : ∀ l, H l = none → Q (.ref l) (upd H l (.lst xs))) : rListOf K [.ref p] H Q := ⟨p, xs, rfl, .inr h, q⟩
theorem w_ixLastR {K : PySem.W.Frag} {H : Hp} {Q : VK} {p r : Addr} {ri : List Addr} (h : H p = some (.lst ((ri ++ [r]).map V.ref))) (q : Q (.ref r) H) : rIxL K (.ref p) (.int (-1)) H Q := by
  refine w_ixL (SqL.of h) ?_ q
  rw [List.map_append]
  exact atI_last _ _
theorem scal_sameT {K : PySem.W.Frag} {H : Hp} {p q : Addr} {xs : List V} (h1 : H p = some (.tup xs)) (h2 : H q = some (.tup xs)) (f : xs.all scal = true) : ∃ d, Dp K H (.ref p) d ∧ Dp K H (.ref q) d ∧ SeqAt.shaped d = true ∧ PyData.eqv d d = true := by
  obtain ⟨i1, i2, i3⟩ := scal_all (K := K) (H := H) f
  have c1 : PyData.canLay0 (.tuple (xs.map sD)) = true := by simp only [PyData.canLay0]; exact i2
  have c2 : PyData.depth (.tuple (xs.map sD)) ≤ 64 := by
    simp only [PyData.depth]
    omega
  refine ⟨.tuple (xs.map sD), .tup (SqT.of h1) i1, .tup (SqT.of h2) i1, ?_, PySem.SeqAt.eqv_refl _ c1⟩
  unfold SeqAt.shaped
  rw [c1]
  simpa using c2
theorem w_neScalT {K : PySem.W.Frag} {H : Hp} {Q : VK} {p q : Addr} {xs : List V} (h1 : H p = some (.tup xs)) (h2 : H q = some (.tup xs)) (f : xs.all scal = true) (k : Q (.bl false) H) : rNeD K (.ref p) (.ref q) H Q := by
  obtain ⟨d, a, b, c, e⟩ := scal_sameT (K := K) h1 h2 f
  exact ⟨d, d, a, b, c, c, by rw [e]; exact k⟩
theorem all_sbi {s : Str} {b : Bool} {i : Int} (h : PyData.strOk s = true) : [V.str s, V.bl b, V.int i].all scal = true := by
  simp [scal, h]
theorem w_cut {t1 : TS} {D : Ends} {σ : L2.St} {H : Hp} (I : L2.St → Hp → Prop) (h : ∀ N : L2.St → Hp → Prop, (∀ σ H, I σ H → N σ H) → t1 { D with nx := N } σ H) (k : ∀ σ H, I σ H → D.nx σ H) : t1 D σ H := h D.nx k
end Pg

namespace L2
open PySem PySem.Spec PyProof.Rows GenW
/-! ### a for within a generator -/
section
variable {M : Model} {A : Around} {R : GenEnd} {Y : Protocol} {n : Nat} {s₀ : Shared} {c : Code} {fs : List Frame} {s : Shared} {env : Env} {K : Flow → Sem PySem.Fin} {J : Value → Sem PySem.Fin} {gd : Bool → Bool} {lv : List Value → List Value}
theorem seg_For {tg iter : Expr} {body : List Stmt} {pos : Pos}
    (h : wpAny M (A.over c fs) (eval iter env) (fun x s₁ => wpAny M (A.over c fs) (pyIter x) (fun it s₂ => ∀ p, Seg M A R Y n s₀ (.forLoop tg it body [] env) (M.den (.forLoop tg it body [] env))
      (.ret (fun r => ((match r with | .ok f => (.pure f : Sem Flow) | .error e => .raise e).onRaise (cameBack env)).wrap K J gd lv) none (gd false) (lv []) c p [] :: fs) s₂) (fun x s' => Seg M A R Y n s₀ c (J x) fs s') s₁) (fun x s' => Seg M A R Y n s₀ c (J x) fs s') s)
    (hs : ∀ x, foldedSetIterable iter env x = pure x := by intro _; rfl) :
    Seg M A R Y n s₀ c ((exec (.For tg iter body [] pos) env).wrap K J gd lv) fs s := by
  rw [exec_For]
  refine seg_bind_wrap (wpAny_standAt ?_)
  refine seg_bind_wrap (wpAny_mono h (fun x s₁ h₁ => ?_) fun _ _ h' => h')
  refine seg_bind_wrap (wpAny_of_eq (hs x) ?_)
  refine seg_bind_wrap (wpAny_standAt ?_)
  refine seg_bind_wrap (wpAny_holding (wpAny_mono h₁ (fun it s₂ h₂ => ?_) fun _ _ h' => h'))
  exact seg_call fun p => h₂ p
end
section
variable {prog : Program} {w : World} {A : Around} {R : GenEnd} {Y : Protocol} {n : Nat} {s₀ : Shared} {fs : List Frame} {s : Shared} {env : Env}
/-- an exception leaves a loop's code -/
abbrev EOut (prog : Program) (w : World) (A : Around) (R : GenEnd) (Y : Protocol) (n : Nat) (s₀ : Shared) (c : Code) (env : Env) (fs : List Frame) (x : Value) (s' : Shared) : Prop :=
  Seg (model prog w) A R Y n s₀ c ((do noteFrame x env; theTreesLotGoes x : Sem Unit).wrap (fun _ => .raise x) .raise id id) fs s'
theorem seg_forLoop {tg : Expr} {it : Value} {body : List Stmt}
    (h : wpAny (model prog w) (A.over (.forLoop tg it body [] env) fs) (pyNext it) (fun r s₁ => match r with
        | none => Seg (model prog w) A R Y n s₀ (.block [] env) ((model prog w).den (.block [] env)) fs s₁
        | some v => wpAny (model prog w) (A.over (.forLoop tg it body [] env) fs) (letOwnedTupleGo tg it v) (fun _ s₁' => wpAny (model prog w) (A.over (.forLoop tg it body [] env) fs) (assign tg env v) (fun _ s₂ =>
            Seg (model prog w) A R Y n s₀ (.forLoop tg it body [] env) ((execs body env).wrap (fun f => match f with
              | .next | .cont => .pure (.again (.forLoop tg it body [] env))
              | .brk => .pure (.done .next)
              | .ret v => .pure (.done (.ret v))) (fun e => (do noteFrame e env; theTreesLotGoes e : Sem Unit).wrap (fun _ => .raise e) .raise id id) id id) fs s₂) (EOut prog w A R Y n s₀ (.forLoop tg it body [] env) env fs) s₁') (EOut prog w A R Y n s₀ (.forLoop tg it body [] env) env fs) s₁)
      (EOut prog w A R Y n s₀ (.forLoop tg it body [] env) env fs) s) :
    Seg (model prog w) A R Y n s₀ (.forLoop tg it body [] env) ((model prog w).den (.forLoop tg it body [] env)) fs s := by
  show Seg _ A R Y n s₀ _ ((forTurn tg it body [] env).onRaise (fun x => do noteFrame x env; theTreesLotGoes x)) fs s
  unfold forTurn
  rw [Sem.onRaise_eq_wrap]
  have ee : ∀ x s', EOut prog w A R Y n s₀ (.forLoop tg it body [] env) env fs x s' → Seg (model prog w) A R Y n s₀ (.forLoop tg it body [] env) ((do noteFrame x env; theTreesLotGoes x : Sem Unit).bind fun _ => .raise x) fs s' := fun x s' hx => by
    rw [Sem.bind_eq_wrap]; exact hx
  refine seg_bind_wrap (wpAny_standAt ?_)
  refine seg_bind_wrap (wpAny_onRaise (wpAny_mono h (fun r s₁ h₁ => ?_) fun x s' hx => wpAny_standAt (ee x s' hx)))
  cases r with
  | none => exact seg_again rfl h₁
  | some v =>
    refine seg_bind_wrap (wpAny_mono h₁ (fun _ s₁' h₂ => ?_) fun x s' hx => ee x s' hx)
    refine seg_bind_wrap (wpAny_mono h₂ (fun _ s₂ h₃ => ?_) fun x s' hx => ee x s' hx)
    rw [Sem.bind_eq_wrap', Sem.wrap_wrap]
    rw [Sem.wrap_congr (execs body env) _ _ (K' := fun f => match f with
            | .next | .cont => .pure (.again (.forLoop tg it body [] env))
            | .brk => .pure (.done .next)
            | .ret v => .pure (.done (.ret v))) (H' := (fun e => (do noteFrame e env; theTreesLotGoes e : Sem Unit).wrap (fun _ => .raise e) .raise id id))
        (fun f => by cases f <;> rfl)
        (fun e => by first | exact Sem.bind_eq_wrap _ _ | (show (do noteFrame e env; theTreesLotGoes e : Sem Unit).bind (fun _ => .raise e) = _; rw [Sem.bind_eq_wrap]))]
    exact h₃
end
section
variable {X : Cx} {rest : List Stmt} {pos : Pos}
def tGFor (wi : TI) (g : TG) (tb : TGn) : TGn := fun D ys σ H => wi σ H fun J H1 => ∃ W : Nat → Nat → List V → St → Hp → Prop, (∃ m, W 0 m ys σ H1) ∧ ∀ i m ys σ H, W i m ys σ H →
  (J.stop i H ∧ D.nx ys σ H) ∨ (J.go i H ∧ ∃ N : List V → St → Hp → Prop, (∀ ys' σ' H', N ys' σ' H' → ∃ m', m' < m ∧ W (i + 1) m' ys' σ' H') ∧ ∀ x H', J.yld i H x H' → g x σ H' fun σ2 H2 => tb { D with nx := N, ct := N, bk := D.nx } ys σ2 H2)
theorem gs_for {tg iter : Expr} {body : List Stmt} {wi : TI} {g : TG} {tb : TGn} (hp : PassesOwn (model X.prog X.w) X.A X.env X.xe) (hc : X.calm = true) (hi : PI X tg iter wi) (hg : PG X tg g) (hb : GSs X body tb)
    (hs : ∀ x, foldedSetIterable iter X.env x = pure x := by intro _; rfl) : GS X (.For tg iter body [] pos) (tGFor wi g tb) := by
  refine ⟨fun A S ip R n ys s₀ c fs K J gd lv s σ H D gg hn k hI ht => ?_⟩
  obtain ⟨acc, cc, r, I⟩ := hI
  refine seg_For ?_ hs
  rw [gg.over]
  refine wpAny_mono (hi.run _ s σ H _ I ht) (fun v s1 h1 => ?_) fun x s' hx => k.exc n s₀ x s' hx
  refine wpAny_mono h1 (fun itv s2 h2 p => ?_) fun x s' hx => k.exc n s₀ x s' hx
  obtain ⟨it, fp, tn, JJ, H2, e, I2, T, st2, f2, W, ⟨m0, w0⟩, turn⟩ := h2
  subst e
  have stat : ∀ {H' : Hp} {acc' : Array Value} {cc' : Nat}, (∀ b ∈ fp, H' b = none) → ∀ b ∈ fp, FpOk X ((S, lstObj acc' cc') :: ip) H' b := fun hn b hb => by
    obtain ⟨f0, f1, f2', f3, f4, f5⟩ := f2 b hb
    refine ⟨hn b hb, f1, f2', f3, f4, fun p hp => ?_⟩
    rcases List.mem_append.mp hp with z | z
    · exact f5 p (List.mem_append_left _ z)
    · rcases List.mem_cons.mp z with z | z
      · rw [z]
        exact f5 (S, lstObj acc cc) (List.mem_append_right _ List.mem_cons_self)
      · exact f5 p (List.mem_append_right _ (List.mem_cons_of_mem _ z))
  have nS : ∀ b ∈ fp, b ≠ S := fun b hb z => (f2 b hb).2.2.2.2.2 (S, lstObj acc cc) (List.mem_append_right _ List.mem_cons_self) z.symm
  have gl := fun (kk : Result → Sem PySem.Fin) => gc_loop (k := kk) (c' := .forLoop tg (.ref it) body [] X.env) (l := lv []) (kp := []) (p := p) gg rfl rfl
  have glb := fun (kk : Result → Sem PySem.Fin) => gc_loop (k := kk) (c' := .block [] X.env) (l := lv []) (kp := []) (p := p) gg rfl rfl
  have loop : ∀ (m i n : Nat) (ys : List V) (s₀ s : Shared) (σ : St) (H : Hp), n + ys.length = sizeLine → W i m ys σ H → GI X S ip ys σ H s → tn i s.heap → (∀ b ∈ fp, H b = none) →
      Seg (model X.prog X.w) A R (GY X S) n s₀ (.forLoop tg (.ref it) body [] X.env) ((model X.prog X.w).den (.forLoop tg (.ref it) body [] X.env))
        (.ret (fun r => ((match r with | .ok f => (.pure f : Sem Flow) | .error e => .raise e).onRaise (cameBack X.env)).wrap K J gd lv) none (gd false) (lv []) c p [] :: fs) s := by
    intro m
    induction m using Nat.strongRecOn with
    | ind m ih =>
      intro i n ys s₀ s σ H hn w hI hst hfr
      have ee : ∀ (n : Nat) (s₀ : Shared) (x : Value) (s' : Shared), X.xe x s' → EOut X.prog X.w A R (GY X S) n s₀ (.forLoop tg (.ref it) body [] X.env) X.env
          (.ret (fun r => ((match r with | .ok f => (.pure f : Sem Flow) | .error e => .raise e).onRaise (cameBack X.env)).wrap K J gd lv) none (gd false) (lv []) c p [] :: fs) x s' := fun n s₀ x s' hx => by
        refine seg_wrap ?_
        rw [(gl _).over]
        refine wpAny_bind (wpAny_mono (hp x s' hx) (fun _ s'' hcb => wpAny_theTreesLotGoes ?_) fun y s'' hcb => ?_)
        · exact seg_leaf (.error x) (seg_cameBack gg k hcb)
        · exact seg_leaf (.error y) (seg_cameBack gg k hcb)
      refine seg_forLoop ?_
      rw [(gl _).over]
      obtain ⟨acc, cc, r, I⟩ := hI
      rcases turn i m ys σ H w with ⟨stop, qn⟩ | ⟨go, N, hN, step⟩
      · refine wpAny_mono (T.done X rfl rfl rfl hc i _ s σ H X.xe I (stat hfr) hst stop) (fun r' s4 ⟨hr, I4⟩ => ?_) fun x s' hx => ee n s₀ x s' hx
        subst hr
        show Seg _ _ _ _ _ _ _ ((execs [] X.env).onRaise _ >>= fun f => .pure (.done f)) _ _
        refine seg_bind ?_
        rw [(glb _).over]
        refine wpAny_onRaise ?_
        refine wpAny_execs_nil ?_
        exact seg_leaf (.ok .next) (k.ok n ys s₀ s4 .next hn ⟨σ, H, ⟨acc, cc, r, I4⟩, qn⟩)
      · refine wpAny_mono (T.item X rfl rfl rfl hc i _ s σ H X.xe I (stat hfr) hst go) (fun r' s4 ⟨u, hr, h4⟩ => ?_) fun x s' hx => ee n s₀ x s' hx
        subst hr
        refine wpAny_mono h4 (fun _ s5 ⟨x, H5, I5, r5, y5, st5, fr5⟩ => ?_) fun x s' hx => ee n s₀ x s' hx
        have I5' := I5.pinned (stat fr5) (T.obj _ _ st5)
        refine wpAny_mono (hg.run _ s5 σ H5 x u _ I5' r5 (step x H5 y5)) (fun _ s6 ⟨σ6, H6, I6, q6⟩ => ?_) fun x s' hx => ee n s₀ x s' hx
        have gl' : GC X S (ip ++ pinsAt fp s5.heap) A (.forLoop tg (.ref it) body [] X.env) (.ret (fun r => ((match r with | .ok f => (.pure f : Sem Flow) | .error e => .raise e).onRaise (cameBack X.env)).wrap K J gd lv) none (gd false) (lv []) c p [] :: fs) id :=
          ⟨gg.pn, fun p hp => (List.mem_append.mp hp).elim (fun z => gg.ip p z) fun z => nS p.1 (of_pinsAt z).1, gg.apart, (gl _).over, (gl _).split, (gl _).guard, rfl⟩
        have back : ∀ {ys7 : List V} {σ7 : St} {H7 : Hp} {s7 : Shared}, GI X S (ip ++ pinsAt fp s5.heap) ys7 σ7 H7 s7 → GI X S ip ys7 σ7 H7 s7 ∧ tn (i + 1) s7.heap ∧ ∀ b ∈ fp, H7 b = none := fun {ys7 σ7 H7 s7} h7 => by
          obtain ⟨acc7, cc7, r7, I7⟩ := h7
          refine ⟨⟨acc7, cc7, r7, Inv.unpinned (pins := (S, lstObj acc7 cc7) :: ip) I7⟩, T.keep _ _ _ st5 fun b hb o e => (I7.pin (b, o) (List.mem_append_right _ (List.mem_cons_of_mem _ (List.mem_append_right _ (mem_pinsAt hb e))))).1, fun b hb => ?_⟩
          obtain ⟨o, e, d⟩ := T.obj _ _ st5 b hb
          exact (I7.pin (b, o) (List.mem_append_right _ (List.mem_cons_of_mem _ (List.mem_append_right _ (mem_pinsAt hb e))))).2.1
        refine hb.run A S (ip ++ pinsAt fp s5.heap) R n ys s₀ _ _ _ _ id id s6 σ6 H6 { D with nx := N, ct := N, bk := D.nx } gl' hn ⟨fun n' ys' s₀' s7 f hn' hs => ?_, fun n' s₀' x s7 hx => ee n' s₀' x s7 hx⟩ ⟨acc, cc, r, I6⟩ q6
        cases f with
        | next =>
          obtain ⟨σ7, H7, I7, n7⟩ := hs
          obtain ⟨m', hm, w7⟩ := hN ys' σ7 H7 n7
          obtain ⟨b1, b2, b3⟩ := back I7
          exact seg_again rfl (ih m' hm (i + 1) n' ys' s₀' s7 σ7 H7 hn' w7 b1 b2 b3)
        | cont =>
          obtain ⟨σ7, H7, I7, n7⟩ := hs
          obtain ⟨m', hm, w7⟩ := hN ys' σ7 H7 n7
          obtain ⟨b1, b2, b3⟩ := back I7
          exact seg_again rfl (ih m' hm (i + 1) n' ys' s₀' s7 σ7 H7 hn' w7 b1 b2 b3)
        | brk =>
          obtain ⟨σ7, H7, I7, n7⟩ := hs
          exact seg_leaf (.ok .next) (k.ok n' ys' s₀' s7 .next hn' ⟨σ7, H7, (back I7).1, n7⟩)
        | ret v =>
          obtain ⟨x7, σ7, H7, I7, r7, n7⟩ := hs
          exact seg_leaf (.ok (.ret v)) (k.ok n' ys' s₀' s7 (.ret v) hn' ⟨x7, σ7, H7, (back I7).1, r7, n7⟩)
  exact loop m0 0 n ys s₀ s2 σ H2 hn w0 ⟨acc, cc, r, I2⟩ st2 fun b hb => (f2 b hb).1
end
end L2
namespace Pg
open PySem PySem.Spec PyProof.Rows L2
/-! ### generator methods -/
structure MGnAt (P : Program) (w : World) (K : PySem.W.Frag) (mg : Str → Option Value) (base : Heap) (C : Addr) (m qual : Str) (st : Stmt) (k : Nat) (ps : List Str) (sp : SpG) : Prop where
  ex : ∃ f fd, Meth K C m f ∧ Fun K m qual st f fd ∧ GFn P w K mg base k f fd ps sp ∧ Binds K fd ps []
theorem MethAt.okGn {P : Program} {w : World} {K : PySem.W.Frag} {mg : Str → Option Value} {base : Heap} {C : Addr} {m qual : Str} {st : Stmt} {k : Nat} {ps N : List Str} {sp : SpG} (F : MethAt K C m qual st) (S : GScope N ps (defScope st)) (len : ∀ vs H Q E, sp vs H Q E → vs.length = ps.length)
    (hb : ∀ (kV doc pm : Value) (an : Option Addr) (cdv ct : Value) (us : List Value), us.length = ps.length → bindArgs (PySem.W.fnOf m qual (defArgs st) (defBody st) (defScope st) .none kV doc pm an cdv ct) ⟨us, []⟩ = pure (ps.zip us))
    (hbody : ∀ (f : Addr) (cdv : Value) (A : Around) (outer : List Env) (s : Shared) (H : Hp) (vs : List V) (Q : List V → Hp → Prop) (E : XK) (pn : List (Addr × Obj)), Room k (A.deeper (envOfC qual (defScope st) s.heap.objs.size f cdv)) → sp vs H Q E →
      ∃ t, GSs (gcxOf P w K mg base N qual (defScope st) f cdv A outer s H E pn) (defBody st) t ∧ t { nx := fun ys _ H' => Q ys H', rt := fun ys v H' => v = .non ∧ Q ys H' } [] (start N vs) H) : MGnAt P w K mg base C m qual st (k + 1) ps sp := by
  obtain ⟨f, fd, hm, F⟩ := F.ex
  refine ⟨f, fd, hm, F, ?_, F.binds hb⟩
  obtain ⟨oc, od, kV, doc, pm, an, cdv, ct, osl, rfl, lk, hcd⟩ := F.ex
  exact gfn_of lk hcd S len fun A outer s H vs Q E pn hr h => hbody f cdv A outer s H vs Q E pn hr h
section
variable {X : Cx} {x m qual : Str} {st : Stmt} {k : Nat} {ps ks : List Str} {sp : SpG} {C : Addr} {e o : Expr} {es : List Expr} {kws : List Keyword} {t tk : TA} {ta : TE} {p p0 pos pos' apos : Pos} {ix : List Nat}
theorem pe_listGM {pl : Sem Bool} (he : PE X o ta) (T : Cls X.K C) (D : MGnAt X.prog X.w X.K X.mg X.base C m qual st k ps sp) (hr : Room (k + 3) X.A) (hgl : Gl X "list") (hml : X.mg "list" = none) (ha : PA X (e :: es) t)
    (hst : starEach (e :: es) X.env = (false, eval e X.env) :: starEach es X.env := by rfl) (hpl : (backTo pos' (starEach es X.env)).any (·.1) = false := by rfl)
    (ht : eval (.Call (.Attribute o m apos) (e :: es) [] pos') X.env = (do
      let ov ← eval o X.env
      standAt apos.atName
      let (f, first) ← holding [ov] (getMethod ov m pl)
      callWith pos' f first (backTo pos' (starEach (e :: es) X.env)) (backToKw pos' (keywordEach [] X.env))) := by rfl)
    (he2 : starEach [.Call (.Attribute o m apos) (e :: es) [] pos'] X.env = (false, eval (.Call (.Attribute o m apos) (e :: es) [] pos') X.env) :: starEach [] X.env := by rfl) :
    PE X (.Call (.Name "list" p0) [.Call (.Attribute o m apos) (e :: es) [] pos'] [] pos) (tListG (tMethG C m sp [] E0 ta t)) := by
  obtain ⟨f, fd, hm, F, G, b⟩ := D.ex
  exact pe_listG (pgen_meth he T hm G (hr.mono (by omega)) b .nil ha hst hpl ht) (fun _ _ _ _ _ _ _ z => by
    obtain ⟨_, _, _, _, _, _, _, _, _, _, _, _, q⟩ := z
    exact q.elim) (fun _ _ _ z => z.elim) hr hgl hml boot_list (by decide) (by decide) he2
/-- o.m(k = v, ..) of a generator method -/
def tMethGK (C : Addr) (m : Str) (n : Nat) (ix : List Nat) (sp : SpG) (E : XK) (ta : TE) (tk : TA) : TGen := fun σ H cont => ta σ H fun x H1 => ∃ a dx fs, x = .ref a ∧ H1 a = some (.ins C dx fs) ∧ fs.lookup m = none ∧
  tk σ H1 fun zs H2 => zs.length = n ∧ sp (x :: pick ix zs) H2 cont E
theorem run_gfnK {pins : List (Addr × Obj)} {σ : L2.St} {H : Hp} {s : Shared} {us us' : List Value} {kw : List (Str × Value)} {vs : List V} {cont : List V → Hp → Prop} {E : XK} {f : Addr} {fd : FuncData} {E1 : Value → Shared → Prop} (F : GFn X.prog X.w X.K X.mg X.base k f fd ps sp) (hr : Room k X.A)
    (I : Inv X pins σ H s) (b : BindsTo s fd ⟨us, kw⟩ (ps.zip us')) (r : Vals vs us') (h : sp vs H cont E) :
    wpAny (model X.prog X.w) X.A (call (.ref f) us kw) (fun u s' => ∃ H1 sc ex, Inv X pins σ H1 sc ∧ ExOk X pins ex ∧ GMade X.prog X.w k X.stack H1 sc ex cont E u s') E1 s := by
  refine wpAny_call (codeAny_mono (F.run X.A X.stack s H ⟨us, kw⟩ us' vs cont E hr I.env0 b r h) fun r s' hq => ?_)
  cases r with
  | error e => exact False.elim hq
  | ok fl =>
    cases fl with
    | ret u => exact ⟨H, s, [], I, .nil, hq⟩
    | next => exact False.elim hq
    | brk => exact False.elim hq
    | cont => exact False.elim hq
theorem pgen_methK {E : XK} {pl : Sem Bool} (he : PE X o ta) (T : Cls X.K C) (D : MGnAt X.prog X.w X.K X.mg X.base C m qual st k ps sp) (hr : Room k X.A) (hkw : PK X kws tk) (B : KB0 m qual st ps ks 1 ix)
    (hall : (backToKw pos' (keywordEach kws X.env)).all (·.1.isSome) = true := by rfl) (hks : (backToKw pos' (keywordEach kws X.env)).filterMap (·.1) = ks := by rfl)
    (hpl : ((backTo pos' (starEach [] X.env)).any (·.1) || (backToKw pos' (keywordEach kws X.env)).any (·.1.isNone)) = false := by rfl)
    (ht : eval (.Call (.Attribute o m apos) [] kws pos') X.env = (do
      let ov ← eval o X.env
      standAt apos.atName
      let (f, first) ← holding [ov] (getMethod ov m pl)
      callWith pos' f first (backTo pos' (starEach [] X.env)) (backToKw pos' (keywordEach kws X.env))) := by rfl) :
    PGen X k (.Call (.Attribute o m apos) [] kws pos') (tMethGK C m ks.length ix sp E ta tk) E := by
  obtain ⟨f, fd, hm, F, G, b⟩ := D.ex
  refine ⟨fun pins s σ H cont I h => ?_⟩
  refine PySem.W.methodCall_KW (pl := pl) (thn (he.run pins s σ H _ I h) fun u s1 ⟨x, H1, I1, rx, a, dx, fs, ex, ea, l, q⟩ => ?_) ht
  subst ex
  obtain rfl : u = Value.ref a := rx
  refine getmeth_ok I1 ea T hm l ?_
  refine PySem.W.callWith_KW0 (first := [.ref a]) (h₀ := X.base) I.ok.mod.kin hm.kp hall ?_ hpl
  refine thn (hkw.run pos' pins s1 σ H1 _ I1 q) fun ws s2 ⟨zs, H2, I2, rz, l2, q2⟩ => ⟨I2.kIn, ?_⟩
  rw [hks]
  have r2 : Vals (V.ref a :: pick ix zs) (Value.ref a :: pick ix ws) := .cons rfl (pick_vals rz ix)
  exact run_gfnK (us := [.ref a]) G hr I2 ((B.kbn F).to s2 [.ref a] ws I2.kIn rfl (rz.length.symm.trans l2)) r2 q2
theorem pe_listGMK {pl : Sem Bool} (he : PE X o ta) (T : Cls X.K C) (D : MGnAt X.prog X.w X.K X.mg X.base C m qual st k ps sp) (hr : Room (k + 3) X.A) (hgl : Gl X "list") (hml : X.mg "list" = none) (hkw : PK X kws tk) (B : KB0 m qual st ps ks 1 ix)
    (hall : (backToKw pos' (keywordEach kws X.env)).all (·.1.isSome) = true := by rfl) (hks : (backToKw pos' (keywordEach kws X.env)).filterMap (·.1) = ks := by rfl)
    (hpl : ((backTo pos' (starEach [] X.env)).any (·.1) || (backToKw pos' (keywordEach kws X.env)).any (·.1.isNone)) = false := by rfl)
    (ht : eval (.Call (.Attribute o m apos) [] kws pos') X.env = (do
      let ov ← eval o X.env
      standAt apos.atName
      let (f, first) ← holding [ov] (getMethod ov m pl)
      callWith pos' f first (backTo pos' (starEach [] X.env)) (backToKw pos' (keywordEach kws X.env))) := by rfl)
    (he2 : starEach [.Call (.Attribute o m apos) [] kws pos'] X.env = (false, eval (.Call (.Attribute o m apos) [] kws pos') X.env) :: starEach [] X.env := by rfl) :
    PE X (.Call (.Name "list" p0) [.Call (.Attribute o m apos) [] kws pos'] [] pos) (tListG (tMethGK C m ks.length ix sp E0 ta tk)) :=
  pe_listG (pgen_methK he T D (hr.mono (by omega)) hkw B hall hks hpl ht) (fun _ _ _ _ _ _ _ z => by
    obtain ⟨_, _, _, _, _, _, _, _, _, _, _, _, q⟩ := z
    exact q.elim) (fun _ _ _ z => z.elim) hr hgl hml boot_list (by decide) (by decide) he2
/-- f(k = v, ..) of a generator def -/
def tCallGK (n : Nat) (ix : List Nat) (sp : SpG) (E : XK) (tk : TA) : TGen := fun σ H cont => tk σ H fun zs H2 => zs.length = n ∧ sp (pick ix zs) H2 cont E
theorem pgen_callK {E : XK} (D : GnAt X.prog X.w X.K X.mg X.base x st k ps sp) (hr : Room k X.A) (hkw : PK X kws tk) (B : KB0 x x st ps ks 0 ix) (hg : Gl X x := by rfl)
    (hall : (backToKw pos' (keywordEach kws X.env)).all (·.1.isSome) = true := by rfl) (hks : (backToKw pos' (keywordEach kws X.env)).filterMap (·.1) = ks := by rfl) (hdb : (x == ("__debug__" : Str)) = false := by decide)
    (hpl : ((backTo pos' (starEach [] X.env)).any (·.1) || (backToKw pos' (keywordEach kws X.env)).any (·.1.isNone)) = false := by rfl) :
    PGen X k (.Call (.Name x p) [] kws pos') (tCallGK ks.length ix sp E tk) E := by
  obtain ⟨f, fd, hm, F, G, b⟩ := D.ex
  refine ⟨fun pins s σ H cont I h => ?_⟩
  refine wpAny_Call_Name_kw (ld_glob I hg hm ?_ hdb)
  refine PySem.W.callWith_KW0 (h₀ := X.base) I.ok.mod.kin F.kp hall ?_ hpl
  refine thn (hkw.run pos' pins s σ H _ I h) fun ws s2 ⟨zs, H2, I2, rz, l2, q2⟩ => ⟨I2.kIn, ?_⟩
  rw [hks]
  exact run_gfnK (us := []) G hr I2 ((B.kbn F).to s2 [] ws I2.kIn rfl (rz.length.symm.trans l2)) (pick_vals rz ix) q2
theorem pe_listGDK (D : GnAt X.prog X.w X.K X.mg X.base x st k ps sp) (hr : Room (k + 3) X.A) (hgl : Gl X "list") (hml : X.mg "list" = none) (hkw : PK X kws tk) (B : KB0 x x st ps ks 0 ix) (hg : Gl X x := by rfl)
    (hall : (backToKw pos' (keywordEach kws X.env)).all (·.1.isSome) = true := by rfl) (hks : (backToKw pos' (keywordEach kws X.env)).filterMap (·.1) = ks := by rfl) (hdb : (x == ("__debug__" : Str)) = false := by decide)
    (hpl : ((backTo pos' (starEach [] X.env)).any (·.1) || (backToKw pos' (keywordEach kws X.env)).any (·.1.isNone)) = false := by rfl)
    (he2 : starEach [.Call (.Name x p) [] kws pos'] X.env = (false, eval (.Call (.Name x p) [] kws pos') X.env) :: starEach [] X.env := by rfl) :
    PE X (.Call (.Name "list" p0) [.Call (.Name x p) [] kws pos'] [] pos) (tListG (tCallGK ks.length ix sp E0 tk)) :=
  pe_listG (pgen_callK D (hr.mono (by omega)) hkw B hg hall hks hdb hpl) (fun _ _ _ _ _ _ _ z => by
    obtain ⟨_, _, _, _, _, _, _, _, _, _, _, _, q⟩ := z
    exact q.elim) (fun _ _ _ z => z.elim) hr hgl hml boot_list (by decide) (by decide) he2
section
variable {D : GEnds} {ys : List V} {σ : L2.St} {H : Hp} {sp : SpG} {dvs : List V} {E : XK} {cont : List V → Hp → Prop} {n : Nat} {a dx : Addr} {fs : List (Str × V)} {y : V}
def GRunE (sp : SpG) (E : XK) (cont : List V → Hp → Prop) : V → List V → Hp → Prop := fun x vs H2 => sp (x :: (vs ++ [])) H2 cont E
def GKwE (n : Nat) (ix : List Nat) (sp : SpG) (E : XK) (cont : List V → Hp → Prop) : V → List V → Hp → Prop := fun x zs H2 => zs.length = n ∧ sp (x :: pick ix zs) H2 cont E
def GKw0 (n : Nat) (ix : List Nat) (sp : SpG) (E : XK) (cont : List V → Hp → Prop) : List V → Hp → Prop := fun zs H2 => zs.length = n ∧ sp (pick ix zs) H2 cont E
theorem w_methG (h : ta σ H (MethXE C m t (GRunE sp E cont) σ)) : tMethG C m sp [] E ta t σ H cont := h
theorem w_methGK (h : ta σ H (MethXE C m tk (GKwE n ix sp E cont) σ)) : tMethGK C m n ix sp E ta tk σ H cont := h
theorem w_grunE {vs : List V} (h : sp (y :: (vs ++ [])) H cont E) : GRunE sp E cont y vs H := h
theorem w_gkwE {zs : List V} (e : zs.length = n) (h : sp (y :: pick ix zs) H cont E) : GKwE n ix sp E cont y zs H := ⟨e, h⟩
theorem w_callGK (h : tk σ H (GKw0 n ix sp E cont)) : tCallGK n ix sp E tk σ H cont := h
theorem w_gkw0 {zs : List V} (e : zs.length = n) (h : sp (pick ix zs) H cont E) : GKw0 n ix sp E cont zs H := ⟨e, h⟩
/-- the loop over what is walked -/
def GForB (g : TG) (tb : TGn) (D : GEnds) (ys : List V) (σ : L2.St) : It → Hp → Prop := fun J H1 => ∃ W : Nat → Nat → List V → L2.St → Hp → Prop, (∃ m, W 0 m ys σ H1) ∧ ∀ i m ys σ H, W i m ys σ H →
  (J.stop i H ∧ D.nx ys σ H) ∨ (J.go i H ∧ ∃ N : List V → L2.St → Hp → Prop, (∀ ys' σ' H', N ys' σ' H' → ∃ m', m' < m ∧ W (i + 1) m' ys' σ' H') ∧ ∀ x H', J.yld i H x H' → g x σ H' fun σ2 H2 => tb { D with nx := N, ct := N, bk := D.nx } ys σ2 H2)
theorem w_gFor {wi : TI} {g : TG} {tb : TGn} (h : wi σ H (GForB g tb D ys σ)) : tGFor wi g tb D ys σ H := h
/-- a for over a list that stays as it is -/
theorem g_list {K : PySem.W.Frag} {g : TG} {tb : TGn} (xs : List V) (Pv : Nat → List V → L2.St → Hp → Prop) (h0 : Pv 0 ys σ H) (hl : ∀ i ys σ H, i ≤ xs.length → Pv i ys σ H → SqL K H a xs)
    (hs : ∀ i x ys σ H, xs[i]? = some x → Pv i ys σ H → g x σ H fun σ2 H2 => tb { D with nx := Pv (i + 1), ct := Pv (i + 1), bk := D.nx } ys σ2 H2) (hd : ∀ ys σ H, Pv xs.length ys σ H → D.nx ys σ H) : GForB g tb D ys σ (Itl K a) H := by
  refine ⟨fun i m ys σ H => m = xs.length - i ∧ i ≤ xs.length ∧ Pv i ys σ H, ⟨xs.length, by simp, Nat.zero_le _, h0⟩, ?_⟩
  rintro i m ys σ H ⟨rfl, hi, p⟩
  have q := hl i ys σ H hi p
  by_cases hlt : i < xs.length
  · refine .inr ⟨⟨xs, xs[i], q, by simp [hlt]⟩, Pv (i + 1), fun ys' σ' H' p' => ⟨xs.length - (i + 1), by omega, rfl, hlt, p'⟩, fun x H' y => ?_⟩
    obtain ⟨e, y⟩ := y
    subst e
    exact hs i x ys σ _ (y xs q) p
  · have e : i = xs.length := by omega
    subst e
    exact .inl ⟨⟨xs, q, Nat.le_refl _⟩, hd ys σ H p⟩
end
end
/-! ### list(range(..)) -/
def RgLE (Q : VK) : Int → Int → Hp → Prop := fun a b H1 => RgOk a b ∧ ∀ q, H1 q = none → Q (.ref q) (upd H1 q (.lst (rgV a b)))
def Rg2E (R : Int → Int → Hp → Prop) : V → V → Hp → Prop := fun x y H2 => ∃ i j, x = .int i ∧ y = .int j ∧ R i j H2
def Rg1E (R : Int → Int → Hp → Prop) : V → Hp → Prop := fun x H1 => ∃ n, x = .int n ∧ R 0 n H1
def rgI (a b : Int) : List Int := (List.range (b - a).toNat).map fun i => a + (i : Nat)
theorem rgV_ints (a b : Int) : rgV a b = (rgI a b).map V.int := by simp [rgV, rgI]
section
variable {σ : L2.St} {H : Hp} {ta tb : TE} {te : L2.St → Hp → (Int → Int → Hp → Prop) → Prop} {Q : VK} {R : Int → Int → Hp → Prop} {i j : Int}
theorem w_listRg (h : te σ H (RgLE Q)) : tLstRg te σ H Q := h
theorem w_rg2 (h : ta σ H fun x H1 => tb σ H1 (Rg2E R x)) : tRg2 ta tb σ H R := h
theorem w_rg1 (h : ta σ H (Rg1E R)) : tRg1 ta σ H R := h
theorem w_rg2E (h : R i j H) : Rg2E R (.int i) (.int j) H := ⟨i, j, rfl, rfl, h⟩
theorem w_rg1E (h : R 0 i H) : Rg1E R (.int i) H := ⟨i, rfl, h⟩
theorem w_rgLE (h0 : 0 ≤ i) (h1 : j ≤ 16777216) (h2 : i ≤ 16777216) (h3 : 0 ≤ j) (k : ∀ q, H q = none → Q (.ref q) (upd H q (.lst ((rgI i j).map V.int)))) : RgLE Q i j H := ⟨RgOk.of_le h0 h1 h2 h3, fun q hq => by rw [rgV_ints]; exact k q hq⟩
end
end Pg
namespace L2
open PySem PySem.Spec PyProof.Rows GenW
/-! ### generators that raise when they are woken -/
def RErr (P : Program) (w : World) (outer : List Env) (H : Hp) (s : Shared) (a : Addr) (g : Nat) (E : XK) : GenEnd := fun n s₀ r s1 => ((r = .ok (.ret .none) ∨ r = .ok .next) ∧ False) ∨ ∃ e, r = .error e ∧ (CX P w outer H s E e s1 ∧ s1.heap.IsGen a g)
def GRMade (P : Program) (w : World) (k : Nat) (outer : List Env) (H : Hp) (s : Shared) (E : XK) (u : Value) (s' : Shared) : Prop :=
  ∃ (a : Addr) (g : Nat) (c : Code), u = .ref a ∧ s.heap.objs.size ≤ a ∧ a < s'.heap.objs.size ∧ s'.heap.IsGen a g ∧ s'.gens[g]? = some (.fresh c) ∧ s'.os = s.os ∧ AllBare s'.gens ∧ s'.heap.NoLimit ∧ (∀ b o, s.heap.get? b = some o → s'.heap.get? b = some o) ∧
    ∀ (A : Around) (s2 : Shared), Room k A → A.frames = some outer → (∀ b o, s'.heap.get? b = some o → s2.heap.get? b = some o) → s2.os = s.os → AllBare s2.gens →
      Seg (model P w) A (RErr P w outer H s a g E) (fun _ _ _ _ _ => False) 0 s2 c ((model P w).den c) [] s2
abbrev SpR := List V → Hp → XK → Prop
structure GRFn (P : Program) (w : World) (K : PySem.W.Frag) (mg : Str → Option Value) (base : Heap) (k : Nat) (f : Addr) (fd : FuncData) (ps : List Str) (sp : SpR) : Prop where
  len : ∀ vs H E, sp vs H E → vs.length = ps.length
  run : ∀ (A : Around) (outer : List Env) (s : Shared) (H : Hp) (args : Args) (us : List Value) (vs : List V) (E : XK), Room k A → Env0 P w K mg base A outer s H → BindsTo s fd args (ps.zip us) → Vals vs us → sp vs H E →
    codeAny (model P w) A (.call (.ref f) args) (fun r s' => match r with | .ok (.ret u) => GRMade P w k outer H s E u s' | _ => False) s
theorem grfn_of {P : Program} {w : World} {K : PySem.W.Frag} {mg : Str → Option Value} {base : Heap} {k : Nat} {f : Addr} {name qual : Str} {params : Arguments} {st : Stmt} {rest : List Stmt} {scope : Scope} {dV kV doc pm cdv ct oc : Value} {an od : Option Addr}
    {osl : Array (Option Value)} {N ps : List Str} {sp : SpR} (lk : K.lookup f = some ⟨oc, od, .func (PySem.W.fnOf name qual params (st :: rest) scope dV kV doc pm an cdv ct), osl⟩) (hcd : PySem.W.codeIn K cdv qual = true) (S : GScope N ps scope)
    (len : ∀ vs H E, sp vs H E → vs.length = ps.length)
    (hbody : ∀ (A : Around) (outer : List Env) (s : Shared) (H : Hp) (vs : List V) (E : XK) (pn : List (Addr × Obj)), Room k (A.deeper (envOfC qual scope s.heap.objs.size f cdv)) → sp vs H E →
      ∃ t, PS (gcxOf P w K mg base N qual scope f cdv A outer s H E pn) st t ∧ t { nx := fun _ _ => False, rt := fun _ _ => False } (start N vs) H) :
    GRFn P w K mg base (k + 1) f (PySem.W.fnOf name qual params (st :: rest) scope dV kV doc pm an cdv ct) ps sp := by
  refine ⟨len, fun A outer s H args us vs E hr e0 hb r hsp => ?_⟩
  have hl := len _ _ _ hsp
  have KX : K.In s.heap := e0.mod.kin.keeps fun b o e => (e0.bs b o e).1
  have lim : s.heap.NoLimit := e0.mod.nolimit.keeps fun b o e => (e0.bs b o e).1
  have hkind : ∀ y ∈ ps.zip us, scope.names.lookup y.1 = some .local ∨ (scope.names.lookup y.1 = some .cell ∧ ((cellsFrom (s.heap.objs.size + 1) scope.names []).lookup y.1).isSome = true) := fun ⟨n, v⟩ hy => by
    rcases S.par n (List.of_mem_zip hy).1 with q | q
    · exact .inl q
    · exact .inr ⟨q, PySem.W.cellsFrom_some _ _ _ (.inl q)⟩
  refine codeAny_call_generator hr.depth (KX _ _ lk) rfl S.co S.gen rfl (PySem.W.codeRec_of KX hcd) (hb _ _ _ _ ?_)
  refine wpAny_newFunctionEnv_cells S.kind hkind fun env he s1 x => ?_
  subst he
  have lim1 : s1.heap.NoLimit := lim.keeps x.toInCall.keep
  refine ⟨lim1, ?_⟩
  obtain ⟨h1, tk, es1, hk1⟩ := x.done
  have os1 : s1.os = s.os := by rw [es1]
  have gen1 : s1.gens = s.gens := by rw [es1]
  have lt1 : s.heap.objs.size < s1.heap.objs.size := x.toInCall.ns.lt
  have sz1 : s.heap.objs.size ≤ s1.heap.objs.size := Nat.le_of_lt lt1
  have kp1 : ∀ b o, s.heap.get? b = some o → s1.heap.get? b = some o := x.toInCall.keep
  have main : ∀ (go : Obj) (nm qn : Value) (tk2 : Nat), go.cls = .type "generator" → go.data = .fields #[.int s1.gens.size 0, nm, qn] → go.slots = #[] → (∀ h : Heap, (h.push go).get? h.objs.size = some go) →
      GRMade P w (k + 1) outer H s E (.ref s1.heap.objs.size) { s1 with gens := s1.gens.push (.fresh (.func (st :: rest) (envOfC qual scope s.heap.objs.size f cdv))), toks := tk2, heap := s1.heap.push go } := by
    intro go nm qn tk2 hgc hgd0 hgs hgp
    have hgen : ∀ h : Heap, h.get? s1.heap.objs.size = some go → h.IsGen s1.heap.objs.size s1.gens.size := fun h e => ⟨go, nm, qn, e, hgc, hgd0, hgs⟩
    have hpushed : (s1.heap.push go).get? s1.heap.objs.size = some go := hgp _
    refine ⟨s1.heap.objs.size, s1.gens.size, _, rfl, sz1, ?_, hgen _ hpushed, Array.getElem?_push_size .., os1, ?_, lim1.keeps fun b o e => Heap.get?_push_of_some _ e, fun b o e => Heap.get?_push_of_some _ (kp1 b o e), ?_⟩
    · show _ < (s1.heap.push _).objs.size
      rw [Heap.size_push]; exact Nat.lt_succ_self _
    · exact AllBare.push (by rw [gen1]; exact e0.bare) rfl
    intro Aw s2 hrw hfr hk2 hos hba
    have e0w : Env0 P w K mg base Aw outer s H := ⟨hfr, e0.mod, e0.bs, e0.bsz, e0.funs, e0.frf, e0.hok, e0.bare⟩
    obtain ⟨t, ht, hq⟩ := hbody Aw outer s H vs E [(s1.heap.objs.size, go)] (hrw.deeper _) hsp
    have I1 : Inv (gcxOf P w K mg base N qual scope f cdv Aw outer s H E []) [] (start N vs) H s1 := inv_startG S hrw.hd e0w hl r x
    have kp2 : ∀ b o, s1.heap.get? b = some o → s2.heap.get? b = some o := fun b o e => hk2 b o (Heap.get?_push_of_some _ e)
    have I2 : Inv (gcxOf P w K mg base N qual scope f cdv Aw outer s H E []) [] (start N vs) H s2 :=
      I1.call' (ch := []) (hos.trans os1.symm) (Un.kept kp2) (I1.hok.kept kp2) hba fun b z => by simp at z
    have hea : s2.heap.get? s1.heap.objs.size = some go := hk2 s1.heap.objs.size go hpushed
    have hgd : ∀ v, go.data ≠ .cell v := fun v q => by rw [hgd0] at q; cases q
    have I3 : Inv (gcxOf P w K mg base N qual scope f cdv Aw outer s H E [(s1.heap.objs.size, go)]) [] (start N vs) H s2 := Inv.pinnedG I2 fun p hp => by
      rw [List.append_nil] at hp
      rw [List.mem_singleton.mp hp]
      exact ⟨hea, I1.hok.fresh (Nat.le_refl _), Nat.ne_of_gt lt1, I1.nofs (Nat.le_refl _), hgd⟩
    refine seg_func ?_
    refine seg_execs_cons ?_
    refine seg_wrap ?_
    rw [over_func]
    refine wpAny_mono (ht.run [] s2 (start N vs) H _ I3 hq) (fun fl s' hs => ?_) fun e s' hx => ?_
    · cases fl with
      | next => obtain ⟨_, _, _, q⟩ := hs; exact False.elim q
      | brk => obtain ⟨_, _, _, q⟩ := hs; exact False.elim q
      | cont => obtain ⟨_, _, _, q⟩ := hs; exact False.elim q
      | ret u => obtain ⟨_, _, _, _, _, q⟩ := hs; exact False.elim q
    · refine seg_wrap ?_
      rw [over_func]
      refine wpAny_mono (show wpAny (model P w) (Aw.deeper (envOfC qual scope s.heap.objs.size f cdv)) (leaving (envOfC qual scope s.heap.objs.size f cdv) e) (fun _ s'' => CX P w outer H s E e s'' ∧ ∀ p ∈ [(s1.heap.objs.size, go)], s''.heap.get? p.1 = some p.2) (fun _ _ => False) s' from hx) (fun _ s'' q => ?_) fun _ s'' q => q.elim
      exact seg_end (.error e) (.inr ⟨e, rfl, q.1, hgen _ (q.2 (s1.heap.objs.size, go) (List.mem_singleton.mpr rfl))⟩)
  exact main _ _ _ _ rfl rfl rfl fun h => Heap.get?_push_size _ rfl
/-- an expression whose value is a generator that raises when it is woken -/
abbrev TGr := L2.St → Hp → XK → Prop
structure PGenR (X : Cx) (k : Nat) (e : Expr) (tg : TGr) : Prop where
  run : ∀ (pins : List (Addr × Obj)) (s : Shared) (σ : L2.St) (H : Hp) (E : XK), Inv X pins σ H s → tg σ H E → wpAny (model X.prog X.w) X.A (eval e X.env)
    (fun u s' => ∃ H1 sc, Inv X pins σ H1 sc ∧ GRMade X.prog X.w k X.stack H1 sc E u s') X.xe s
def tForGR (K : PySem.W.Frag) (tg : TGr) (W : WX) : TS := fun D σ H => tg σ H fun cls d H' => PySem.W.subIn K cls (.type "StopIteration") = some false ∧ W cls d σ H'
theorem ps_forGR {X : Cx} {k : Nat} {tg iter : Expr} {body : List Stmt} {pos : Pos} {tr : TGr} {W : WX} (hp : PassesOwn (model X.prog X.w) X.A X.env X.xe) (hc : X.calm = true) (tkn : Takes X W) (h : PGenR X k iter tr) (hr : Room (k + 3) X.A)
    (hs : ∀ x, foldedSetIterable iter X.env x = pure x := by intro _; rfl) : PS X (.For tg iter body [] pos) (tForGR X.K tr W) := by
  refine ⟨fun pins s σ H D I hw => ?_⟩
  refine wpAny_For (thn (h.run pins s σ H _ I hw) fun v s1 h1 => ?_) hs
  obtain ⟨H1, sc, I1, a, g, c, rfl, ha1, ha2, hg, hgs, hos, hb, hl, hkp, wake⟩ := h1
  refine wpAny_pyIter_gen hg ?_
  refine codeAny_forLoop_any (fun n s' => s' = s1) (fun n s2 e => ?_) 0 rfl
  subst e
  refine wpAny_passesOwn hp ?_
  refine next_genG (P := X.prog) (w := X.w) (A := X.A) (F := fun _ _ _ => False) (Er := fun e s1' => CX X.prog X.w X.stack H1 sc (fun cls d H' => PySem.W.subIn X.K cls (.type "StopIteration") = some false ∧ W cls d σ H') e s1' ∧ s1'.heap.IsGen a g) (Y := fun _ _ _ _ _ => False) (n := 0) hr.hd hl (by have := hr.dp; omega) hg hgs ⟨rfl, ?_⟩ (fun _ _ _ _ q => q.elim) (fun _ q => q.elim) (fun e s₁ he => ?_)
  · refine wake _ _ ⟨hr.hd, ?_, ?_⟩ I1.ok.frames (fun b o e => e) hos (allBare_setGen hb rfl)
    · have := hr.dp
      show X.A.depth + 3 * k + 5 < _
      omega
    · have := hr.un
      show X.A.units + 1 + 16 * k + 200 < _
      omega
  · obtain ⟨hcx, hgen⟩ := he
    have kin : X.K.In s₁.heap := by
      obtain ⟨a', B, H', cls, d, _, fl, _, ub, _⟩ := id hcx
      refine I1.ok.mod.kin.keeps fun b o eb => fl.1 b o (ub.keep b o (I1.bs b o eb).1 (I1.bs b o eb).2 fun hm => ?_)
      rcases List.mem_cons.mp (I1.stkSub b hm) with z | z
      · have h1 := Heap.lt_size eb
        have h2 := Nat.le_trans I1.ok.bsz I1.ok.above
        rw [z] at h1
        exact absurd (Nat.lt_of_lt_of_le h1 h2) (Nat.lt_irrefl _)
      · exact I1.ok.nofr eb z
    refine ⟨hgen, notStop_of (fun cls d H' z => z.1) kin hcx, ?_⟩
    refine tkn e _ (XE.of_call I1 (E := fun cls d H' => PySem.W.subIn X.K cls (.type "StopIteration") = some false ∧ W cls d σ H') (fun _ _ _ h => h.2) ?_)
    obtain ⟨a', B, H', cls, d, z1, fl, z2, ub, z3, z4, z5, z6⟩ := hcx
    exact ⟨a', B, H', cls, d, z1, fl, z2, ub, z3, z4, allBare_setGen z5 rfl, z6⟩
end L2
namespace Pg
open PySem PySem.Spec PyProof.Rows L2
/-! ### generator methods that raise when they are woken -/
structure MGRAt (P : Program) (w : World) (K : PySem.W.Frag) (mg : Str → Option Value) (base : Heap) (C : Addr) (m qual : Str) (st : Stmt) (k : Nat) (ps : List Str) (sp : SpR) : Prop where
  ex : ∃ f fd, Meth K C m f ∧ Fun K m qual st f fd ∧ GRFn P w K mg base k f fd ps sp ∧ Binds K fd ps []
theorem MethAt.okGR {P : Program} {w : World} {K : PySem.W.Frag} {mg : Str → Option Value} {base : Heap} {C : Addr} {m qual : Str} {st b₀ : Stmt} {rest : List Stmt} {k : Nat} {ps N : List Str} {sp : SpR} (F : MethAt K C m qual st) (S : GScope N ps (defScope st)) (eb : defBody st = b₀ :: rest) (len : ∀ vs H E, sp vs H E → vs.length = ps.length)
    (hb : ∀ (kV doc pm : Value) (an : Option Addr) (cdv ct : Value) (us : List Value), us.length = ps.length → bindArgs (PySem.W.fnOf m qual (defArgs st) (defBody st) (defScope st) .none kV doc pm an cdv ct) ⟨us, []⟩ = pure (ps.zip us))
    (hbody : ∀ (f : Addr) (cdv : Value) (A : Around) (outer : List Env) (s : Shared) (H : Hp) (vs : List V) (E : XK) (pn : List (Addr × Obj)), Room k (A.deeper (envOfC qual (defScope st) s.heap.objs.size f cdv)) → sp vs H E →
      ∃ t, PS (gcxOf P w K mg base N qual (defScope st) f cdv A outer s H E pn) b₀ t ∧ t { nx := fun _ _ => False, rt := fun _ _ => False } (start N vs) H) : MGRAt P w K mg base C m qual st (k + 1) ps sp := by
  obtain ⟨f, fd, hm, F⟩ := F.ex
  refine ⟨f, fd, hm, F, ?_, F.binds hb⟩
  obtain ⟨oc, od, kV, doc, pm, an, cdv, ct, osl, rfl, lk, hcd⟩ := F.ex
  rw [eb] at lk ⊢
  exact grfn_of lk hcd S len fun A outer s H vs E pn hr h => hbody f cdv A outer s H vs E pn hr h
def GRunR (sp : SpR) (E : XK) : V → List V → Hp → Prop := fun x vs H2 => sp (x :: vs) H2 E
def tMethGR (C : Addr) (m : Str) (sp : SpR) (ta : TE) (t : TA) : TGr := fun σ H E => ta σ H (MethXE C m t (GRunR sp E) σ)
section
variable {X : Cx} {x y m qual : Str} {st : Stmt} {k i : Nat} {ps : List Str} {C : Addr} {e o : Expr} {es : List Expr} {t : TA} {ta : TE} {p p0 pos pos' apos : Pos}
theorem pgenR_meth {sp : SpR} {pl : Sem Bool} (he : PE X o ta) (T : Cls X.K C) (D : MGRAt X.prog X.w X.K X.mg X.base C m qual st k ps sp) (hr : Room k X.A) (ha : PA X (e :: es) t)
    (hst : starEach (e :: es) X.env = (false, eval e X.env) :: starEach es X.env := by rfl) (hpl : (backTo pos' (starEach es X.env)).any (·.1) = false := by rfl)
    (ht : eval (.Call (.Attribute o m apos) (e :: es) [] pos') X.env = (do
      let ov ← eval o X.env
      standAt apos.atName
      let (f, first) ← holding [ov] (getMethod ov m pl)
      callWith pos' f first (backTo pos' (starEach (e :: es) X.env)) (backToKw pos' (keywordEach [] X.env))) := by rfl) :
    PGenR X k (.Call (.Attribute o m apos) (e :: es) [] pos') (tMethGR C m sp ta t) := by
  obtain ⟨f, fd, hm, F, G, b⟩ := D.ex
  refine ⟨fun pins s σ H E I h => ?_⟩
  refine PySem.W.methodCall_KW (pl := pl) (thn (he.run pins s σ H _ I h) fun u s1 ⟨x, H1, I1, rx, a, dx, fs, ex, ea, l, q⟩ => ?_) ht
  subst ex
  obtain rfl : u = Value.ref a := rx
  refine getmeth_ok I1 ea T hm l ?_
  refine PySem.W.callWith_K (first := [.ref a]) (h₀ := X.base) I.ok.mod.kin hm.kp (thn (ha.run pos' pins s1 σ H1 _ I1 q) fun us s2 ⟨vs, H2, I2, r, q2⟩ => ⟨I2.kIn, ?_⟩) hst hpl
  have r2 : Vals (V.ref a :: vs) (Value.ref a :: us) := .cons rfl r
  refine wpAny_call (codeAny_mono (G.run X.A X.stack s2 H2 ⟨.ref a :: us, []⟩ (.ref a :: us) (.ref a :: vs) E hr I2.env0 (binds0 b r2 (G.len _ _ _ q2) I2.kIn) r2 q2) fun r s' hq => ?_)
  cases r with
  | error e => exact False.elim hq
  | ok fl =>
    cases fl with
    | ret u => exact ⟨H2, s2, I2, hq⟩
    | next => exact False.elim hq
    | brk => exact False.elim hq
    | cont => exact False.elim hq
theorem ps_forGRM {sp : SpR} {W : WX} {pl : Sem Bool} {tg : Expr} {body : List Stmt} (hp : PassesOwn (model X.prog X.w) X.A X.env X.xe) (hc : X.calm = true) (tkn : Takes X W) (he : PE X o ta) (T : Cls X.K C) (D : MGRAt X.prog X.w X.K X.mg X.base C m qual st k ps sp) (hr : Room (k + 3) X.A) (ha : PA X (e :: es) t)
    (hst : starEach (e :: es) X.env = (false, eval e X.env) :: starEach es X.env := by rfl) (hpl : (backTo pos' (starEach es X.env)).any (·.1) = false := by rfl)
    (ht : eval (.Call (.Attribute o m apos) (e :: es) [] pos') X.env = (do
      let ov ← eval o X.env
      standAt apos.atName
      let (f, first) ← holding [ov] (getMethod ov m pl)
      callWith pos' f first (backTo pos' (starEach (e :: es) X.env)) (backToKw pos' (keywordEach [] X.env))) := by rfl)
    (hs : ∀ x, foldedSetIterable (.Call (.Attribute o m apos) (e :: es) [] pos') X.env x = pure x := by intro _; rfl) :
    PS X (.For tg (.Call (.Attribute o m apos) (e :: es) [] pos') body [] pos) (tForGR X.K (tMethGR C m sp ta t) W) :=
  ps_forGR hp hc tkn (pgenR_meth he T D (hr.mono (by omega)) ha hst hpl ht) hr hs
theorem kc_forGR {K : PySem.W.Frag} {st : Stmt} {tg : TGr} {W : WX} (h : PS X st (tForGR X.K tg W)) (q : X.K = K) : PS X st (tForGR K tg W) := q ▸ h
/-! ### classmethods, classes held in a local -/
structure CMethAt (K : PySem.W.Frag) (C : Addr) (m qual : Str) (st : Stmt) : Prop where
  ex : ∃ p g fd mc, ClX.CRead K C mc ∧ ClX.CMet K C mc m p g ∧ Fun K m qual st g fd
structure CMDefAtX (P : Program) (w : World) (K : PySem.W.Frag) (mg : Str → Option Value) (base : Heap) (C : Addr) (m qual : Str) (st : Stmt) (k : Nat) (ps : List Str) (sp : Sp) : Prop where
  ex : ∃ p g fd mc, ClX.CRead K C mc ∧ ClX.CMet K C mc m p g ∧ Fun K m qual st g fd ∧ FnOk P w K mg base (L2.CX P w) k g fd ps sp ∧ Binds K fd ps []
theorem CMethAt.okX {P : Program} {w : World} {K : PySem.W.Frag} {mg : Str → Option Value} {base : Heap} {N : List Str} {sp : Sp} (F : CMethAt K C m qual st) (S : FnScope N ps (defScope st)) (len : ∀ vs H Q E, sp vs H Q E → vs.length = ps.length)
    (hb : ∀ (kV doc pm : Value) (an : Option Addr) (cdv ct : Value) (us : List Value), us.length = ps.length → bindArgs (PySem.W.fnOf m qual (defArgs st) (defBody st) (defScope st) .none kV doc pm an cdv ct) ⟨us, []⟩ = pure (ps.zip us))
    (hbody : ∀ (f : Addr) (cdv : Value) (A : Around) (outer : List Env) (s : Shared) (H : Hp) (vs : List V) (Q : VK) (E : XK), Room k (A.deeper (envOfC qual (defScope st) s.heap.objs.size f cdv)) → sp vs H Q E →
      ∃ t, PSs (cxOf (L2.CX P w) P w K mg base N qual (defScope st) f cdv A outer s H E) (defBody st) t ∧ t { nx := fun _ H' => Q .non H', rt := Q } (start N vs) H) : CMDefAtX P w K mg base C m qual st (k + 1) ps sp := by
  obtain ⟨p, g, fd, mc, h1, h2, F⟩ := F.ex
  exact ⟨p, g, fd, mc, h1, h2, F, F.okX S len (fun cdv A outer s H vs Q E hr h => hbody g cdv A outer s H vs Q E hr h), F.binds hb⟩
def CMetE (C : Addr) (t : TA) (R : V → List V → Hp → Prop) (σ : L2.St) : V → Hp → Prop := fun x H1 => x = .ref C ∧ t σ H1 (R (.ref C))
def tCMethX (C : Addr) (sp : Sp) (W : WX) (ta : TE) (t : TA) : TE := fun σ H Q => ta σ H (CMetE C t (MRunXE sp W σ Q) σ)
theorem pe_cmethX {sp : Sp} {W : WX} {pl : Sem Bool} (he : PE X o ta) (D : CMDefAtX X.prog X.w X.K X.mg X.base C m qual st k ps sp) (hr : Room k X.A) (tkn : Takes X W) (ha : PA X (e :: es) t)
    (hst : starEach (e :: es) X.env = (false, eval e X.env) :: starEach es X.env := by rfl) (hpl : (backTo pos (starEach es X.env)).any (·.1) = false := by rfl)
    (ht : eval (.Call (.Attribute o m apos) (e :: es) [] pos) X.env = (do
      let ov ← eval o X.env
      standAt apos.atName
      let (f, first) ← holding [ov] (getMethod ov m pl)
      callWith pos f first (backTo pos (starEach (e :: es) X.env)) (backToKw pos (keywordEach [] X.env))) := by rfl) :
    PE X (.Call (.Attribute o m apos) (e :: es) [] pos) (tCMethX C sp W ta t) := by
  obtain ⟨p, g, fd, mc, r, c, F, G, b⟩ := D.ex
  refine ⟨fun pins s σ H Q I h => ?_⟩
  refine PySem.W.methodCall_KW (pl := pl) (thn (he.run pins s σ H _ I h) fun u s1 ⟨x, H1, I1, rx, ex, q⟩ => ?_) ht
  subst ex
  obtain rfl : u = Value.ref C := rx
  refine ClX.getmethcm_ok I1 r c fun s2 I2 => ?_
  refine ClX.callwith_cm I2 (ClX.base_none I1 (Nat.le_refl _)) c.fi (thn (ha.run pos _ s2 σ H1 _ I2 q) fun us s3 ⟨vs, H2, I3, rv, q2⟩ => ⟨⟨ClX.pin_at I3, I3.kIn⟩, ?_⟩) hst hpl
  have r2 : Vals (V.ref C :: vs) (Value.ref C :: us) := .cons rfl rv
  have z : wpAny (model X.prog X.w) X.A (call (.ref s1.heap.objs.size) us) (EP X ((s1.heap.objs.size, PySem.W.methodObj (.ref g) (.ref C)) :: pins) σ Q) X.xe s3 := by
    refine wpAny_call (PySem.W.method_call (ClX.pin_at I3) (codeAny_mono (G.run X.A X.stack s3 H2 ⟨.ref C :: us, []⟩ (.ref C :: us) (.ref C :: vs) Q _ hr I3.env0 (binds0 b r2 (G.len _ _ _ _ q2) I3.kIn) r2 q2) fun q s' hq => ?_))
    cases q with
    | error e => exact (L2.passAt tkn σ) _ H2 s3 e s' I3 hq
    | ok fl =>
      cases fl with
      | ret u => exact I3.after hq
      | next => exact False.elim hq
      | brk => exact False.elim hq
      | cont => exact False.elim hq
  exact thn z fun _ _ y => ClX.unpinE y
def tMakeLX (i : Nat) (C : Addr) (sp : Sp) (W : WX) (t : TA) : TE := fun σ H Q => σ[i]? = some (some (.ref C)) ∧ tMakeX C sp W t σ H Q
theorem pe_makeLX {sp : Sp} {W : WX} (hv : PE X (.Name x p) (tVar i)) (T : ClsAt X.K X.mg y C) (D : MDefAtX X.prog X.w X.K X.mg X.base C "__init__" qual st k ps sp) (hr : Room (k + 1) X.A) (tkn : Takes X W) (ha : PA X (e :: es) t)
    (he : starEach (e :: es) X.env = (false, eval e X.env) :: starEach es X.env := by rfl) (hpl : (backTo pos (starEach es X.env)).any (·.1) = false := by rfl) :
    PE X (.Call (.Name x p) (e :: es) [] pos) (tMakeLX i C sp W t) := by
  obtain ⟨f, fd, hm, F, G, b⟩ := D.ex
  refine ⟨fun pins s σ H Q I h => ?_⟩
  obtain ⟨hs, h⟩ := h
  refine wpAny_Call_Name_kw (thn (hv.run pins s σ H (fun v H1 => v = .ref C ∧ H1 = H) I ⟨.ref C, hs, rfl, rfl⟩) fun u s1 ⟨v, H1, I1, r1, q1⟩ => ?_)
  obtain ⟨rfl, rfl⟩ := q1
  obtain rfl : u = Value.ref C := r1
  refine PySem.W.callWith_K (h₀ := X.base) I.ok.mod.kin T.kp (thn (ha.run pos pins s1 σ _ _ I1 h) fun us s2 ⟨vs, H2, I2, r, q⟩ => ⟨I2.kIn, ?_⟩) he hpl
  refine run_makeAt (us := us) ⟨T.mks, hm.at_, hm.fn, T.kp⟩ G hr (L2.passAt tkn σ) I2 (fun s' a hl hk => ?_) r q
  have r2 : Vals (V.ref a :: vs) (Value.ref a :: us) := .cons rfl r
  exact binds0 b r2 hl hk
end
section
variable {D : Ends} {σ : L2.St} {H : Hp} {K : PySem.W.Frag} {sp : Sp} {sr : SpR} {W : WX} {E : XK} {Q : VK} {C a : Addr} {m : Str} {i : Nat} {ta : TE} {t : TA} {tg : TGr} {y : V}
theorem w_forGR (h : tg σ H fun cls d H' => PySem.W.subIn K cls (.type "StopIteration") = some false ∧ W cls d σ H') : tForGR K tg W D σ H := h
theorem w_methGR (h : ta σ H (MethXE C m t (GRunR sr E) σ)) : tMethGR C m sr ta t σ H E := h
theorem w_grunR {vs : List V} (h : sr (y :: vs) H E) : GRunR sr E y vs H := h
theorem w_cmetX (h : ta σ H (CMetE C t (MRunXE sp W σ Q) σ)) : tCMethX C sp W ta t σ H Q := h
theorem w_cmetE {R : V → List V → Hp → Prop} (h : t σ H (R (.ref C))) : CMetE C t R σ (.ref C) H := ⟨rfl, h⟩
theorem w_makeLX (e : σ[i]? = some (some (.ref C))) (h : tMakeX C sp W t σ H Q) : tMakeLX i C sp W t σ H Q := ⟨e, h⟩
end
end Pg


/-! lists of ints that are compared (<), lists of them that are sorted already -/
namespace Pg
open PySem PySem.Spec PyProof.Rows L2
theorem lexT : ∀ (xs ys : List Int), PyProof.Rows.lexLt itemOrd (PySem.W.keyToksAll (xs.map PyData.int)) (PySem.W.keyToksAll (ys.map PyData.int)) = HT.lexLt xs ys
  | [], [] => by decide
  | [], y :: ys => by
    rw [List.map_cons, PySem.W.keyToksAll, List.map_nil, PySem.W.keyToksAll]
    rfl
  | x :: xs, [] => by
    rw [List.map_cons, PySem.W.keyToksAll, List.map_nil, PySem.W.keyToksAll]
    rfl
  | x :: xs, y :: ys => by
    rw [List.map_cons, List.map_cons, HT.lexLt_cons]
    by_cases h : x = y
    · subst h
      rw [if_pos rfl, PySem.W.dataLt_all_yes (by rfl) (by simp [PyData.eqv])]
      exact lexT xs ys
    · rw [if_neg h, PySem.W.dataLt_all_no (by rfl) (by simp [PyData.eqv, h]), PySem.W.dataLt_int]
theorem dataLt_dI (xs ys : List Int) : PySem.W.dataLt (dI xs) (dI ys) = HT.lexLt xs ys := (PySem.W.dataLt_list _ _).trans (lexT xs ys)
theorem alike_ints : ∀ (xs ys : List Int), PySem.W.alikeAll (xs.map PyData.int) (ys.map PyData.int) = true
  | [], _ => by rw [List.map_nil, PySem.W.alikeAll]
  | x :: xs, [] => by rw [List.map_cons, List.map_nil, PySem.W.alikeAll]
  | x :: xs, y :: ys => by rw [List.map_cons, List.map_cons, PySem.W.alikeAll, alike_ints xs ys]; rfl
theorem alike_dI (xs ys : List Int) : PySem.W.alike (dI xs) (dI ys) = true := by
  show PySem.W.alike (.list _) (.list _) = true
  rw [PySem.W.alike]
  exact alike_ints xs ys
theorem depthAll_ints : ∀ xs : List Int, PyData.depthAll (xs.map PyData.int) ≤ 1
  | [] => by simp [PyData.depthAll]
  | x :: xs => by
    have := depthAll_ints xs
    simp only [List.map_cons, PyData.depthAll, PyData.depth]
    omega
theorem depth_dI (xs : List Int) : (dI xs).depth ≤ 4 := by
  have := depthAll_ints xs
  show PyData.depth (.list _) ≤ 4
  simp only [PyData.depth]
  omega
section
variable {X : Cx}
/-- xs < ys, lists of ints -/
def rLtL (K : PySem.W.Frag) : R2 := fun x y H Q => ∃ a b ns ms, x = .ref a ∧ y = .ref b ∧ SqL K H a (ns.map V.int) ∧ SqL K H b (ms.map V.int) ∧ Q (.bl (HT.lexLt ns ms)) H
theorem op_ltL (hu : X.A.units + 64 < cLine) : OpR X (compareOp .Lt) (rLtL X.K) := by
  intro pins s σ H x y v u Q I rx ry h
  obtain ⟨a, b, ns, ms, rfl, rfl, ha, hb, q⟩ := h
  obtain ⟨as, r1⟩ := Dp.reads I (dI ns) _ v (dp_ints ha) rx
  obtain ⟨bs, r2⟩ := Dp.reads I (dI ms) _ u (dp_ints hb) ry
  have d1 := depth_dI ns
  have hl := PySem.W.rcLt_alike (dI ns) (dI ms) X.A s v u as bs r1 r2 (alike_dI ns ms) (by intro z; cases z) (by omega)
  refine hl X.prog X.w _ _ ?_
  rw [dataLt_dI]
  exact ⟨.bl _, H, I, rfl, q⟩
theorem w_ltL {K : PySem.W.Frag} {H : Hp} {Q : VK} {a b : Addr} {ns ms : List Int} (ha : H a = some (.lst (ns.map V.int))) (hb : H b = some (.lst (ms.map V.int))) (q : Q (.bl (HT.lexLt ns ms)) H) : rLtL K (.ref a) (.ref b) H Q := ⟨a, b, ns, ms, rfl, rfl, SqL.of ha, SqL.of hb, q⟩
end
/-! ### the order -/
theorem lex_asym : ∀ (xs ys : List Int), HT.lexLt xs ys = true → HT.lexLt ys xs = false
  | [], [], h => by cases h
  | [], y :: ys, h => rfl
  | x :: xs, [], h => by cases h
  | x :: xs, y :: ys, h => by
    rw [HT.lexLt_cons] at h ⊢
    by_cases e : x = y
    · subst e
      rw [if_pos rfl] at h ⊢
      exact lex_asym xs ys h
    · rw [if_neg e] at h
      rw [if_neg (fun z => e z.symm)]
      have := of_decide_eq_true h
      exact decide_eq_false (by omega)
theorem lex_ntr : ∀ (xs ys zs : List Int), HT.lexLt ys xs = false → HT.lexLt zs ys = false → HT.lexLt zs xs = false
  | [], ys, zs, h1, h2 => by
    cases zs <;> rfl
  | x :: xs, [], zs, h1, h2 => by cases h1
  | x :: xs, y :: ys, [], h1, h2 => by cases h2
  | x :: xs, y :: ys, z :: zs, h1, h2 => by
    rw [HT.lexLt_cons] at h1 h2 ⊢
    by_cases e1 : y = x
    · subst e1
      rw [if_pos rfl] at h1
      by_cases e2 : z = y
      · subst e2
        rw [if_pos rfl] at h2 ⊢
        exact lex_ntr xs ys zs h1 h2
      · rw [if_neg e2] at h2 ⊢
        exact h2
    · rw [if_neg e1] at h1
      have := of_decide_eq_false h1
      by_cases e2 : z = y
      · subst e2
        rw [if_neg e1]
        exact h1
      · rw [if_neg e2] at h2
        have := of_decide_eq_false h2
        rw [if_neg (by omega)]
        exact decide_eq_false (by omega)
def liv (h : Heap) : Value → List Int
  | .ref a => match h.get? a with
    | some o => match o.data with
      | .seq items _ => items.toList.map SrtO.iv
      | _ => []
    | none => []
  | _ => []
theorem swo_liv (h : Heap) : SrtO.Swo fun v u => HT.lexLt (liv h v) (liv h u) := ⟨fun x y => lex_asym _ _, fun x y z => lex_ntr _ _ _⟩
theorem list_cmp {prog : Program} {w : World} {A : Around} {s : Shared} {h₀ : Heap} {vs : List Value} (hv : ∀ v ∈ vs, ∃ as, Reads s.heap v (dI (liv h₀ v)) as) (hu : A.units + 8 < cLine) :
    SrtO.Cmp prog w A s oneType' (fun p => p.1 ∈ vs) (SrtO.lt2 fun v u => HT.lexLt (liv h₀ v) (liv h₀ u)) := by
  intro p q hm hm'
  obtain ⟨as, r1⟩ := hv _ hm
  obtain ⟨bs, r2⟩ := hv _ hm'
  have d1 := depth_dI (liv h₀ p.1)
  show wpAny (model prog w) A (keyLt' oneType' p.1 q.1) (fun r s' => s' = s ∧ r = HT.lexLt (liv h₀ p.1) (liv h₀ q.1)) (fun _ _ => False) s
  rw [keyLt'_oneType]
  exact PySem.W.oneLt_alike (fun _ xs z => by cases z) r1 r2 (alike_dI _ _) (fun z => by cases z) (by omega) ⟨rfl, dataLt_dI _ _⟩
/-- sorted(xs) of lists of ints that are in order -/
def rSortedL (K : PySem.W.Frag) : List V → Hp → VK → Prop := fun vs H Q => ∃ (a : Addr) (ps : List Addr) (xss : List (List Int)), vs = [V.ref a] ∧ H a = some (.lst (ps.map V.ref)) ∧ ListsAt H ps xss ∧ xss.Pairwise (fun x y => HT.lexLt y x = false) ∧
  ∀ p, H p = none → Q (.ref p) (upd H p (.lst (ps.map V.ref)))
theorem iv_reads {h : Heap} : ∀ {xs : List Int} {us : List Value} {as : List Addr}, ReadsAll h us (xs.map PyData.int) as → us.map SrtO.iv = xs
  | [], us, as, r => by
    rw [List.map_nil] at r
    cases r
    rfl
  | x :: xs, us, as, r => by
    rw [List.map_cons] at r
    cases r with
    | cons r1 r2 =>
      cases r1
      rw [List.map_cons, iv_reads r2]
      rfl
theorem liv_reads {h : Heap} {v : Value} {xs : List Int} {as : List Addr} (r : Reads h v (dI xs) as) : liv h v = xs := by
  unfold dI at r
  cases r with
  | @list l o vs n _ as₁ h1 h2 h3 h4 =>
    unfold liv
    simp only [h1, h3]
    exact iv_reads h4
theorem reads_ref {h : Heap} {v : Value} {xs : List Int} {as : List Addr} (r : Reads h v (dI xs) as) : ∃ a o, v = .ref a ∧ h.get? a = some o ∧ o.cls = .type "list" := by
  unfold dI at r
  cases r with
  | @list l o vs n _ as₁ h1 h2 h3 h4 => exact ⟨l, o, rfl, h1, h2⟩
theorem cr_sortedL {X : Cx} (hu : X.A.units + 64 < cLine) : CallR X (.builtin "sorted") (rSortedL X.K) := by
  intro pins s σ H vs us Q I r h
  obtain ⟨a, ps, xss, rfl, hs, hx, hord, q⟩ := h
  obtain ⟨its, rv, hl, hz⟩ := I.list (SqL.of hs)
  rw [Vals.ref1 r]
  have hlen := hx.len
  have ilen : its.length = ps.length := by rw [← rv.length, List.length_map]
  have e2 : ∀ u ∈ its, ∃ a, u = Value.ref a := (refs_back rv fun x m => by
    obtain ⟨t, _, e⟩ := List.mem_map.mp m
    exact ⟨t, e.symm⟩).2
  have e1 := (refs_back rv fun x m => by
    obtain ⟨t, _, e⟩ := List.mem_map.mp m
    exact ⟨t, e.symm⟩).1
  have hrd : ∀ (j : Nat) (u : Value), its[j]? = some u → ∃ xs as, xss[j]? = some xs ∧ Reads s.heap u (dI xs) as := by
    intro j u hj
    have hjl := (List.getElem?_eq_some_iff.mp hj).1
    obtain ⟨t, ht⟩ : ∃ t, ps[j]? = some t := ⟨_, List.getElem?_eq_getElem (by omega)⟩
    obtain ⟨xs, hxs⟩ : ∃ xs, xss[j]? = some xs := ⟨_, List.getElem?_eq_getElem (by omega)⟩
    obtain ⟨u', hu', ru⟩ := rv.get (show (ps.map V.ref)[j]? = some (V.ref t) by rw [List.getElem?_map, ht]; rfl)
    obtain rfl : u' = u := Option.some.inj (hu'.symm.trans hj)
    obtain ⟨as, rr⟩ := Dp.reads I (dI xs) _ u' (dp_ints (SqL.of (hx.at_ j t xs ht hxs))) ru
    exact ⟨xs, as, hxs, rr⟩
  have hmem : ∀ u ∈ its, ∃ as, Reads s.heap u (dI (liv s.heap u)) as := by
    intro u hu
    obtain ⟨j, hj⟩ := List.mem_iff_getElem?.mp hu
    obtain ⟨xs, as, _, rr⟩ := hrd j u hj
    exact ⟨as, by rw [liv_reads rr]; exact rr⟩
  have hsort : SrtO.Srtd (fun v u => HT.lexLt (liv s.heap v) (liv s.heap u)) its := by
    refine List.pairwise_iff_getElem.mpr fun i j hi hj hij => ?_
    obtain ⟨xs, as, hxs, r1⟩ := hrd i _ (List.getElem?_eq_getElem hi)
    obtain ⟨ys, bs, hys, r2⟩ := hrd j _ (List.getElem?_eq_getElem hj)
    obtain ⟨hi2, e3⟩ := List.getElem?_eq_some_iff.mp hxs
    obtain ⟨hj2, e4⟩ := List.getElem?_eq_some_iff.mp hys
    have := List.pairwise_iff_getElem.mp hord i j hi2 hj2 hij
    rw [e3, e4] at this
    show HT.lexLt (liv s.heap its[j]) (liv s.heap its[i]) = false
    rw [liv_reads r1, liv_reads r2]
    exact this
  have hun : X.A.in1.in1.units + 8 < cLine := by
    have : X.A.in1.in1.units = X.A.units + 1 + 1 := rfl
    omega
  refine SrtO.sorted_ord (swo_liv s.heap) hl.isList (by rw [← rv.length]; exact hz) (fun h2 h₁ a' ha' kk h' keep => ?_) fun out h1 h2 => ?_
  · have kp : ∀ b o, s.heap.get? b = some o → h'.get? b = some o := fun b o e => keep b o (kk b o e).1 (kk b o e).2
    refine ⟨oneType', fun Q' E' hq => ?_, list_cmp (fun v hv => ?_) hun⟩
    · refine PySem.W.kas_kind (T := .type "list") h2 (fun v hv => ?_) (by decide +kernel) (by decide +kernel) hq
      obtain ⟨as, rr⟩ := hmem v hv
      obtain ⟨t, o, rfl, ho, hc⟩ := reads_ref rr
      exact hc ▸ (PySem.W.Looks.ld (kp _ _ ho)).andThen .now
    · obtain ⟨as, rr⟩ := hmem v hv
      exact ⟨as, Reads.keeps kp rr⟩
  · have eo : out = its := SrtO.stb_uniq (swo_liv s.heap) h1 hsort h2
    subst eo
    obtain ⟨ep, he'⟩ := PyProof.Rows.sortedAll_at s.heap out out.toArray
    exact ⟨.ref _, upd H (s.heap.objs.size + 1) (.lst (ps.map V.ref)), I.laid (t' := s.toks) (fun _ _ => PyProof.Rows.sortedAll_old) (Nat.le_succ _) ⟨hz, out, ep, rv, he'⟩, rfl, q _ (I.hok.fresh (Nat.le_succ _))⟩
theorem w_sortedL {K : PySem.W.Frag} {H : Hp} {Q : VK} {a : Addr} {ps : List Addr} {xss : List (List Int)} (h : H a = some (.lst (ps.map V.ref))) (hx : ListsAt H ps xss) (ho : xss.Pairwise (fun x y => HT.lexLt y x = false)) (q : ∀ p, H p = none → Q (.ref p) (upd H p (.lst (ps.map V.ref)))) : rSortedL K [.ref a] H Q := ⟨a, ps, xss, rfl, h, hx, ho, q⟩
end Pg

open PySem PySem.Spec PyProof.Rows L2 Pg
/-! ### steps -/
local macro_rules | `(tactic| walk_at "h") => `(tactic| with_reducible first
  | assumption
  | exact upd_same
  | (refine' at_make ?e3 ?n1 ?n2; (case n1 => assumption); (case n2 => assumption); (case e3 => walk_at "h"))
  | (refine' at_upd ?e3 ?n1; (case n1 => assumption); (case e3 => walk_at "h"))
  | (refine' Fr.at0 ?n1 ?e3; (case n1 => assumption); (case e3 => walk_at "h"))
  | (refine' Fr.at ?e1 (nn2 ?e2) ?e3; (case e1 => assumption); (case e2 => walk_at "n"); (case e3 => walk_at "h"))
  | (refine' Fr.at ?e1 (nn3 ?e2 ?e4) ?e3; (case e1 => assumption); (case e2 => walk_at "n"); (case e4 => walk_at "n"); (case e3 => walk_at "h"))
  | (refine' Eq.trans (upd_ne ?e2) ?e3; (case e2 => walk_at "n"); (case e3 => walk_at "h")))
local macro_rules | `(tactic| walk_at "n") => `(tactic| with_reducible first
  | assumption
  | exact Ne.symm (by assumption)
  | (refine' Ne.symm (ne_of_none ?e1 ?e2); (case e2 => assumption); (case e1 => walk_at "h"))
  | (refine' ne_of_none ?e1 ?e2; (case e2 => assumption); (case e1 => walk_at "h"))
  | (refine' ne_of ?e1 ?e2 ?e3; (case e1 => assumption); (case e2 => walk_at "h"); (case e3 => (first | exact ho_lst_tup | exact ho_lst_own | exact ho_lst_xd | exact ho_lst_dK | exact ho_lst_ins | exact ho_tup_lst | exact ho_tup_own | exact ho_tup_xd | exact ho_tup_dK | exact ho_tup_ins | exact ho_own_lst | exact ho_own_tup | exact ho_own_xd | exact ho_own_dK | exact ho_own_ins | exact ho_xd_lst | exact ho_xd_tup | exact ho_xd_own | exact ho_xd_dK | exact ho_xd_ins | exact ho_dK_lst | exact ho_dK_tup | exact ho_dK_own | exact ho_dK_xd | exact ho_dK_ins | exact ho_ins_lst | exact ho_ins_tup | exact ho_ins_own | exact ho_ins_xd | exact ho_ins_dK))))
local macro_rules | `(tactic| walk_at "f") => `(tactic| with_reducible first
  | assumption
  | exact Fr.refl
  | exact Fr.nil (by assumption)
  | (refine' Fr.make ?e1 ?e2 ?e3; (case e2 => assumption); (case e3 => assumption); (case e1 => walk_at "f"))
  | (refine' Fr.new ?e1 ?e2; (case e2 => assumption); (case e1 => walk_at "f"))
  | (refine' Fr.put ?e1 (Or.inr ?e2); (case e2 => exact List.mem_singleton_self _); (case e1 => walk_at "f"))
  | (refine' Fr.put ?e1 (Or.inr ?e2); (case e2 => exact mem2a); (case e1 => walk_at "f"))
  | (refine' Fr.put ?e1 (Or.inr ?e2); (case e2 => exact mem2b); (case e1 => walk_at "f"))
  | (refine' Fr.put ?e1 (Or.inl ?e2); (case e2 => walk_at "z"); (case e1 => walk_at "f"))
  | (refine' Fr.trans ?e1 ?e2; (case e2 => assumption); (case e1 => walk_at "f"))
  | (refine' Fr.then ?e1 ?e2; (case e2 => assumption); (case e1 => walk_at "f"))
  | (refine' Fr.loc ?e1 ?e2 ?e3; (case e3 => assumption); (case e2 => walk_at "z"); (case e1 => walk_at "f"))
  | (refine' Fr.loc2 ?e1 ?e2 ?e4 ?e3; (case e3 => assumption); (case e2 => walk_at "z"); (case e4 => walk_at "z"); (case e1 => walk_at "f")))
local macro_rules | `(tactic| walk_at "z") => `(tactic| with_reducible first
  | assumption
  | (refine' Fr.free ?e1 (nn2 ?e2) ?e3; (case e3 => assumption); (case e1 => walk_at "f"); (case e2 => walk_at "n"))
  | (refine' Fr.free ?e1 (nn3 ?e2 ?e4) ?e3; (case e3 => assumption); (case e1 => walk_at "f"); (case e2 => walk_at "n"); (case e4 => walk_at "n"))
  | (refine' Fr.free (S := []) ?e1 List.not_mem_nil ?e3; (case e3 => assumption); (case e1 => walk_at "f")))
local macro_rules | `(tactic| walk_at "k") => `(tactic| first
  | with_reducible assumption
  | ((with_reducible refine' hx_of ?a1 ?a0); (case a1 => walk_at "h"); (case a0 => with_reducible exact rfl)))
local macro_rules | `(tactic| walk_at "1") => `(tactic| first
  | with_reducible refine w_seq ?_
  | with_reducible refine w_asg ?_
  | with_reducible refine w_gname ?_
  | with_reducible refine w_ret ?_
  | with_reducible refine w_drop ?_
  | with_reducible refine w_ifS ?_
  | with_reducible refine w_c ?_
  | ((with_reducible refine' w_var ?e1 ?_); (case e1 => exact rfl))
  | with_reducible refine w_op ?_
  | with_reducible refine w_I0 ?_
  | with_reducible refine w_eqI ?_
  | with_reducible refine w_neI ?_
  | with_reducible refine w_nil ?_
  | with_reducible refine w_cons ?_
  | with_reducible refine w_call ?_
  | with_reducible refine w_CB ?_
  | with_reducible refine w_test ?_
  | with_reducible refine w_tB ?_
  | with_reducible refine w_exbl ?_
  | with_reducible refine w_not ?_
  | with_reducible refine w_and ?_
  | with_reducible refine w_or ?_
  | with_reducible refine w_if ?_
  | with_reducible refine w_next ?_
  | with_reducible refine w_retN ?_
  | with_reducible refine w_iteF ?_
  | with_reducible refine w_iteT ?_
  | with_reducible refine w_iteNT ?_
  | with_reducible refine w_iteNF ?_
  | ((with_reducible refine w_iteP ?e1 ?_); (case e1 => with_reducible first | exact rfl | assumption))
  | ((with_reducible refine w_iteNP ?e1 ?_); (case e1 => with_reducible first | exact rfl | assumption))
  | ((with_reducible refine w_iteQ ?e1 ?_); (case e1 => with_reducible assumption))
  | ((with_reducible refine w_iteNQ ?e1 ?_); (case e1 => with_reducible assumption))
  | with_reducible refine w_lst ?_
  | with_reducible refine w_tup ?_
  | with_reducible refine w_bm ?_
  | with_reducible refine w_bm0 ?_
  | with_reducible refine w_chain ?_
  | with_reducible refine w_sub ?_
  | with_reducible refine w_un ?_
  | with_reducible refine w_U ?_
  | with_reducible refine w_par ?_
  | with_reducible refine w_parE ?_
  | with_reducible refine w_par3 ?_
  | with_reducible refine w_par3E ?_
  | ((with_reducible refine' w_aug ?e1 ?_); (case e1 => exact rfl))
  | with_reducible refine w_ipI ?_
  | ((with_reducible refine' w_ipM ?e1 ?_); (case e1 => walk_at "c"))
  | with_reducible refine w_fld ?_
  | with_reducible refine w_tfld ?_
  | ((with_reducible refine' w_powW ?e1 ?_); (case e1 => walk_at "c"); (try dsimp only [Int.reduceToNat, Int.reducePow]))
  | ((with_reducible refine' w_I ?e1 ?_); (case e1 => walk_at "c"))
  | ((with_reducible refine' w_ixL (SqL.of ?e1) ?e2 ?_); (case e1 => walk_at "k"); (case e2 => exact rfl))
  | ((with_reducible refine' w_ixT (SqT.of ?e1) ?e2 ?_); (case e1 => walk_at "k"); (case e2 => exact rfl))
  | ((with_reducible refine' w_setL ?e1 ?e2 ?_); (case e1 => walk_at "k"); (case e2 => exact rfl))
  | ((with_reducible refine' w_ixLi (SqL.of ?e1) ?e2 ?e3 ?e4 ?_); (case e1 => walk_at "k"); (case e2 => exact rfl); (case e3 => omega); (case e4 => (simp only [unV, List.length_cons, List.length_nil]; omega)); intro n hn; simp only [unV, List.mem_cons, List.not_mem_nil, or_false] at hn)
  | ((with_reducible refine' w_ixTi (SqT.of ?e1) ?e2 ?e3 ?e4 ?_); (case e1 => walk_at "k"); (case e2 => exact rfl); (case e3 => omega); (case e4 => (simp only [unV, List.length_cons, List.length_nil]; omega)); intro n hn; simp only [unV, List.mem_cons, List.not_mem_nil, or_false] at hn)
  | ((with_reducible refine' w_ixLast (SqL.of ?e1) ?e3 ?_); (case e1 => walk_at "k"); (case e3 => assumption); intro ini n hn)
  | ((with_reducible refine' w_ixLm (SqL.of ?e1) ?e3 ?e4 ?_); (case e1 => walk_at "k"); (case e3 => omega); (case e4 => (first | omega | (simp only [List.length_append, List.length_cons, List.length_nil, List.length_set]; omega))); intro n hn)
  | ((with_reducible refine' w_lenI (SqL.of ?e1) ?_); (case e1 => walk_at "k"))
  | ((with_reducible refine' w_len (SqL.of ?e1) ?_); (case e1 => walk_at "k"))
  | ((with_reducible refine' w_tyL ?e1 ?_); (case e1 => walk_at "k"))
  | ((with_reducible refine' w_appendI ?e1 ?e2 ?_); (case e1 => walk_at "k"); (case e2 => omega))
  | with_reducible refine w_max2 ?_
  | with_reducible refine w_min2 ?_
  | with_reducible refine w_abs ?_
  | with_reducible refine w_intI ?_
  | with_reducible refine w_intB ?_
  | ((with_reducible refine' w_sum (SqL.of ?e1) ?_); (case e1 => walk_at "k"))
  | ((with_reducible refine' w_neNil (SqL.of ?e1) (SqL.of ?e2) ?_); (case e2 => walk_at "k"); (case e1 => walk_at "k"))
  | ((with_reducible refine' w_eqNil (SqL.of ?e1) (SqL.of ?e2) ?_); (case e2 => walk_at "k"); (case e1 => walk_at "k"))
  | ((with_reducible refine' w_eqLI (SqL.of ?e1) (SqL.of ?e2) ?_); (case e1 => walk_at "k"); (case e2 => walk_at "k"))
  | ((with_reducible refine' w_neLI (SqL.of ?e1) (SqL.of ?e2) ?_); (case e1 => walk_at "k"); (case e2 => walk_at "k"))
  | with_reducible refine w_for ?_
  | with_reducible refine w_lc ?_
  | with_reducible refine w_iList ?_
  | with_reducible refine w_iTup ?_
  | ((with_reducible refine' w_iTupE (SqT.of ?e1) ?_); (case e1 => walk_at "k"))
  | with_reducible refine w_rng1 ?_
  | with_reducible refine w_rng2 ?_
  | ((with_reducible refine' w_iListE (SqL.of ?e1) ?_); (case e1 => walk_at "k"))
  | ((with_reducible refine w_rng1E ?_ ?_ ?_); omega; omega)
  | ((with_reducible refine w_rng2E ?_ ?_); omega)
  | with_reducible refine w_fldaug ?_
  | ((with_reducible refine' w_fldP ?e1 ?e2 ?e3 ?e4 ?e5 ?_); (case e1 => walk_at "k"); (case e2 => assumption); (case e3 => assumption); (case e4 => exact Nat.le_of_ble_eq_true rfl); (case e5 => walk_at "fl"))
  | ((with_reducible refine' w_fldA ?e1 ?e2 ?e3 ?e5 ?_); (case e1 => walk_at "k"); (case e2 => assumption); (case e3 => assumption); (case e5 => walk_at "fl"))
  | ((with_reducible refine' w_fldQ ?e1 ?e4 ?e5 ?_); (case e1 => walk_at "k"); (case e4 => exact Nat.le_of_ble_eq_true rfl); (case e5 => walk_at "fl"))
  | ((with_reducible refine' w_fldG ?e1 ?e2 ?e3 ?e5 ?_); (case e1 => walk_at "k"); (case e2 => assumption); (case e3 => assumption); (case e5 => walk_at "fl"))
  | with_reducible refine w_meth ?_
  | ((with_reducible refine' w_methE ?e1 ?e5 ?_); (case e1 => walk_at "k"); (case e5 => walk_at "fl"))
  | with_reducible refine w_prop ?_
  | ((with_reducible refine' w_propE ?e1 ?_); (case e1 => walk_at "k"))
  | with_reducible refine w_make ?_
  | with_reducible refine w_rAdd ?_
  | with_reducible refine w_rSub ?_
  | ((with_reducible refine' w_listof (SqL.of ?e1) ?_); (case e1 => walk_at "k"); intro p np)
  | with_reducible refine w_tYes ?_
  | ((with_reducible refine' w_appEI ?e1 ?e2 ?_); (case e1 => walk_at "k"); (case e2 => omega))
  | ((with_reducible refine' w_appEB ?e1 ?e2 ?_); (case e1 => walk_at "k"); (case e2 => omega))
  | with_reducible refine w_whT ?_
  | with_reducible refine w_lenSet ?_
  | ((with_reducible refine' w_lenSE (SqL.of ?e1) ?e2 ?_); (case e1 => walk_at "k"); (case e2 => omega))
  | ((with_reducible refine' w_isi ?e1 ?e2 ?_); (case e1 => (first | exact .base (.int _) | exact .base .non | exact .base (.bl _) | exact .base (.str _) | (refine' tyx_lst ?f1; (case f1 => walk_at "k")) | (refine' tyx_tup ?f1; (case f1 => walk_at "k")))); (case e2 => (first | exact kit_ty (r := true) (by decide +kernel) | exact kit_ty (r := false) (by decide +kernel))))
  | with_reducible refine w_sortKw ?_
  | ((with_reducible refine' w_sortedKw (SqL.of ?e1) ?_); (case e1 => walk_at "k"); intro ns' p hperm hord np)
  | ((with_reducible refine' w_sortedI (SqL.of ?e1) ?_); (case e1 => walk_at "k"); intro ns' p hperm hord np)
  | ((with_reducible refine' w_extendI ?e1 ?e2 ?e3 ?_); (case e1 => walk_at "k"); (case e2 => walk_at "k"); (case e3 => (first | omega | (simp only [List.length_replicate]; omega))))
  | ((with_reducible refine' w_rep1 ?e1 ?e2 ?e3 ?_); (case e1 => walk_at "k"); (case e2 => omega); (case e3 => omega); intro p np)
  | ((with_reducible refine' w_maxL (SqL.of ?e1) ?e2 ?_); (case e1 => walk_at "k"); (case e2 => (first | omega | (simp; done))); intro m hm hle)
  | ((with_reducible refine' w_minL (SqL.of ?e1) ?e2 ?_); (case e1 => walk_at "k"); (case e2 => (first | omega | (simp; done))); intro m hm hle)
  | ((with_reducible refine' w_catI ?e1 ?e2 ?e3 ?_); (case e1 => walk_at "k"); (case e2 => walk_at "k"); (case e3 => (first | omega | (simp only [List.length_replicate]; omega))); intro p np)
  | ((with_reducible refine' w_catIL ?e1 ?e2 ?e3 ?e4 ?_); (case e1 => walk_at "k"); (case e2 => walk_at "k"); (case e3 => exact rfl); (case e4 => (simp only [unV, List.length_cons, List.length_nil]; omega)); intro p np; dsimp only [unV])
  | ((with_reducible refine' w_catLI ?e1 ?e2 ?e3 ?e4 ?_); (case e1 => walk_at "k"); (case e2 => walk_at "k"); (case e3 => exact rfl); (case e4 => (simp only [unV, List.length_cons, List.length_nil]; omega)); intro p np; dsimp only [unV])
  | with_reducible refine w_callK0 ?_
  | ((with_reducible refine w_kwE ?e1 ?_); (case e1 => exact rfl))
  | with_reducible refine w_makeK ?_
  | ((with_reducible refine w_mkE ?e1 ?_); (case e1 => exact rfl))
  | with_reducible refine w_methK ?_
  | ((with_reducible refine' w_methKE ?e1 ?e5 ?_); (case e1 => walk_at "k"); (case e5 => walk_at "fl"))
  | ((with_reducible refine w_mkwE ?e1 ?_); (case e1 => exact rfl))
  | with_reducible refine w_enum ?_
  | with_reducible refine w_zip ?_
  | with_reducible refine w_gNil ?_
  | with_reducible refine w_gCons ?_
  | ((with_reducible refine' w_gTup (SqT.of ?e1) ?e2 ?_); (case e1 => walk_at "k"); (case e2 => exact rfl))
  | ((with_reducible refine' w_gLst (SqL.of ?e1) ?e2 ?_); (case e1 => walk_at "k"); (case e2 => exact rfl))
  | ((with_reducible refine' w_enumE (SqL.of ?e1) ?_); (case e1 => walk_at "k"))
  | ((with_reducible refine' w_zipE (SqL.of ?e1) (SqL.of ?e2) ?_); (case e1 => walk_at "k"); (case e2 => walk_at "k"))
  | with_reducible refine w_dget ?_
  | ((with_reducible refine' w_dgetE ?e1 ?e5 ?_); (case e1 => walk_at "k"); (case e5 => walk_at "dl"))
  | with_reducible refine w_dput ?_
  | ((with_reducible refine' w_dputE ?e1 ?e4 ?e5 ?_); (case e1 => walk_at "k"); (case e4 => exact Nat.le_of_ble_eq_true rfl); (case e5 => walk_at "dl"))
  | with_reducible refine w_daug ?_
  | ((with_reducible refine' w_daugE ?e1 ?e5 ?_); (case e1 => walk_at "k"); (case e5 => walk_at "dl"))
  | (with_reducible refine w_disp ?_; intro p np)
  | with_reducible refine w_pairN ?_
  | (with_reducible refine w_dnewK ?_; intro p np)
  | with_reducible refine w_dnotIn ?_
  | ((with_reducible refine' w_dnotInE ?e1 ?_); (case e1 => walk_at "k"))
  | with_reducible refine w_pairC ?_
  | ((with_reducible refine' w_dspE ?e1 ?e2 ?e3 ?e4 ?_); (case e1 => walk_at "k"); (case e2 => exact rfl); (case e3 => exact Nat.le_of_ble_eq_true rfl); (case e4 => walk_at "dn"))
  | ((with_reducible refine' w_pop0 ?e1 ?_); (case e1 => walk_at "k"))
  | ((with_reducible refine' w_reprI (log_lt ?e1) ?_); (case e1 => omega))
  | with_reducible refine w_eqS ?_
  | with_reducible refine w_eqB ?_
  | with_reducible refine w_neB ?_
  | with_reducible refine w_neS ?_
  | with_reducible refine w_sl ?_
  | with_reducible refine w_noPart ?_
  | with_reducible refine w_part ?_
  | with_reducible refine w_partE ?_
  | ((with_reducible refine' w_slI (SqL.of ?e1) ?_); (case e1 => walk_at "k"); intro p np)
  | ((with_reducible refine' w_lcount (SqL.of ?e1) ?_); (case e1 => walk_at "k"))
  | ((with_reducible refine' w_popAt ?e1 ?e2 ?e3 ?e4 ?_); (case e1 => walk_at "k"); (case e2 => omega); (case e3 => omega); (case e4 => omega); intro n hn)
  | ((with_reducible refine' w_setLI ?e1 ?e2 ?e3 ?_); (case e1 => walk_at "k"); (case e2 => omega); (case e3 => (first | omega | (simp only [List.length_set]; omega))))
  | ((with_reducible refine' w_catLL ?e1 ?e2 ?e3 ?e4 ?e5 ?_); (case e1 => walk_at "k"); (case e2 => walk_at "k"); (case e3 => exact rfl); (case e4 => exact rfl); (case e5 => exact Nat.le_of_ble_eq_true rfl); intro p np; dsimp only [unV])
  | with_reducible refine w_andV ?_
  | with_reducible refine w_orV ?_
  | with_reducible refine w_notV ?_
  | with_reducible refine w_revL ?_
  | ((with_reducible refine' w_revE (SqL.of ?e1) ?_); (case e1 => walk_at "k"); intro p np)
  | with_reducible refine w_gThen ?_
  | with_reducible refine w_gWh ?_
  | with_reducible refine w_listG ?_
  | with_reducible refine w_callG ?_
  | (with_reducible refine w_listGE ?_; intro p np)
  | with_reducible refine w_gPlain ?_
  | ((with_reducible refine w_gYield ?_ ?_); omega)
  | with_reducible refine w_g0 ?_
  | with_reducible refine w_at ?_
  | with_reducible refine w_rng3 ?_
  | ((with_reducible refine' w_appendR ?e1 ?e2 ?_); (case e1 => walk_at "k"); (case e2 => omega))
  | ((with_reducible refine w_rng3N ?_ ?_); omega)
  | with_reducible refine w_sls ?_
  | with_reducible refine w_isNN ?_
  | with_reducible refine w_isNI ?_
  | with_reducible refine w_isNR ?_
  | with_reducible refine w_notNN ?_
  | with_reducible refine w_notNI ?_
  | with_reducible refine w_notNR ?_
  | with_reducible refine w_orT ?_
  | with_reducible refine w_orN ?_
  | ((with_reducible refine' w_orI ?e1 ?_); (case e1 => omega))
  | ((with_reducible refine' w_rep3 ?e1 ?_); (case e1 => walk_at "k"); intro p np)
  | ((with_reducible refine' w_appV ?e1 ?e2 ?_); (case e1 => walk_at "k"); (case e2 => exact Nat.le_of_ble_eq_true rfl))
  | refine ⟨szle rfl, fun p np => ?_⟩)
local macro_rules | `(tactic| walk_at "g") => `(tactic| repeat walk_at "1")
local macro_rules | `(tactic| walk_at "H") => `(tactic| first | walk_at "k" | fail "heap")
local macro_rules | `(tactic| walk_at "F") => `(tactic| first | walk_at "f" | fail "frame")
local macro_rules | `(tactic| walk_at "Z") => `(tactic| first | walk_at "z" | fail "free")
local macro_rules | `(tactic| walk_at "N") => `(tactic| first | walk_at "n" | fail "differ")
local macro_rules | `(tactic| walk_at "P") => `(tactic| first | walk_at "p" | fail "pool")
local macro_rules | `(tactic| walk_at "G") => `(tactic| first | walk_at "1" | fail "step")
local macro_rules | `(tactic| walk_at "c") => `(tactic| first
  | with_reducible assumption
  | ((with_reducible refine wide_div (b := 400) ?_ ?_ (by decide) (by decide)) <;> omega)
  | ((with_reducible refine wide_mul (a := 400) (b := 400) ?_ ?_ (by decide) (by decide) (by decide)) <;> omega)
  | ((with_reducible refine CPowW.of 400 (by decide) ?_ (by decide) (by decide)); omega)
  | ((with_reducible show (0 : Int) < _); first | decide | omega))
/-! ### steps about exceptions -/
local macro_rules | `(tactic| walk_at "1") => `(tactic| first
  | with_reducible refine w_try ?_
  | with_reducible refine w_callX ?_
  | with_reducible refine w_callXE ?_
  | with_reducible refine w_callXK ?_
  | ((with_reducible refine w_kwXE ?e1 ?_); (case e1 => exact rfl))
  | with_reducible refine w_methX ?_
  | with_reducible refine w_methXK ?_
  | ((with_reducible refine' w_methXE ?e1 ?e5 ?_); (case e1 => walk_at "k"); (case e5 => walk_at "fl"))
  | with_reducible refine w_mrunXE ?_
  | ((with_reducible refine w_mkwXE ?e1 ?_); (case e1 => exact rfl))
  | with_reducible refine w_makeX ?_
  | with_reducible refine w_makeXE ?_
  | with_reducible refine w_makeXK ?_
  | ((with_reducible refine w_makeXKE ?e1 ?_); (case e1 => exact rfl))
  | with_reducible refine w_raise ?_
  | with_reducible refine w_veI ?_
  | with_reducible refine w_ost ?_
  | with_reducible refine w_xfH ?_
  | ((with_reducible refine' w_xfE ?e1 ?e2 ?e3 ?_); (case e1 => walk_at "k"); (case e2 => walk_at "k"); (case e3 => walk_at "xa"))
  | ((with_reducible refine' w_isE ?e1 ?e2 ?e3 ?e4 ?e5 ?_); (case e1 => walk_at "k"); (case e2 => walk_at "k"); (case e3 => walk_at "xa"); (case e4 => (first | exact .ty _ | exact .own _)); (case e5 => walk_at "ki"))
  | ((with_reducible refine' w_isET ?e0 ?e1 ?e2 ?e3 ?e4 ?e5 ?_); (case e0 => walk_at "k"); (case e1 => walk_at "k"); (case e2 => walk_at "k"); (case e3 => walk_at "xa"); (case e4 => walk_at "cl"); (case e5 => walk_at "ka"))
  | ((with_reducible refine' w_listofT (SqT.of ?e1) ?_); (case e1 => walk_at "k"); intro p np)
  | ((with_reducible refine w_caught ?e1 ?_); (case e1 => walk_at "ex"); intro ca nca))
local macro_rules | `(tactic| walk_at "cl") => `(tactic| with_reducible first
  | exact .nil
  | (refine' Paired.cons ?e1 ?e2; (case e1 => (first | exact .ty _ | exact .own _)); (case e2 => walk_at "cl")))
local macro_rules | `(tactic| walk_at "ka") => `(tactic| first
  | exact kit_any_nil
  | (refine' kit_any_no ?e1 ?e2; (case e1 => walk_at "ki"); (case e2 => walk_at "ka"))
  | (refine' kit_any_yes ?e1; (case e1 => walk_at "ki")))
/-! ### steps about generators -/
local macro_rules | `(tactic| walk_at "1") => `(tactic| first
  | with_reducible refine w_methG ?_
  | with_reducible refine w_methGK ?_
  | with_reducible refine w_grunE ?_
  | ((with_reducible refine w_gkwE ?e1 ?_); (case e1 => exact rfl))
  | with_reducible refine w_callGK ?_
  | ((with_reducible refine w_gkw0 ?e1 ?_); (case e1 => exact rfl))
  | with_reducible refine w_gFor ?_
  | with_reducible refine w_listRg ?_
  | with_reducible refine w_rg2 ?_
  | with_reducible refine w_rg1 ?_
  | with_reducible refine w_rg2E ?_
  | with_reducible refine w_rg1E ?_
  | ((with_reducible refine w_rgLE ?e1 ?e2 ?e3 ?e4 ?_); (case e1 => omega); (case e2 => omega); (case e3 => omega); (case e4 => omega); intro p np)
  | with_reducible refine w_forGR ?_
  | with_reducible refine w_methGR ?_
  | with_reducible refine w_grunR ?_
  | with_reducible refine w_cmetX ?_
  | with_reducible refine w_cmetE ?_
  | ((with_reducible refine w_makeLX ?e1 ?_); (case e1 => exact rfl)))
namespace K20
open PySem PySem.Spec PyProof.Rows L2 Pg
def top (i : Nat) : Stmt := PySem.Challenge.pw_pagecounts_k20_fitting_books_numbered.main.body.getD i (.Pass ⟨0, 0, 0, 0⟩)
abbrev s_law_rng : Stmt := (top 13)
abbrev sc_law_rng_N : List Str := ["script", "digits", "seed", "cell", "size"]
theorem sc_law_rng : FnScope sc_law_rng_N ["script"] (defScope s_law_rng) := ⟨rfl, rfl, rfl, by decide +kernel, rfl, by decide +kernel, by decide +kernel⟩
abbrev s_law_draw : Stmt := (top 14)
abbrev sc_law_draw_N : List Str := ["rng", "limit", "found", "mixed"]
theorem sc_law_draw : FnScope sc_law_draw_N ["rng", "limit"] (defScope s_law_draw) := ⟨rfl, rfl, rfl, by decide +kernel, rfl, by decide +kernel, by decide +kernel⟩
abbrev s_InvalidNumber___init__ : Stmt := (inClass (top 3) 0)
abbrev sc_InvalidNumber___init___N : List Str := ["self", "value"]
theorem sc_InvalidNumber___init__ : FnScope sc_InvalidNumber___init___N ["self", "value"] (defScope s_InvalidNumber___init__) := ⟨rfl, rfl, rfl, by decide +kernel, rfl, by decide +kernel, by decide +kernel⟩
abbrev s_InvalidChain___init__ : Stmt := (inClass (top 2) 0)
abbrev sc_InvalidChain___init___N : List Str := ["self", "value"]
theorem sc_InvalidChain___init__ : FnScope sc_InvalidChain___init___N ["self", "value"] (defScope s_InvalidChain___init__) := ⟨rfl, rfl, rfl, by decide +kernel, rfl, by decide +kernel, by decide +kernel⟩
abbrev s_law_counted : Stmt := (top 15)
abbrev sc_law_counted_N : List Str := ["some", "wide", "one"]
theorem sc_law_counted : FnScope sc_law_counted_N ["some", "wide"] (defScope s_law_counted) := ⟨rfl, rfl, rfl, by decide +kernel, rfl, by decide +kernel, by decide +kernel⟩
abbrev s_binomial : Stmt := (top 6)
abbrev sc_binomial_N : List Str := ["many", "few", "found", "step"]
theorem sc_binomial : FnScope sc_binomial_N ["many", "few"] (defScope s_binomial) := ⟨rfl, rfl, rfl, by decide +kernel, rfl, by decide +kernel, by decide +kernel⟩
abbrev s_sums_of_digits : Stmt := (top 7)
abbrev sc_sums_of_digits_N : List Str := ["places", "base", "total", "found", "sign", "great", "left"]
theorem sc_sums_of_digits : FnScope sc_sums_of_digits_N ["places", "base", "total"] (defScope s_sums_of_digits) := ⟨rfl, rfl, rfl, by decide +kernel, rfl, by decide +kernel, by decide +kernel⟩
abbrev s_count_of : Stmt := (top 8)
abbrev sc_count_of_N : List Str := ["chapters", "lines", "chain", "size", "pages", "left", "unit", "found", "above", "base"]
theorem sc_count_of : FnScope sc_count_of_N ["chapters", "lines", "chain"] (defScope s_count_of) := ⟨rfl, rfl, rfl, by decide +kernel, rfl, by decide +kernel, by decide +kernel⟩
abbrev s_law_sizes : Stmt := (top 16)
abbrev sc_law_sizes_N : List Str := ["rng", "many", "most", "found", "wide", "turn"]
theorem sc_law_sizes : FnScope sc_law_sizes_N ["rng", "many", "most"] (defScope s_law_sizes) := ⟨rfl, rfl, rfl, by decide +kernel, rfl, by decide +kernel, by decide +kernel⟩
abbrev s_without : Stmt := (top 10)
abbrev sc_without_N : List Str := ["chain", "length", "size", "pages"]
theorem sc_without : FnScope sc_without_N ["chain", "length"] (defScope s_without) := ⟨rfl, rfl, rfl, by decide +kernel, rfl, by decide +kernel, by decide +kernel⟩
abbrev s_check_fitting : Stmt := (top 5)
abbrev sc_check_fitting_N : List Str := ["chapters", "lines", "chain", "number", "before", "index", "size", "pages"]
theorem sc_check_fitting : FnScope sc_check_fitting_N ["chapters", "lines", "chain"] (defScope s_check_fitting) := ⟨rfl, rfl, rfl, by decide +kernel, rfl, by decide +kernel, by decide +kernel⟩
abbrev s_count_fitting : Stmt := (top 9)
abbrev sc_count_fitting_N : List Str := ["chapters", "lines", "chain"]
theorem sc_count_fitting : FnScope sc_count_fitting_N ["chapters", "lines", "chain"] (defScope s_count_fitting) := ⟨rfl, rfl, rfl, by decide +kernel, rfl, by decide +kernel, by decide +kernel⟩
abbrev s_nth_fitting : Stmt := (top 11)
abbrev sc_nth_fitting_N : List Str := ["chapters", "lines", "chain", "number", "found", "others", "length", "ways"]
theorem sc_nth_fitting : FnScope sc_nth_fitting_N ["chapters", "lines", "chain", "number"] (defScope s_nth_fitting) := ⟨rfl, rfl, rfl, by decide +kernel, rfl, by decide +kernel, by decide +kernel⟩
abbrev s_law_books : Stmt := (top 17)
abbrev sc_law_books_N : List Str := ["many", "total", "found", "first", "some"]
theorem sc_law_books : FnScope sc_law_books_N ["many", "total"] (defScope s_law_books) := ⟨rfl, rfl, rfl, by decide +kernel, rfl, by decide +kernel, by decide +kernel⟩
abbrev s_law_fits : Stmt := (top 18)
abbrev sc_law_fits_N : List Str := ["some", "rows", "wide", "seen"]
theorem sc_law_fits : FnScope sc_law_fits_N ["some", "rows"] (defScope s_law_fits) := ⟨rfl, rfl, rfl, by decide +kernel, rfl, by decide +kernel, by decide +kernel⟩
abbrev s_law_refused : Stmt := (top 19)
abbrev sc_law_refused_N : List Str := ["many", "total", "rows", "spot", "e"]
theorem sc_law_refused : FnScope sc_law_refused_N ["many", "total", "rows", "spot"] (defScope s_law_refused) := ⟨rfl, rfl, rfl, by decide +kernel, rfl, by decide +kernel, by decide +kernel⟩
abbrev s_law_listed_right : Stmt := (top 20)
abbrev sc_law_listed_right_N : List Str := ["many", "total", "rows", "some", "due", "kept", "spot", "told", "named", "again"]
theorem sc_law_listed_right : FnScope sc_law_listed_right_N ["many", "total", "rows"] (defScope s_law_listed_right) := ⟨rfl, rfl, rfl, by decide +kernel, rfl, by decide +kernel, by decide +kernel⟩
abbrev s_law_drawn_right : Stmt := (top 21)
abbrev sc_law_drawn_right_N : List Str := ["rng", "many", "total", "rows", "every", "spots", "found", "some", "place", "rises", "low", "spot"]
theorem sc_law_drawn_right : FnScope sc_law_drawn_right_N ["rng", "many", "total", "rows"] (defScope s_law_drawn_right) := ⟨rfl, rfl, rfl, by decide +kernel, rfl, by decide +kernel, by decide +kernel⟩
abbrev s_law : Stmt := (top 22)
abbrev sc_law_N : List Str := ["script", "rng", "lap", "many", "some", "rows", "spot", "more", "turn", "wide"]
theorem sc_law : FnScope sc_law_N ["script"] (defScope s_law) := ⟨rfl, rfl, rfl, by decide +kernel, rfl, by decide +kernel, by decide +kernel⟩
/-- where the classes stand -/
structure Cs where
  InvalidChain : Addr
  InvalidNumber : Addr
  BookError : Addr
  nil_ : Unit
/-- what the top has written -/
structure Txt (K : PySem.W.Frag) (mg : Str → Option Value) (c : Cs) : Prop where
  triv_ : True
  n_abs : mg "abs" = none
  n_all : mg "all" = none
  n_enumerate : mg "enumerate" = none
  n_int : mg "int" = none
  n_len : mg "len" = none
  n_max : mg "max" = none
  n_min : mg "min" = none
  n_range : mg "range" = none
  n_repr : mg "repr" = none
  n_reversed : mg "reversed" = none
  n_sorted : mg "sorted" = none
  n_sum : mg "sum" = none
  xb_ : ExBase K mg "BookError" c.BookError
  xd_ : PySem.W.hasDictIn K c.BookError = true
  xt_ : PySem.W.typeIn K (.ref c.BookError) = some (.type "type")
  xe_ : PySem.W.subIn K (.ref c.BookError) (.type "BaseException") = some true
  x_InvalidChain : ExAt K mg "InvalidChain" c.InvalidChain
  x_InvalidNumber : ExAt K mg "InvalidNumber" c.InvalidNumber
  sb_InvalidChain_InvalidChain : PySem.W.subIn K (.ref c.InvalidChain) (.ref c.InvalidChain) = some true
  sb_InvalidChain_InvalidNumber : PySem.W.subIn K (.ref c.InvalidChain) (.ref c.InvalidNumber) = some false
  sb_InvalidChain_BookError : PySem.W.subIn K (.ref c.InvalidChain) (.ref c.BookError) = some true
  sb_InvalidChain_ValueError : PySem.W.subIn K (.ref c.InvalidChain) (.type "ValueError") = some true
  sb_InvalidNumber_InvalidChain : PySem.W.subIn K (.ref c.InvalidNumber) (.ref c.InvalidChain) = some false
  sb_InvalidNumber_InvalidNumber : PySem.W.subIn K (.ref c.InvalidNumber) (.ref c.InvalidNumber) = some true
  sb_InvalidNumber_BookError : PySem.W.subIn K (.ref c.InvalidNumber) (.ref c.BookError) = some true
  sb_InvalidNumber_ValueError : PySem.W.subIn K (.ref c.InvalidNumber) (.type "ValueError") = some true
  f_law_rng : FunAt K mg "_law_rng" s_law_rng
  f_law_draw : FunAt K mg "_law_draw" s_law_draw
  f_InvalidNumber___init__ : MethAt K c.InvalidNumber "__init__" "InvalidNumber.__init__" s_InvalidNumber___init__
  f_InvalidChain___init__ : MethAt K c.InvalidChain "__init__" "InvalidChain.__init__" s_InvalidChain___init__
  f_law_counted : FunAt K mg "_law_counted" s_law_counted
  f_binomial : FunAt K mg "binomial" s_binomial
  f_sums_of_digits : FunAt K mg "sums_of_digits" s_sums_of_digits
  f_count_of : FunAt K mg "count_of" s_count_of
  f_law_sizes : FunAt K mg "_law_sizes" s_law_sizes
  f_without : FunAt K mg "without" s_without
  f_check_fitting : FunAt K mg "check_fitting" s_check_fitting
  f_count_fitting : FunAt K mg "count_fitting" s_count_fitting
  f_nth_fitting : FunAt K mg "nth_fitting" s_nth_fitting
  f_law_books : FunAt K mg "_law_books" s_law_books
  f_law_fits : FunAt K mg "_law_fits" s_law_fits
  f_law_refused : FunAt K mg "_law_refused" s_law_refused
  f_law_listed_right : FunAt K mg "_law_listed_right" s_law_listed_right
  f_law_drawn_right : FunAt K mg "_law_drawn_right" s_law_drawn_right
  f_law : FunAt K mg "law" s_law
theorem kit_InvalidChain_InvalidChain {K : PySem.W.Frag} {mg : Str → Option Value} {c : Cs} (T : Txt K mg c) : PySem.W.kitOne K (.ref c.InvalidChain) (.ref c.InvalidChain) = some true := kit_ex T.x_InvalidChain.hd T.x_InvalidChain.o.tyC T.sb_InvalidChain_InvalidChain T.sb_InvalidChain_InvalidChain
theorem exm_InvalidChain_InvalidChain {K : PySem.W.Frag} {mg : Str → Option Value} {c : Cs} (T : Txt K mg c) : PySem.W.exmOne K (.ref c.InvalidChain) (.ref c.InvalidChain) = some true := PySem.W.exm_ref T.x_InvalidChain.o.exC T.x_InvalidChain.hd T.x_InvalidChain.o.tyC T.sb_InvalidChain_InvalidChain
theorem kit_InvalidChain_InvalidNumber {K : PySem.W.Frag} {mg : Str → Option Value} {c : Cs} (T : Txt K mg c) : PySem.W.kitOne K (.ref c.InvalidChain) (.ref c.InvalidNumber) = some false := kit_ex T.x_InvalidNumber.hd T.x_InvalidNumber.o.tyC T.sb_InvalidChain_InvalidChain T.sb_InvalidChain_InvalidNumber
theorem exm_InvalidChain_InvalidNumber {K : PySem.W.Frag} {mg : Str → Option Value} {c : Cs} (T : Txt K mg c) : PySem.W.exmOne K (.ref c.InvalidChain) (.ref c.InvalidNumber) = some false := PySem.W.exm_ref T.x_InvalidNumber.o.exC T.x_InvalidNumber.hd T.x_InvalidNumber.o.tyC T.sb_InvalidChain_InvalidNumber
theorem kit_InvalidChain_BookError {K : PySem.W.Frag} {mg : Str → Option Value} {c : Cs} (T : Txt K mg c) : PySem.W.kitOne K (.ref c.InvalidChain) (.ref c.BookError) = some true := kit_ex T.xd_ T.xt_ T.sb_InvalidChain_InvalidChain T.sb_InvalidChain_BookError
theorem exm_InvalidChain_BookError {K : PySem.W.Frag} {mg : Str → Option Value} {c : Cs} (T : Txt K mg c) : PySem.W.exmOne K (.ref c.InvalidChain) (.ref c.BookError) = some true := PySem.W.exm_ref T.xe_ T.xd_ T.xt_ T.sb_InvalidChain_BookError
theorem kit_InvalidChain_ValueError {K : PySem.W.Frag} {mg : Str → Option Value} {c : Cs} (T : Txt K mg c) : PySem.W.kitOne K (.ref c.InvalidChain) (.type "ValueError") = some true := kit_exT (by decide +kernel) T.sb_InvalidChain_ValueError
theorem kit_InvalidNumber_InvalidChain {K : PySem.W.Frag} {mg : Str → Option Value} {c : Cs} (T : Txt K mg c) : PySem.W.kitOne K (.ref c.InvalidNumber) (.ref c.InvalidChain) = some false := kit_ex T.x_InvalidChain.hd T.x_InvalidChain.o.tyC T.sb_InvalidNumber_InvalidNumber T.sb_InvalidNumber_InvalidChain
theorem exm_InvalidNumber_InvalidChain {K : PySem.W.Frag} {mg : Str → Option Value} {c : Cs} (T : Txt K mg c) : PySem.W.exmOne K (.ref c.InvalidNumber) (.ref c.InvalidChain) = some false := PySem.W.exm_ref T.x_InvalidChain.o.exC T.x_InvalidChain.hd T.x_InvalidChain.o.tyC T.sb_InvalidNumber_InvalidChain
theorem kit_InvalidNumber_InvalidNumber {K : PySem.W.Frag} {mg : Str → Option Value} {c : Cs} (T : Txt K mg c) : PySem.W.kitOne K (.ref c.InvalidNumber) (.ref c.InvalidNumber) = some true := kit_ex T.x_InvalidNumber.hd T.x_InvalidNumber.o.tyC T.sb_InvalidNumber_InvalidNumber T.sb_InvalidNumber_InvalidNumber
theorem exm_InvalidNumber_InvalidNumber {K : PySem.W.Frag} {mg : Str → Option Value} {c : Cs} (T : Txt K mg c) : PySem.W.exmOne K (.ref c.InvalidNumber) (.ref c.InvalidNumber) = some true := PySem.W.exm_ref T.x_InvalidNumber.o.exC T.x_InvalidNumber.hd T.x_InvalidNumber.o.tyC T.sb_InvalidNumber_InvalidNumber
theorem kit_InvalidNumber_BookError {K : PySem.W.Frag} {mg : Str → Option Value} {c : Cs} (T : Txt K mg c) : PySem.W.kitOne K (.ref c.InvalidNumber) (.ref c.BookError) = some true := kit_ex T.xd_ T.xt_ T.sb_InvalidNumber_InvalidNumber T.sb_InvalidNumber_BookError
theorem exm_InvalidNumber_BookError {K : PySem.W.Frag} {mg : Str → Option Value} {c : Cs} (T : Txt K mg c) : PySem.W.exmOne K (.ref c.InvalidNumber) (.ref c.BookError) = some true := PySem.W.exm_ref T.xe_ T.xd_ T.xt_ T.sb_InvalidNumber_BookError
theorem kit_InvalidNumber_ValueError {K : PySem.W.Frag} {mg : Str → Option Value} {c : Cs} (T : Txt K mg c) : PySem.W.kitOne K (.ref c.InvalidNumber) (.type "ValueError") = some true := kit_exT (by decide +kernel) T.sb_InvalidNumber_ValueError
local macro_rules | `(tactic| walk_at "ki") => `(tactic| first
  | exact kit_InvalidChain_InvalidChain (by assumption)
  | exact kit_InvalidChain_InvalidNumber (by assumption)
  | exact kit_InvalidChain_BookError (by assumption)
  | exact kit_InvalidChain_ValueError (by assumption)
  | exact kit_InvalidNumber_InvalidChain (by assumption)
  | exact kit_InvalidNumber_InvalidNumber (by assumption)
  | exact kit_InvalidNumber_BookError (by assumption)
  | exact kit_InvalidNumber_ValueError (by assumption))
local macro_rules | `(tactic| walk_at "ex") => `(tactic| first
  | exact exm_InvalidChain_InvalidChain (by assumption)
  | exact exm_InvalidChain_BookError (by assumption)
  | exact exm_InvalidNumber_InvalidNumber (by assumption)
  | exact exm_InvalidNumber_BookError (by assumption))
local macro_rules | `(tactic| walk_at "xa") => `(tactic| first
  | exact Txt.x_InvalidChain (by assumption)
  | exact Txt.x_InvalidNumber (by assumption))
def spLaw (K : PySem.W.Frag) : Sp := fun vs H Q _ => ∃ (a : Addr) (ns : List Int), vs = [.ref a] ∧ SqL K H a (ns.map V.int) ∧ ns.length ≤ 63 ∧ (∀ z ∈ ns, Builtin.Int.intBits z ≤ 1048576) ∧ ∀ H', Q (.bl true) H'
section
variable {P : Program} {w : World} {K : PySem.W.Frag} {mg : Str → Option Value} {base : Heap} {c : Cs}
/-- a row of drawn numbers at a: n numbers were mixed -/
def Rng (H : Hp) (a : Addr) (n : Int) : Prop := ∃ d m t : Int, H a = some (.lst [.int d, .int m, .int t]) ∧ 0 ≤ d ∧ 0 ≤ m ∧ m < 2 ^ 64 ∧ 0 ≤ t ∧ t ≤ n
section
variable {H H' : Hp} {a p dx : Addr} {n : Int} {o u : HO} {S : List Addr}
theorem Rng.new (h : Rng H a n) (np : H p = none) : Rng (upd H p o) a n := by
  obtain ⟨d, m, t, h1, h2⟩ := h
  exact ⟨d, m, t, at_upd h1 np, h2⟩
theorem Rng.make (h : Rng H a n) (n1 : H dx = none) (n2 : H p = none) : Rng (upd (upd H dx u) p o) a n := by
  obtain ⟨d, m, t, h1, h2⟩ := h
  exact ⟨d, m, t, at_make h1 n1 n2, h2⟩
theorem Rng.ne (h : Rng H a n) (np : H p = none) : p ≠ a := by
  obtain ⟨d, m, t, h1, h2⟩ := h
  exact (ne_of_none h1 np).symm
theorem Rng.fr (h : Rng H a n) (f : Fr S H H') (ns : a ∉ S) : Rng H' a n := by
  obtain ⟨d, m, t, h1, h2⟩ := h
  exact ⟨d, m, t, f.at ns h1, h2⟩
theorem Rng.put (h : Rng H a n) (np : p ≠ a) : Rng (upd H p o) a n := by
  obtain ⟨d, m, t, h1, h2⟩ := h
  exact ⟨d, m, t, by rw [upd_ne np.symm]; exact h1, h2⟩
theorem Rng.le {k : Int} (h : Rng H a n) (hk : n ≤ k) : Rng H a k := by
  obtain ⟨d, m, t, h1, h2, h3, h4, h5, h6⟩ := h
  exact ⟨d, m, t, h1, h2, h3, h4, h5, by omega⟩
end
local macro_rules | `(tactic| walk_at "p") => `(tactic| first
  | assumption
  | (refine' Rng.make ?e2 ?e1 ?e3; (case e1 => assumption); (case e3 => assumption); (case e2 => walk_at "p"))
  | (refine' Rng.new ?e2 ?e1; (case e1 => assumption); (case e2 => walk_at "p"))
  | (refine' Rng.put ?e2 ?e1; (case e1 => walk_at "n"); (case e2 => walk_at "p"))
  | (refine' Rng.fr ?e2 ?e1 ?e3; (case e1 => assumption); (case e3 => exact List.not_mem_nil); (case e2 => walk_at "p")))
local macro_rules | `(tactic| walk_at "n") => `(tactic| first
  | assumption
  | exact Ne.symm (by assumption)
  | (refine' Rng.ne ?e2 ?e1; (case e1 => assumption); (case e2 => walk_at "p"))
  | (refine' Ne.symm (Rng.ne ?e2 ?e1); (case e1 => assumption); (case e2 => walk_at "p")))
def spRng (K : PySem.W.Frag) : Sp := fun vs H Q _ => ∃ (a : Addr) (ns : List Int), vs = [.ref a] ∧ SqL K H a (ns.map V.int) ∧ ns.length ≤ 63 ∧ ∀ p H', Fr [] H H' → H p = none → Rng H' p 0 → Q (.ref p) H'
def spDraw : Sp := fun vs H Q _ => ∃ (a : Addr) (k n : Int), vs = [.ref a, .int n] ∧ Rng H a k ∧ 0 < n ∧ n < 2 ^ 300 ∧ k < 2 ^ 40 ∧
  ∀ (r k' : Int) (H' : Hp), 0 ≤ r → r < n → k' ≤ k + 1 → Rng H' a k' → Fr [a] H H' → Q (.int r) H'
theorem spDraw.go {H : Hp} {a : Addr} {k n : Int} {Q : VK} {E : XK} (p : Rng H a k) (n0 : 0 < n) (n1 : n < 2 ^ 300) (k1 : k < 2 ^ 40)
    (h : ∀ (r k' : Int) (H' : Hp), 0 ≤ r → r < n → k' ≤ k + 1 → Rng H' a k' → Fr [a] H H' → Q (.int r) H') : spDraw ([.ref a, .int n] ++ []) H Q E := ⟨a, k, n, rfl, p, n0, n1, k1, h⟩
theorem dig_lt {d : Int} {i : Nat} (h0 : 0 ≤ d) (h : d < 2 ^ (200 * i)) (hi : i ≤ 63) : CMulW d 1000000000000000000000000000000000000000000000000000000000000 := by
  refine cmulW (a := 200 * i + 1) (b := 200) ?_ (by decide) (by omega) (by omega) (by omega)
  have h1 : (d.natAbs : Int) < ((2 ^ (200 * i) : Nat) : Int) := by
    rw [Int.natAbs_of_nonneg h0]
    simpa using h
  have h2 : d.natAbs < 2 ^ (200 * i) := by exact_mod_cast h1
  exact Nat.lt_of_lt_of_le h2 (Nat.pow_le_pow_right (by decide) (by omega))
theorem dig_next {d s : Int} {i : Nat} (hd : 0 ≤ d) (h : d < 2 ^ (200 * i)) (h0 : 0 ≤ s) (h1 : s < 1000000000000000000000000000000000000000000000000000000000000) : d * 1000000000000000000000000000000000000000000000000000000000000 + s < 2 ^ (200 * (i + 1)) := by
  have e : (2 : Int) ^ (200 * (i + 1)) = 2 ^ (200 * i) * 2 ^ 200 := by rw [Nat.mul_add, Int.pow_add]
  rw [e]
  generalize (2 : Int) ^ (200 * i) = P at h ⊢
  have h2 : (d + 1) * 1000000000000000000000000000000000000000000000000000000000000 ≤ P * 1000000000000000000000000000000000000000000000000000000000000 := Int.mul_le_mul_of_nonneg_right (by omega) (by decide)
  by_cases hP : 0 ≤ P
  · have h3 : P * 1000000000000000000000000000000000000000000000000000000000000 ≤ P * 2 ^ 200 := Int.mul_le_mul_of_nonneg_left (by decide) hP
    omega
  · omega
theorem dig_more {d : Int} {i : Nat} (hd : 0 ≤ d) (h : d < 2 ^ (200 * i)) : d < 2 ^ (200 * (i + 1)) := by
  have z := dig_next (s := 0) hd h (by decide) (by decide)
  generalize (2 : Int) ^ (200 * (i + 1)) = P at z ⊢
  omega
set_option maxHeartbeats 4000000 in
theorem ok_law_rng (T : Txt K mg c) : DefAt P w K mg base "_law_rng" s_law_rng 1 ["script"] (spRng K) := by
  refine T.f_law_rng.ok sc_law_rng (fun vs H Q E h => ?_) (fun _ _ _ _ _ _ us hl => match us, hl with | [_], _ => rfl) (fun f cdv A outer s H vs Q E hr h => ?_)
  · obtain ⟨a, ns, rfl, hS, hl, q⟩ := h
    rfl
  · obtain ⟨a, ns, rfl, hS, hl, q⟩ := h
    refine ⟨_, (pss_cons (ps_asg (pe_tup (pa_cons pe_int (pa_cons pe_int pa_nil))) (pg_tup rfl (pgs_cons (pg_name (i := 1) sc_law_rng.nd rfl (Or.inl rfl)) (pgs_cons (pg_name (i := 2) sc_law_rng.nd rfl (Or.inl rfl)) pgs_nil))))
    (pss_cons (ps_for PassesOwn.never rfl (pi_list (pe_slice sl_list (pv 0) po_none (po_some pe_int))) (pg_name (i := 3) sc_law_rng.nd rfl (Or.inl rfl)) (pss_cons (ps_set (i := 4) sc_law_rng.nd rfl (Or.inl rfl) (pe_callB call_absN (by rfl) T.n_abs (by decide +kernel) (pa_cons (pv 3) pa_nil)))
    (pss_cons (ps_if (pt_cmpR op_ge (pv 4) (pe_op op_powW pe_int pe_int) (nomark _)) (pss_one (ps_set (i := 1) sc_law_rng.nd rfl (Or.inl rfl) (pe_op op_add (pe_op op_mulW (pv 1) (pe_op op_powW pe_int pe_int)) (pe_op op_mod (pv 4) (pe_op op_powW pe_int pe_int))))) pss_nil)
    (pss_one (ps_set (i := 2) sc_law_rng.nd rfl (Or.inl rfl) (pe_op op_mod (pe_op op_add (pe_op op_add (pe_op op_mulW (pv 2) pe_int) (pe_op op_mod (pv 3) pe_int)) pe_int) pe_int))))))
    (pss_one (ps_ret (pe_lst (pa_cons (pv 1) (pa_cons (pv 2) (pa_cons pe_int pa_nil)))))))), ?_⟩
    refine w_start (σ' := [some (.ref a), none, none, none, none]) rfl ?_
    walk_at "g"
    refine w_slI (Fr.seqL (S := []) (H := H) (by walk_at "F") List.not_mem_nil hS) (fun p np => ?_)
    walk_at "g"
    refine f_list ((cutI ns none (some 63)).map V.int) (fun i σ' H' => ∃ (v w : Option V) (d b : Int), σ' = [some (.ref a), some (.int d), some (.int b), v, w] ∧ Fr [] H H' ∧ H' p = some (.lst ((cutI ns none (some 63)).map V.int)) ∧ 0 ≤ d ∧ d < 2 ^ (200 * i) ∧ 0 ≤ b ∧ b < 2 ^ 64) ?_ ?_ ?_ ?_
    · exact ⟨none, none, 0, 88675123, rfl, by walk_at "F", upd_same, by omega, by simp, by omega, by omega⟩
    · rintro i σ' H' hi ⟨v, w, d, b, rfl, f1, h1, _⟩
      exact SqL.of h1
    · rintro i x σ' H' hx ⟨v, w, d, b, rfl, f1, h1, d0, d1, b0, b1⟩
      obtain ⟨n, hn, rfl⟩ := map_at hx
      have hil := (List.getElem?_eq_some_iff.mp hn).1
      have hll := cutI_len ns none (some 63)
      have d2 := dig_lt d0 d1 (by omega)
      walk_at "g"
      have d4 : ∀ s : Int, 0 ≤ s → s < 1000000000000000000000000000000000000000000000000000000000000 → d * 1000000000000000000000000000000000000000000000000000000000000 + s < 2 ^ (200 * (i + 1)) := fun s => dig_next d0 d1
      have e0 : ∀ z : Int, 0 ≤ z % 2305843009213693951 := fun z => Int.emod_nonneg z (by decide)
      have e1 : ∀ z : Int, z % 2305843009213693951 < 2305843009213693951 := fun z => Int.emod_lt_of_pos z (by decide)
      have s0 : ∀ z : Int, 0 ≤ z % 1000000000000000000000000000000000000000000000000000000000000 := fun z => Int.emod_nonneg z (by decide)
      have s1 : ∀ z : Int, z % 1000000000000000000000000000000000000000000000000000000000000 < 1000000000000000000000000000000000000000000000000000000000000 := fun z => Int.emod_lt_of_pos z (by decide)
      have d3 : d < 2 ^ (200 * (i + 1)) := dig_more d0 d1
      refine w_ite (fun h => ?_) (fun h => ?_)
      · walk_at "g"
        exact ⟨_, _, _, _, rfl, by walk_at "F", h1, Int.add_nonneg (Int.mul_nonneg d0 (by decide)) (s0 _), d4 _ (s0 _) (s1 _), e0 _, by have := e1 (b * 1000003 + n % 2305843009213693921 + 7); omega⟩
      · walk_at "g"
        exact ⟨_, _, _, _, rfl, by walk_at "F", h1, d0, d3, e0 _, by have := e1 (b * 1000003 + n % 2305843009213693921 + 7); omega⟩
    · rintro σ' H' ⟨v, w, d, b, rfl, f1, h1, d0, d1, b0, b1⟩
      walk_at "g"
      rename_i p3 np3
      exact q p3 _ (by walk_at "F") (by walk_at "Z") ⟨d, b, 0, upd_same, d0, b0, b1, by omega, by omega⟩
local macro_rules | `(tactic| walk_at "1") => `(tactic| ((with_reducible refine' spDraw.go ?e1 ?e2 ?e3 ?e4 ?_); (case e1 => walk_at "p"); (case e2 => omega); (case e3 => omega); (case e4 => omega); intro r k' H' r0 r1 rk rp rf))
set_option maxHeartbeats 4000000 in
theorem ok_law_draw (T : Txt K mg c) : DefAt P w K mg base "_law_draw" s_law_draw 1 ["rng", "limit"] spDraw := by
  refine T.f_law_draw.ok sc_law_draw (fun vs H Q E h => ?_) (fun _ _ _ _ _ _ us hl => match us, hl with | [_, _], _ => rfl) (fun f cdv A outer s H vs Q E hr h => ?_)
  · obtain ⟨a, k, n, rfl, ⟨d, m, t, ha, d0, m0, m1, t0, t1⟩, n0, n1, k1, q⟩ := h
    rfl
  · obtain ⟨a, k, n, rfl, ⟨d, m, t, ha, d0, m0, m1, t0, t1⟩, n0, n1, k1, q⟩ := h
    refine ⟨_, (pss_cons (ps_if (pt_cmpR op_gt (pe_ix ix_list (pv 0) pe_int (fun _ _ => rfl)) pe_int (nomark _)) (pss_cons (ps_set (i := 2) sc_law_draw.nd rfl (Or.inl rfl) (pe_op op_mod (pe_ix ix_list (pv 0) pe_int (fun _ _ => rfl)) (pv 1)))
    (pss_cons (ps_asg (pe_op op_fdivW (pe_ix ix_list (pv 0) pe_int (fun _ _ => rfl)) (pv 1)) (pg_sub (pv 0) pe_int set_list))
    (pss_one (ps_ret (pv 2))))) pss_nil)
    (pss_cons (ps_asg (pe_op op_add (pe_ix ix_list (pv 0) pe_int (fun _ _ => rfl)) pe_int) (pg_sub (pv 0) pe_int set_list))
    (pss_cons (ps_set (i := 3) sc_law_draw.nd rfl (Or.inl rfl) (pe_op op_mod (pe_op op_powW (pe_op op_add (pe_ix ix_list (pv 0) pe_int (fun _ _ => rfl)) (pe_op op_mulW pe_int (pe_ix ix_list (pv 0) pe_int (fun _ _ => rfl)))) pe_int) pe_int))
    (pss_cons (ps_set (i := 3) sc_law_draw.nd rfl (Or.inl rfl) (pe_op op_mod (pe_op op_powW (pe_op op_add (pv 3) (pe_op op_mulW pe_int (pe_ix ix_list (pv 0) pe_int (fun _ _ => rfl)))) pe_int) pe_int))
    (pss_one (ps_ret (pe_op op_mod (pe_op op_fdivW (pv 3) pe_int) (pv 1)))))))), ?_⟩
    refine w_start (σ' := [some (.ref a), some (.int n), none, none]) rfl ?_
    walk_at "g"
    refine w_ite (fun hd => ?_) (fun hd => ?_)
    · walk_at "g"
      exact q _ k _ (Int.emod_nonneg _ (by omega)) (Int.emod_lt_of_pos _ n0) (by omega) ⟨_, _, _, upd_same, Int.ediv_nonneg d0 (by omega), m0, m1, t0, t1⟩ (Fr.refl.put (.inr (by simp)))
    · walk_at "g"
      exact q _ (k + 1) _ (Int.emod_nonneg _ (by omega)) (Int.emod_lt_of_pos _ n0) (by omega) ⟨_, _, _, upd_same, d0, m0, m1, by omega, by omega⟩ (Fr.refl.put (.inr (by simp)))
/-! ### tables of page counts -/
/-- how many chapters are longer than i -/
def gt (ns : List Int) (i : Int) : Int := (ns.countP fun x => decide (i < x) : Nat)
def ct (ns : List Int) (s : Int) : Int := (ns.map fun x => (x - 1) / s + 1).sum
theorem gt_cons (x : Int) (ns : List Int) (i : Int) : gt (x :: ns) i = gt ns i + if i < x then 1 else 0 := by
  unfold gt
  rw [List.countP_cons]
  by_cases h : i < x <;> simp [h]
theorem ct_cons (x : Int) (ns : List Int) (s : Int) : ct (x :: ns) s = (x - 1) / s + 1 + ct ns s := by simp [ct]
theorem gt_nonneg (ns : List Int) (i : Int) : 0 ≤ gt ns i := by unfold gt; omega
theorem gt_le (ns : List Int) (i : Int) : gt ns i ≤ ns.length := by
  unfold gt
  have := List.countP_le_length (p := fun x => decide (i < x)) (l := ns)
  omega
theorem gt_mono {ns : List Int} {i j : Int} (h : i ≤ j) : gt ns j ≤ gt ns i := by
  induction ns with
  | nil => simp [gt]
  | cons x ns ih =>
    rw [gt_cons, gt_cons]
    split <;> split <;> omega
theorem gt_zero {ns : List Int} {i : Int} (h : ∀ x ∈ ns, x ≤ i) : gt ns i = 0 := by
  induction ns with
  | nil => simp [gt]
  | cons x ns ih =>
    rw [gt_cons, ih fun y hy => h y (List.mem_cons_of_mem _ hy), if_neg (by have := h x List.mem_cons_self; omega)]
    omega
theorem gt_all {ns : List Int} {i : Int} (h : ∀ x ∈ ns, i < x) : gt ns i = ns.length := by
  induction ns with
  | nil => simp [gt]
  | cons x ns ih =>
    rw [gt_cons, ih fun y hy => h y (List.mem_cons_of_mem _ hy), if_pos (h x List.mem_cons_self)]
    simp
theorem gt_step (ns : List Int) (i : Int) : gt ns (i - 1) = gt ns i + ns.count i := by
  induction ns with
  | nil => simp [gt]
  | cons x ns ih =>
    rw [gt_cons, gt_cons, ih, List.count_cons]
    by_cases e : x = i
    · subst e
      simp
      omega
    · have : (x == i) = false := by simpa using e
      rw [this]
      simp
      split <;> split <;> omega
/-- the numbers at the multiples of s: 1*s, 2*s, .. m*s -/
def mults (ns : List Int) (s : Int) : Nat → Int
  | 0 => 0
  | m + 1 => mults ns s m + gt ns ((m + 1 : Nat) * s)
theorem mults_cons (x : Int) (ns : List Int) (s : Int) : ∀ m, mults (x :: ns) s m = mults ns s m + mults [x] s m
  | 0 => rfl
  | m + 1 => by
    show mults (x :: ns) s m + gt (x :: ns) _ = mults ns s m + gt ns _ + (mults [x] s m + gt [x] _)
    rw [mults_cons x ns s m, gt_cons, gt_cons]
    have : gt [] (((m + 1 : Nat) : Int) * s) = 0 := rfl
    rw [this]
    omega
theorem mults_one {x s : Int} (hs : 1 ≤ s) (hx : 1 ≤ x) : ∀ m : Nat, mults [x] s m = if (m : Int) ≤ (x - 1) / s then (m : Int) else (x - 1) / s
  | 0 => by
    have : 0 ≤ (x - 1) / s := Int.ediv_nonneg (by omega) (by omega)
    show (0 : Int) = _
    rw [if_pos (by simpa using this)]
    rfl
  | m + 1 => by
    have ih := mults_one hs hx m
    have key : (((m + 1 : Nat) : Int) * s < x) ↔ ((m + 1 : Nat) : Int) ≤ (x - 1) / s := by
      rw [Int.le_ediv_iff_mul_le (by omega)]
      omega
    show mults [x] s m + gt [x] _ = _
    rw [ih, gt_cons]
    have z : gt [] (((m + 1 : Nat) : Int) * s) = 0 := rfl
    rw [z]
    by_cases h : ((m + 1 : Nat) : Int) ≤ (x - 1) / s
    · rw [if_pos h, if_pos (key.mpr h), if_pos (by omega)]
      omega
    · rw [if_neg h, if_neg fun q => h (key.mp q)]
      split <;> omega
/-- the page count of a size, by the numbers at its multiples -/
theorem ct_mults {s : Int} (hs : 1 ≤ s) {m : Nat} : ∀ {ns : List Int}, (∀ x ∈ ns, 1 ≤ x ∧ (x - 1) / s ≤ m) → ct ns s = ns.length + mults ns s m
  | [], _ => by
    have : ∀ m, mults [] s m = 0 := by
      intro m
      induction m with
      | zero => rfl
      | succ m ih =>
        show mults [] s m + gt [] _ = 0
        rw [ih]
        rfl
    rw [this]
    rfl
  | x :: ns, h => by
    have ih := ct_mults hs (m := m) (ns := ns) fun y hy => h y (List.mem_cons_of_mem _ hy)
    have hx := h x List.mem_cons_self
    rw [ct_cons, ih, mults_cons, mults_one hs hx.1, List.length_cons]
    split <;> omega
theorem sum_pick_go {ns L : List Int} {s : Int} (hs : 1 ≤ s) (hL : ∀ i : Nat, s < i → i < L.length → L[i]? = some (gt ns i)) : ∀ c : Nat, (∀ k : Nat, k < c → ((k : Int) + 2) * s < L.length) →
    ((((List.range c).map fun k : Nat => (2 * s + s * (k : Int)).toNat).filterMap fun i => L[i]?)).sum = mults ns s (c + 1) - gt ns s
  | 0, _ => by
    show (0 : Int) = mults ns s 0 + gt ns (((0 + 1 : Nat) : Int) * s) - gt ns s
    have e : (((0 + 1 : Nat) : Int) * s) = s := by omega
    rw [e]
    show (0 : Int) = 0 + gt ns s - gt ns s
    omega
  | c + 1, h => by
    have ih := sum_pick_go hs hL c fun k hk => h k (by omega)
    have hc := h c (by omega)
    have e1 : 2 * s + s * (c : Int) = ((c : Int) + 2) * s := by rw [Int.add_mul, Int.mul_comm s c]; omega
    have hpos : s < ((c : Int) + 2) * s := by
      rw [Int.add_mul]
      have := Int.mul_nonneg (show (0 : Int) ≤ c by omega) (show 0 ≤ s by omega)
      omega
    have e2 : (((((c : Int) + 2) * s).toNat : Nat) : Int) = ((c : Int) + 2) * s := Int.toNat_of_nonneg (by omega)
    have e3 := hL (((c : Int) + 2) * s).toNat (by omega) (by omega)
    rw [e2] at e3
    rw [List.range_succ, List.map_append, List.filterMap_append, List.sum_append, ih]
    simp only [List.map_cons, List.map_nil, e1, List.filterMap_cons, e3, List.filterMap_nil, List.sum_cons, List.sum_nil]
    show _ = mults ns s (c + 1) + gt ns (((c + 1 + 1 : Nat) : Int) * s) - gt ns s
    have e4 : ((c + 1 + 1 : Nat) : Int) * s = ((c : Int) + 2) * s := by
      congr 1
    rw [e4]
    omega
theorem pick_len (L : List Int) (lo st : Option Int) : (pickSl L lo st).length ≤ (sliceRange (sliceBounds lo none st L.length).1 (sliceBounds lo none st L.length).2.1 (sliceBounds lo none st L.length).2.2).length := List.length_filterMap_le _ _
theorem sum_pick {ns L : List Int} {s : Int} (hs : 1 ≤ s) (hL : ∀ i : Nat, s < i → i < L.length → L[i]? = some (gt ns i)) :
    ∃ m : Nat, (L.length : Int) ≤ ((m : Int) + 1) * s ∧ (pickSl L (some (2 * s)) (some s)).sum = mults ns s m - gt ns s ∧ (pickSl L (some (2 * s)) (some s)).length ≤ L.length := by
  have hsp : s > 0 := by omega
  have hneg : ¬ 2 * s < 0 := by omega
  have hb : sliceBounds (some (2 * s)) none (some s) L.length = (max 0 (min (2 * s) L.length), (L.length : Int), s) := by
    simp only [sliceBounds, Option.getD_some, hsp, if_true, hneg, if_false]
  by_cases h2 : 2 * s < L.length
  · have e : max 0 (min (2 * s) (L.length : Int)) = 2 * s := by omega
    have hcount : 0 ≤ ((L.length : Int) - 2 * s + s - 1) / s := Int.ediv_nonneg (by omega) (by omega)
    have hmul := Int.mul_ediv_self_le (x := (L.length : Int) - 2 * s + s - 1) (k := s) (by omega)
    have hmod := Int.lt_mul_ediv_self_add (x := (L.length : Int) - 2 * s + s - 1) (k := s) (by omega)
    obtain ⟨c, hc⟩ := Int.eq_ofNat_of_zero_le hcount
    have hr : sliceRange (2 * s) L.length s = (List.range c).map fun k : Nat => (2 * s + s * (k : Int)).toNat := by
      simp only [sliceRange, hsp, if_true, h2, hc, Int.toNat_natCast]
    have hcs : ((L.length : Int) - 2 * s + s - 1) / s = c := hc
    rw [hcs] at hmul hmod
    have go := sum_pick_go hs hL c fun k hk => by
      have h1 : ((k : Int) + 1) * s ≤ c * s := Int.mul_le_mul_of_nonneg_right (by omega) (by omega)
      rw [Int.mul_comm s c] at hmul
      rw [Int.add_mul] at h1 ⊢
      omega
    refine ⟨c + 1, ?_, ?_, ?_⟩
    · rw [Int.mul_comm s c] at hmod
      have : (((c + 1 : Nat) : Int) + 1) * s = c * s + 2 * s := by
        rw [Int.add_mul]
        have : ((c + 1 : Nat) : Int) * s = c * s + s := by rw [show ((c + 1 : Nat) : Int) = (c : Int) + 1 by omega, Int.add_mul]; omega
        omega
      rw [this]
      omega
    · unfold pickSl
      rw [hb, e]
      show ((sliceRange (2 * s) L.length s).filterMap fun i => L[i]?).sum = _
      rw [hr]
      exact go
    · refine Nat.le_trans (pick_len _ _ _) ?_
      rw [hb, e]
      show (sliceRange (2 * s) L.length s).length ≤ _
      rw [hr, List.length_map, List.length_range]
      have h1 : (1 : Int) * c ≤ s * c := Int.mul_le_mul_of_nonneg_right (by omega) (by omega)
      omega
  · have e : max 0 (min (2 * s) (L.length : Int)) = L.length := by omega
    have hr : pickSl L (some (2 * s)) (some s) = [] := by
      unfold pickSl
      rw [hb, e]
      show (sliceRange (L.length : Int) L.length s).filterMap _ = []
      simp [sliceRange, hsp]
    refine ⟨1, by omega, ?_, by rw [hr]; simp⟩
    rw [hr]
    show (0 : Int) = mults ns s 0 + gt ns (((0 + 1 : Nat) : Int) * s) - gt ns s
    have e : (((0 + 1 : Nat) : Int) * s) = s := by omega
    rw [e]
    show (0 : Int) = 0 + gt ns s - gt ns s
    omega
/-- the table of a book -/
def tab (ns : List Int) (g : Nat) : List Int := (List.range g).map fun i : Nat => ct ns ((i : Int) + 1)
theorem tab_len (ns : List Int) (g : Nat) : (tab ns g).length = g := by simp [tab]
theorem tab_at {ns : List Int} {g i : Nat} (h : i < g) : (tab ns g)[i]? = some (ct ns ((i : Int) + 1)) := by
  unfold tab
  rw [List.getElem?_map, List.getElem?_range h]
  rfl
theorem ct_far {ns : List Int} {s : Int} (hs : 1 ≤ s) (h : ∀ x ∈ ns, 1 ≤ x ∧ x ≤ s) : ct ns s = ns.length := by
  have := ct_mults (m := 0) hs (ns := ns) fun x hx => ⟨(h x hx).1, by rw [Int.ediv_eq_zero_of_lt (by have := h x hx; omega) (by have := h x hx; omega)]; simp⟩
  rw [this]
  show (ns.length : Int) + 0 = _
  omega
/-- what the loop of longer_counts computes -/
theorem longer_step {ns L : List Int} {g : Nat} {s : Int} (hs : 1 ≤ s) (hn : ∀ x ∈ ns, 1 ≤ x ∧ x ≤ g) (hLl : L.length = g + 1) (hL : ∀ i : Nat, s < i → i < L.length → L[i]? = some (gt ns i)) :
    ct ns s - ns.length - (pickSl L (some (2 * s)) (some s)).sum = gt ns s ∧ (pickSl L (some (2 * s)) (some s)).length ≤ g + 1 := by
  obtain ⟨m, h1, h2, h3⟩ := sum_pick hs hL
  have := ct_mults (m := m) hs (ns := ns) fun x hx => ⟨(hn x hx).1, by
    have h4 : (x - 1) / s < (m : Int) + 1 := by
      rw [Int.ediv_lt_iff_lt_mul (by omega)]
      have := hn x hx
      omega
    omega⟩
  rw [h2, this]
  exact ⟨by omega, by omega⟩
def spLonger (K : PySem.W.Frag) : Sp := fun vs H Q _ => ∃ (p : Addr) (ns : List Int) (g : Nat), vs = [.ref p] ∧ H p = some (.lst ((tab ns g).map V.int)) ∧ g ≤ 100000 ∧ ns.length ≤ 100000 ∧ (∀ x ∈ ns, 1 ≤ x ∧ x ≤ g) ∧
  ∀ (q : Addr) (H' : Hp), Fr [] H H' → H q = none → H' q = some (.lst (((List.range (g + 1)).map fun i : Nat => gt ns i).map V.int)) → Q (.ref q) H'
/-- tuples of a length and its times -/
def PairsAt (H : Hp) (ps : List Addr) (ls : List (Int × Int)) : Prop := ps.length = ls.length ∧ ∀ (i : Nat) (p : Addr) (l : Int × Int), ps[i]? = some p → ls[i]? = some l → H p = some (.tup [.int l.1, .int l.2])
theorem PairsAt.fr {H H' : Hp} {ps : List Addr} {ls : List (Int × Int)} (h : PairsAt H ps ls) (f : Fr [] H H') : PairsAt H' ps ls := ⟨h.1, fun i p l h1 h2 => f.at0 (h.2 i p l h1 h2)⟩
theorem PairsAt.snoc {H : Hp} {ps : List Addr} {ls : List (Int × Int)} {p : Addr} {l : Int × Int} (h : PairsAt H ps ls) (hp : H p = some (.tup [.int l.1, .int l.2])) : PairsAt H (ps ++ [p]) (ls ++ [l]) := by
  refine ⟨by simp [h.1], fun i q m h1 h2 => ?_⟩
  by_cases hi : i < ps.length
  · rw [List.getElem?_append_left hi] at h1
    rw [List.getElem?_append_left (by rw [← h.1]; exact hi)] at h2
    exact h.2 i q m h1 h2
  · rw [List.getElem?_append_right (by omega)] at h1
    rw [List.getElem?_append_right (by rw [← h.1]; omega), ← h.1] at h2
    by_cases e : i - ps.length = 0
    · rw [e] at h1 h2
      simp at h1 h2
      subst h1 h2
      exact hp
    · rw [List.getElem?_eq_none (by simp; omega)] at h1
      cases h1
theorem dpAll_pairs {K : PySem.W.Frag} {H : Hp} : ∀ {ps : List Addr} {ls : List (Int × Int)}, PairsAt H ps ls → DpAll K H (ps.map V.ref) (ls.map dP)
  | [], [], _ => .nil
  | [], _ :: _, h => by cases h.1
  | _ :: _, [], h => by cases h.1
  | p :: ps, l :: ls, h => .cons (.tup (SqT.of (h.2 0 p l rfl rfl)) (.cons (.int _) (.cons (.int _) .nil))) (dpAll_pairs ⟨by simpa using h.1, fun i q m h1 h2 => h.2 (i + 1) q m (by simpa using h1) (by simpa using h2)⟩)
theorem w_eqPairs {K : PySem.W.Frag} {H : Hp} {Q : VK} {a b : Addr} {ps qs : List Addr} {ls ms : List (Int × Int)} (ha : H a = some (.lst (ps.map V.ref))) (hb : H b = some (.lst (qs.map V.ref))) (h1 : PairsAt H ps ls) (h2 : PairsAt H qs ms) (k : Q (.bl (decide (ls = ms))) H) : rEqD K (.ref a) (.ref b) H Q :=
  ⟨_, _, .lst (SqL.of ha) (dpAll_pairs h1), .lst (SqL.of hb) (dpAll_pairs h2), shaped_pairs _, shaped_pairs _, by simp only [PyData.eqv]; rw [eqvAll_pairs]; exact k⟩
theorem PairsAt.app {H : Hp} {ps qs : List Addr} {ls ms : List (Int × Int)} (h : PairsAt H ps ls) (k : PairsAt H qs ms) : PairsAt H (ps ++ qs) (ls ++ ms) := by
  refine ⟨by simp [h.1, k.1], fun i q m h1 h2 => ?_⟩
  by_cases hi : i < ps.length
  · rw [List.getElem?_append_left hi] at h1
    rw [List.getElem?_append_left (by rw [← h.1]; exact hi)] at h2
    exact h.2 i q m h1 h2
  · rw [List.getElem?_append_right (by omega)] at h1
    rw [List.getElem?_append_right (by rw [← h.1]; omega), ← h.1] at h2
    exact k.2 _ q m h1 h2
theorem PairsAt.nil {H : Hp} : PairsAt H [] [] := ⟨rfl, by simp⟩
/-- a pair's address is not the list's -/
theorem PairsAt.put {H : Hp} {a : Addr} {xs ys : List V} {ps : List Addr} {ls : List (Int × Int)} (h : PairsAt H ps ls) (ha : H a = some (.lst xs)) : PairsAt (upd H a (.lst ys)) ps ls := by
  refine ⟨h.1, fun i q m h1 h2 => ?_⟩
  have e := h.2 i q m h1 h2
  have hne : q ≠ a := by
    rintro rfl
    rw [ha] at e
    cases e
  rw [upd_ne hne]
  exact e
theorem PairsAt.frL {H H' : Hp} {a : Addr} {xs : List V} {ps : List Addr} {ls : List (Int × Int)} (h : PairsAt H ps ls) (f : Fr [a] H H') (ha : H a = some (.lst xs)) : PairsAt H' ps ls := by
  refine ⟨h.1, fun i q m h1 h2 => ?_⟩
  have e := h.2 i q m h1 h2
  have hne : q ≠ a := by
    rintro rfl
    rw [ha] at e
    cases e
  exact f.at (nn2 hne) e
theorem w_neNilP {K : PySem.W.Frag} {H : Hp} {Q : VK} {a b : Addr} {ps : List Addr} {ls : List (Int × Int)} (ha : H a = some (.lst (ps.map V.ref))) (hb : H b = some (.lst [])) (h1 : PairsAt H ps ls) (k : Q (.bl (!decide (ls = []))) H) : rNeD K (.ref a) (.ref b) H Q :=
  ⟨_, _, .lst (SqL.of ha) (dpAll_pairs h1), .lst (SqL.of hb) (dpAll_pairs (ps := []) (ls := []) .nil), shaped_pairs _, shaped_pairs _, by simp only [PyData.eqv]; rw [eqvAll_pairs]; exact k⟩
theorem PairsAt.set {H : Hp} {ps : List Addr} {ls : List (Int × Int)} {t : Addr} {l : Int × Int} (h : PairsAt H ps ls) (i : Nat) (ht : H t = some (.tup [.int l.1, .int l.2])) : PairsAt H (ps.set i t) (ls.set i l) := by
  refine ⟨by rw [List.length_set, List.length_set]; exact h.1, fun j q m h1 h2 => ?_⟩
  by_cases e : i = j
  · subst e
    have hj := (List.getElem?_eq_some_iff.mp h1).1
    rw [List.length_set] at hj
    rw [List.getElem?_set_self hj] at h1
    rw [List.getElem?_set_self (by rw [← h.1]; exact hj)] at h2
    have e1 := Option.some.inj h1
    have e2 := Option.some.inj h2
    subst e1 e2
    exact ht
  · rw [List.getElem?_set_ne e] at h1 h2
    exact h.2 j q m h1 h2
/-- the lengths that the tuples tell -/
def expand (ls : List (Int × Int)) : List Int := (ls.map fun l => List.replicate l.2.toNat l.1).flatten
theorem expand_snoc (ls : List (Int × Int)) (l : Int × Int) : expand (ls ++ [l]) = expand ls ++ List.replicate l.2.toNat l.1 := by simp [expand]
theorem expand_mem {ls : List (Int × Int)} {x : Int} (h : x ∈ expand ls) : ∃ l ∈ ls, l.1 = x := by
  unfold expand at h
  obtain ⟨r, hr, hx⟩ := List.mem_flatten.mp h
  obtain ⟨l, hl, rfl⟩ := List.mem_map.mp hr
  exact ⟨l, hl, (List.mem_replicate.mp hx).2.symm⟩
/-- the tuples of all lengths above b -/
structure TimesOf (ns : List Int) (b : Int) (ls : List (Int × Int)) : Prop where
  desc : ls.Pairwise fun x y => y.1 < x.1
  above : ∀ l ∈ ls, b < l.1
  pos : ∀ l ∈ ls, 0 < l.2
  cnt : ∀ l ∈ ls, l.2 = ns.count l.1
  all : ∀ x, b < x → x ∈ ns → ∃ l ∈ ls, l.1 = x
theorem TimesOf.nil {ns : List Int} {g : Int} (h : ∀ x ∈ ns, x ≤ g) : TimesOf ns g [] := ⟨.nil, by simp, by simp, by simp, fun x h1 h2 => by have := h x h2; omega⟩
theorem TimesOf.skip {ns : List Int} {b : Int} {ls : List (Int × Int)} (h : TimesOf ns b ls) (h0 : ns.count b = 0) : TimesOf ns (b - 1) ls :=
  ⟨h.desc, fun l hl => by have := h.above l hl; omega, h.pos, h.cnt, fun x h1 h2 => h.all x (by
    by_cases e : x = b
    · subst e
      exact absurd h2 (List.count_eq_zero.mp h0)
    · omega) h2⟩
theorem TimesOf.snoc {ns : List Int} {b : Int} {ls : List (Int × Int)} (h : TimesOf ns b ls) (h0 : 0 < ns.count b) : TimesOf ns (b - 1) (ls ++ [(b, (ns.count b : Int))]) := by
  refine ⟨List.pairwise_append.mpr ⟨h.desc, by simp, fun l hl m hm => ?_⟩, fun l hl => ?_, fun l hl => ?_, fun l hl => ?_, fun x h1 h2 => ?_⟩
  · rw [List.mem_singleton.mp hm]
    exact h.above l hl
  · rcases List.mem_append.mp hl with z | z
    · have := h.above l z
      omega
    · rw [List.mem_singleton.mp z]
      show b - 1 < b
      omega
  · rcases List.mem_append.mp hl with z | z
    · exact h.pos l z
    · rw [List.mem_singleton.mp z]
      show (0 : Int) < (ns.count b : Int)
      omega
  · rcases List.mem_append.mp hl with z | z
    · exact h.cnt l z
    · rw [List.mem_singleton.mp z]
  · by_cases e : x = b
    · exact ⟨_, List.mem_append_right _ (List.mem_singleton_self _), e.symm⟩
    · obtain ⟨l, hl, e2⟩ := h.all x (by omega) h2
      exact ⟨l, List.mem_append_left _ hl, e2⟩
theorem expand_desc : ∀ {ls : List (Int × Int)}, (ls.Pairwise fun x y => y.1 < x.1) → (expand ls).Pairwise (· ≥ ·)
  | [], _ => .nil
  | l :: ls, h => by
    obtain ⟨h1, h2⟩ := List.pairwise_cons.mp h
    have e : expand (l :: ls) = List.replicate l.2.toNat l.1 ++ expand ls := by simp [expand]
    rw [e]
    refine List.pairwise_append.mpr ⟨List.pairwise_replicate.mpr (.inr (Int.le_refl _)), expand_desc h2, fun x hx y hy => ?_⟩
    rw [(List.mem_replicate.mp hx).2]
    obtain ⟨m, hm, rfl⟩ := expand_mem hy
    have := h1 m hm
    omega
theorem expand_count : ∀ {ls : List (Int × Int)} {x : Int}, (ls.Pairwise fun x y => y.1 < x.1) → (∀ l ∈ ls, 0 ≤ l.2) → (∀ l ∈ ls, l.1 = x → ((expand ls).count x : Int) = l.2) ∧ ((∀ l ∈ ls, l.1 ≠ x) → (expand ls).count x = 0)
  | [], _, _, _ => by simp [expand]
  | l :: ls, x, h, hp => by
    obtain ⟨h1, h2⟩ := List.pairwise_cons.mp h
    obtain ⟨i1, i2⟩ := expand_count (x := x) h2 fun m hm => hp m (List.mem_cons_of_mem _ hm)
    have e : expand (l :: ls) = List.replicate l.2.toNat l.1 ++ expand ls := by simp [expand]
    rw [e, List.count_append, List.count_replicate]
    have hl := hp l List.mem_cons_self
    refine ⟨fun m hm hx => ?_, fun hno => ?_⟩
    · rcases List.mem_cons.mp hm with rfl | hm
      · rw [i2 fun q hq => by have := h1 q hq; omega, if_pos (by simpa using hx)]
        omega
      · have hne : ¬ l.1 = x := by have := h1 m hm; omega
        rw [if_neg (by simpa using hne)]
        have := i1 m hm hx
        omega
    · have hne := hno l List.mem_cons_self
      rw [i2 fun q hq => hno q (List.mem_cons_of_mem _ hq), if_neg (by simpa using hne)]
theorem TimesOf.perm {ns : List Int} {ls : List (Int × Int)} (h : TimesOf ns 0 ls) (h1 : ∀ x ∈ ns, 1 ≤ x) : (expand ls).Perm ns := by
  rw [List.perm_iff_count]
  intro x
  obtain ⟨i1, i2⟩ := expand_count (x := x) h.desc fun l hl => Int.le_of_lt (h.pos l hl)
  by_cases hx : x ∈ ns
  · obtain ⟨l, hl, e⟩ := h.all x (by have := h1 x hx; omega) hx
    have a1 := i1 l hl e
    have a2 := h.cnt l hl
    rw [e] at a2
    omega
  · rw [List.count_eq_zero.mpr hx]
    refine i2 fun l hl e => ?_
    have a1 := h.pos l hl
    have a2 := h.cnt l hl
    rw [e, List.count_eq_zero.mpr hx] at a2
    omega
def spTimes (K : PySem.W.Frag) : Sp := fun vs H Q _ => ∃ (p : Addr) (ns : List Int) (g : Nat), vs = [.ref p] ∧ H p = some (.lst ((tab ns g).map V.int)) ∧ g ≤ 100000 ∧ ns.length ≤ 100000 ∧ (∀ x ∈ ns, 1 ≤ x ∧ x ≤ g) ∧
  ∀ (q : Addr) (ps : List Addr) (ls : List (Int × Int)) (H' : Hp), Fr [] H H' → H q = none → H' q = some (.lst (ps.map V.ref)) → PairsAt H' ps ls → TimesOf ns 0 ls → Q (.ref q) H'
def spLengths (K : PySem.W.Frag) : Sp := fun vs H Q _ => ∃ (p : Addr) (ns : List Int) (g : Nat), vs = [.ref p] ∧ H p = some (.lst ((tab ns g).map V.int)) ∧ g ≤ 100000 ∧ ns.length ≤ 100000 ∧ (∀ x ∈ ns, 1 ≤ x ∧ x ≤ g) ∧
  ∀ (q : Addr) (fs : List Int) (H' : Hp), Fr [] H H' → H q = none → H' q = some (.lst (fs.map V.int)) → fs.Perm ns → fs.Pairwise (· ≥ ·) → Q (.ref q) H'
theorem expand_take_le {ls : List (Int × Int)} (i : Nat) : (expand (ls.take i)).length ≤ (expand ls).length := by
  have e : expand ls = expand (ls.take i) ++ expand (ls.drop i) := by
    unfold expand
    rw [← List.flatten_append, ← List.map_append, List.take_append_drop]
  rw [e, List.length_append]
  omega
theorem ct_bound {ns : List Int} {s M : Int} (hs : 1 ≤ s) (h : ∀ x ∈ ns, 1 ≤ x ∧ x ≤ M) : 0 ≤ ct ns s ∧ ct ns s ≤ ns.length * M := by
  induction ns with
  | nil => simp [ct]
  | cons x ns ih =>
    obtain ⟨h1, h2⟩ := ih fun y hy => h y (List.mem_cons_of_mem _ hy)
    have hx := h x List.mem_cons_self
    have h3 : 0 ≤ (x - 1) / s := Int.ediv_nonneg (by omega) (by omega)
    have h4 : (x - 1) / s ≤ x - 1 := Int.ediv_le_self _ (by omega)
    rw [ct_cons, List.length_cons]
    have h5 : ((ns.length + 1 : Nat) : Int) * M = ns.length * M + M := by rw [show ((ns.length + 1 : Nat) : Int) = (ns.length : Int) + 1 by omega, Int.add_mul, Int.one_mul]
    rw [h5]
    omega
theorem tab_succ (ns : List Int) (i : Nat) : tab ns (i + 1) = tab ns i ++ [ct ns ((i : Int) + 1)] := by
  unfold tab
  rw [List.range_succ, List.map_append]
  rfl
theorem tab_mem {ns : List Int} {g : Nat} {y : Int} (h : y ∈ tab ns g) : ∃ i : Nat, i < g ∧ y = ct ns ((i : Int) + 1) := by
  obtain ⟨i, hi, e⟩ := List.mem_map.mp h
  exact ⟨i, List.mem_range.mp hi, e.symm⟩
theorem tab_perm {ns ms : List Int} (h : ns.Perm ms) (g : Nat) : tab ns g = tab ms g := by
  unfold tab ct
  congr 1
  funext i
  exact perm_sum (h.map _)
theorem ct_snoc1 {ns : List Int} {s : Int} : ct (ns ++ [1]) s = ct ns s + 1 := by
  simp [ct, List.sum_append]
theorem pw_perm_eq {xs ys : List Int} (h : xs.Perm ys) (hx : xs.Pairwise (· ≥ ·)) (hy : ys.Pairwise (· ≥ ·)) : xs = ys :=
  List.Perm.eq_of_pairwise (fun a b _ _ h1 h2 => by omega) hx hy h
theorem rev_desc {xs : List Int} (h : xs.Pairwise (· ≤ ·)) : xs.reverse.Pairwise (· ≥ ·) := List.pairwise_reverse.mpr h
/-- an exception of class D with this value is let out at H'' -/
def Raised (E : XK) (H : Hp) (D : Addr) (y : V) : Prop := ∀ (d : Addr) (H'' : Hp), Fr [] H H'' → H d = none → H'' d = some (.xd [("value", y)]) → E (.ref D) (some d) H''
theorem Raised.fr {E : XK} {H H' : Hp} {D : Addr} {y : V} (h : Raised E H D y) (f : Fr [] H H') : Raised E H' D y := fun d H'' f2 nd hd => h d H'' (f.trans f2) (f.free List.not_mem_nil nd) hd
theorem Raised.go {W : WX} {σ : L2.St} {H H' : Hp} {D : Addr} {y : V} (h : Raised (wAt W σ) H D y) (f : Fr [] H H') : ∀ d, H' d = none → W (.ref D) (some d) σ (upd H' d (.xd [("value", y)])) := fun d nd => h d _ (f.new nd) (f.free List.not_mem_nil nd) upd_same
theorem Raised.at {E : XK} {H H' : Hp} {D : Addr} {y : V} (h : Raised E H D y) (f : Fr [] H H') : ∀ d, H' d = none → E (.ref D) (some d) (upd H' d (.xd [("value", y)])) := fun d nd => h d _ (f.new nd) (f.free List.not_mem_nil nd) upd_same
set_option maxHeartbeats 4000000 in
theorem ok_InvalidNumber___init__ (T : Txt K mg c) : MDefAt P w K mg base c.InvalidNumber "__init__" "InvalidNumber.__init__" s_InvalidNumber___init__ 1 ["self", "value"] (spEInit K c.InvalidNumber) := by
  refine T.f_InvalidNumber___init__.ok sc_InvalidNumber___init__ (fun vs H Q E h => ?_) (fun _ _ _ _ _ _ us hl => match us, hl with | [_, _], _ => rfl) (fun f cdv A outer s H vs Q E hr h => ?_)
  · obtain ⟨a, y, rfl, ha, q⟩ := h
    rfl
  · obtain ⟨a, y, rfl, ha, q⟩ := h
    refine ⟨_, (pss_cons (ps_expr (pe_beinit T.xb_ (pa_cons (pv 0) (pa_cons pe_str pa_nil))))
    (pss_one (ps_ost (pv 0) (pv 1)))), ?_⟩
    refine w_start (σ' := [some (.ref a), some (y)]) rfl ?_
    walk_at "g"
    refine w_veIE (by simp) T.x_InvalidNumber.o ha ?_
    walk_at "g"
    refine w_ostE T.x_InvalidNumber.o T.x_InvalidNumber.no ha (fun dx nd ne => ?_)
    walk_at "g"
    exact q dx nd ne
set_option maxHeartbeats 4000000 in
theorem ok_InvalidChain___init__ (T : Txt K mg c) : MDefAt P w K mg base c.InvalidChain "__init__" "InvalidChain.__init__" s_InvalidChain___init__ 1 ["self", "value"] (spEInit K c.InvalidChain) := by
  refine T.f_InvalidChain___init__.ok sc_InvalidChain___init__ (fun vs H Q E h => ?_) (fun _ _ _ _ _ _ us hl => match us, hl with | [_, _], _ => rfl) (fun f cdv A outer s H vs Q E hr h => ?_)
  · obtain ⟨a, y, rfl, ha, q⟩ := h
    rfl
  · obtain ⟨a, y, rfl, ha, q⟩ := h
    refine ⟨_, (pss_cons (ps_expr (pe_beinit T.xb_ (pa_cons (pv 0) (pa_cons pe_str pa_nil))))
    (pss_one (ps_ost (pv 0) (pv 1)))), ?_⟩
    refine w_start (σ' := [some (.ref a), some (y)]) rfl ?_
    walk_at "g"
    refine w_veIE (by simp) T.x_InvalidChain.o ha ?_
    walk_at "g"
    refine w_ostE T.x_InvalidChain.o T.x_InvalidChain.no ha (fun dx nd ne => ?_)
    walk_at "g"
    exact q dx nd ne
def spCounted (K : PySem.W.Frag) : Sp := fun vs H Q _ => ∃ (p : Addr) (ns : List Int) (s : Int), vs = [.ref p, .int s] ∧ H p = some (.lst (ns.map V.int)) ∧ ns.length ≤ 1000 ∧ 0 < s ∧ s < 2 ^ 390 ∧ ∀ H', Fr [] H H' → Q (.int (ct ns s)) H'
def spSome : Sp := fun vs H Q _ => ∃ (a : Addr) (k m l : Int), vs = [.ref a, .int m, .int l] ∧ Rng H a k ∧ 0 ≤ m ∧ m ≤ 100 ∧ 1 ≤ l ∧ l < 2 ^ 200 ∧ k < 2 ^ 38 ∧
  ∀ (p : Addr) (xs : List Int) (k' : Int) (H' : Hp), xs.length ≤ m.toNat → (∀ x ∈ xs, 1 ≤ x ∧ x ≤ l) → k' ≤ k + 1000 → Rng H' a k' → Fr [a] H H' → H p = none → H' p = some (.lst (xs.map V.int)) → Q (.ref p) H'
set_option maxHeartbeats 4000000 in
theorem ok_law_counted (T : Txt K mg c) : DefAt P w K mg base "_law_counted" s_law_counted 1 ["some", "wide"] (spCounted K) := by
  refine T.f_law_counted.ok sc_law_counted (fun vs H Q E h => ?_) (fun _ _ _ _ _ _ us hl => match us, hl with | [_, _], _ => rfl) (fun f cdv A outer s H vs Q E hr h => ?_)
  · obtain ⟨p, ns, n, rfl, hp, hl, n0, n1, q⟩ := h
    rfl
  · obtain ⟨p, ns, n, rfl, hp, hl, n0, n1, q⟩ := h
    refine ⟨_, (pss_one (ps_ret (pe_callB (cr_sum rfl) (by rfl) T.n_sum (by decide +kernel) (pa_cons (pe_lc (own := [("one", 2)]) (tt := tYes) rfl sc_law_counted.nd (pi_list (pv 0)) (blkOk_by (N := sc_law_counted_N) (sc := defScope s_law_counted) (by decide +kernel)) (fun _ _ _ _ _ => (pg_name (i := 2) sc_law_counted.nd rfl (Or.inl rfl))) (fun _ _ _ _ _ => pts_nil) (fun _ _ _ _ _ => (pe_op op_add (pe_op op_fdivW (pe_op op_sub (pv 2) pe_int) (pv 1)) pe_int))) pa_nil)))), ?_⟩
    refine w_start (σ' := [some (.ref p), some (.int n), none]) rfl ?_
    walk_at "g"
    refine l_map ns (fun x => (x - 1) / n + 1) (SqL.of hp) (fun _ => rfl) (by omega) (fun i l H2 hi f2 Q2 k2 => ?_) (fun L H2 hL f2 h2 => ?_)
    · walk_at "g"
      exact k2 _ Fr.refl
    · walk_at "g"
      exact q _ f2
/-! ### chains: lists of numbers with a sum, lists of digits with a sum -/
/-- how many lists of p + 1 numbers (0 or greater) have the sum t -/
def PN : Nat → Nat → Nat
  | _, 0 => 1
  | 0, _ + 1 => 1
  | p + 1, t + 1 => PN p (t + 1) + PN (p + 1) t
/-- how many lists of p numbers have the sum t -/
def Pf : Nat → Int → Int
  | 0, t => if t = 0 then 1 else 0
  | p + 1, t => if t < 0 then 0 else (PN p t.toNat : Nat)
theorem Pf_neg {p : Nat} {t : Int} (h : t < 0) : Pf p t = 0 := by
  cases p with
  | zero => show (if t = 0 then (1 : Int) else 0) = 0; rw [if_neg (by omega)]
  | succ p => show (if t < 0 then (0 : Int) else _) = 0; rw [if_pos h]
theorem PN_pos : ∀ p t : Nat, 1 ≤ PN p t
  | p, 0 => by cases p <;> simp [PN]
  | 0, t + 1 => by simp [PN]
  | p + 1, t + 1 => by
    have := PN_pos p (t + 1)
    rw [PN]
    omega
theorem Pf_pos {p : Nat} {t : Int} (h : 0 ≤ t) : 1 ≤ Pf (p + 1) t := by
  show 1 ≤ (if t < 0 then (0 : Int) else _)
  rw [if_neg (by omega)]
  have := PN_pos p t.toNat
  omega
theorem Pf_nonneg (p : Nat) (t : Int) : 0 ≤ Pf p t := by
  cases p with
  | zero => show 0 ≤ (if t = 0 then (1 : Int) else 0); split <;> omega
  | succ p => show 0 ≤ (if t < 0 then (0 : Int) else _); split <;> omega
theorem Pf_step (p : Nat) (t : Int) : Pf (p + 1) t = Pf (p + 1) (t - 1) + Pf p t := by
  by_cases h : t < 0
  · rw [Pf_neg h, Pf_neg h, Pf_neg (by omega)]
    rfl
  · by_cases h0 : t = 0
    · subst h0
      rw [Pf_neg (p := p + 1) (t := 0 - 1) (by omega)]
      have e0 : ∀ m, PN m 0 = 1 := fun m => by cases m <;> simp [PN]
      cases p with
      | zero =>
        show (if (0 : Int) < 0 then (0 : Int) else ((PN 0 (Int.toNat 0) : Nat) : Int)) = 0 + (if (0 : Int) = 0 then 1 else 0)
        rw [if_neg (by omega), if_pos rfl, show Int.toNat 0 = 0 from rfl, e0]
        rfl
      | succ p =>
        show (if (0 : Int) < 0 then (0 : Int) else ((PN (p + 1) (Int.toNat 0) : Nat) : Int)) = 0 + (if (0 : Int) < 0 then (0 : Int) else ((PN p (Int.toNat 0) : Nat) : Int))
        rw [if_neg (by omega), if_neg (by omega), show Int.toNat 0 = 0 from rfl, e0, e0]
        rfl
    · obtain ⟨n, rfl⟩ : ∃ n : Nat, t = (n : Int) + 1 := ⟨(t - 1).toNat, by omega⟩
      have e1 : ((n : Int) + 1).toNat = n + 1 := by omega
      have e2 : ((n : Int) + 1 - 1).toNat = n := by omega
      cases p with
      | zero =>
        show (if (n : Int) + 1 < 0 then (0 : Int) else _) = (if (n : Int) + 1 - 1 < 0 then (0 : Int) else _) + (if (n : Int) + 1 = 0 then (1 : Int) else 0)
        rw [if_neg h, if_neg (by omega), if_neg h0, e1, e2]
        have e3 : ∀ m, PN 0 m = 1 := fun m => by cases m <;> simp [PN]
        rw [e3, e3, if_neg (by omega)]
        rfl
      | succ p =>
        show (if (n : Int) + 1 < 0 then (0 : Int) else _) = (if (n : Int) + 1 - 1 < 0 then (0 : Int) else _) + (if (n : Int) + 1 < 0 then (0 : Int) else _)
        rw [if_neg h, if_neg (by omega), if_neg h, e1, e2, PN]
        omega
/-- a number of lists of p digits below b with the sum t -/
def Wf (b : Nat) : Nat → Int → Int
  | 0, t => if t = 0 then 1 else 0
  | p + 1, t => ((List.range b).map fun d : Nat => Wf b p (t - d)).sum
theorem Wf_neg (b : Nat) : ∀ {p : Nat} {t : Int}, t < 0 → Wf b p t = 0
  | 0, t, h => by show (if t = 0 then (1 : Int) else 0) = 0; rw [if_neg (by omega)]
  | p + 1, t, h => by
    show ((List.range b).map fun d : Nat => Wf b p (t - d)).sum = 0
    have : ((List.range b).map fun d : Nat => Wf b p (t - d)) = (List.range b).map fun _ => (0 : Int) := List.map_congr_left fun d _ => Wf_neg b (by omega)
    rw [this]
    generalize List.range b = l
    induction l with
    | nil => rfl
    | cons x l ih => simp only [List.map_cons, List.sum_cons, ih]; rfl
theorem sum_range_succ (f : Nat → Int) (n : Nat) : ((List.range (n + 1)).map f).sum = ((List.range n).map f).sum + f n := by
  rw [List.range_succ, List.map_append, List.sum_append]
  simp
theorem Wf_step (b p : Nat) (t : Int) : Wf b (p + 1) t - Wf b (p + 1) (t - 1) = Wf b p t - Wf b p (t - b) := by
  show ((List.range b).map fun d : Nat => Wf b p (t - d)).sum - ((List.range b).map fun d : Nat => Wf b p (t - 1 - d)).sum = _
  have key : ∀ n : Nat, ((List.range n).map fun d : Nat => Wf b p (t - d)).sum - ((List.range n).map fun d : Nat => Wf b p (t - 1 - d)).sum = Wf b p t - Wf b p (t - n) := by
    intro n
    induction n with
    | zero => simp
    | succ n ih =>
      rw [sum_range_succ, sum_range_succ]
      have e : t - 1 - (n : Int) = t - ((n + 1 : Nat) : Int) := by omega
      rw [e]
      omega
  exact key b
theorem Wf_nonneg (b : Nat) : ∀ (p : Nat) (t : Int), 0 ≤ Wf b p t
  | 0, t => by show 0 ≤ (if t = 0 then (1 : Int) else 0); split <;> omega
  | p + 1, t => by
    show 0 ≤ ((List.range b).map fun d : Nat => Wf b p (t - d)).sum
    generalize List.range b = l
    induction l with
    | nil => simp
    | cons x l ih =>
      have := Wf_nonneg b p (t - x)
      simp only [List.map_cons, List.sum_cons]
      omega
theorem sum_ge_one {f : Nat → Int} (h0 : ∀ n, 0 ≤ f n) : ∀ (n d : Nat), d < n → f d ≤ ((List.range n).map f).sum
  | 0, d, h => by omega
  | n + 1, d, h => by
    rw [sum_range_succ]
    have pos : ∀ m : Nat, 0 ≤ ((List.range m).map f).sum := fun m => by
      induction m with
      | zero => simp
      | succ m ih =>
        rw [sum_range_succ]
        have := h0 m
        omega
    by_cases e : d = n
    · subst e
      have := pos d
      omega
    · have := sum_ge_one h0 n d (by omega)
      have := h0 n
      omega
theorem Wf_pos {b : Nat} (hb : 1 ≤ b) : ∀ {p : Nat} {t : Int}, 0 ≤ t → t ≤ p * ((b : Int) - 1) → 1 ≤ Wf b p t
  | 0, t, h0, h1 => by
    have e : t = 0 := by
      have : ((0 : Nat) : Int) * ((b : Int) - 1) = 0 := by simp
      omega
    show 1 ≤ (if t = 0 then (1 : Int) else 0)
    rw [if_pos e]
    exact Int.le_refl 1
  | p + 1, t, h0, h1 => by
    have e : ((p + 1 : Nat) : Int) * ((b : Int) - 1) = p * ((b : Int) - 1) + (b - 1) := by
      rw [show ((p + 1 : Nat) : Int) = (p : Int) + 1 by omega, Int.add_mul]
      omega
    have s0 : 0 ≤ (p : Int) * ((b : Int) - 1) := Int.mul_nonneg (by omega) (by omega)
    rw [e] at h1
    by_cases ht : t ≤ (b : Int) - 1
    · obtain ⟨d, hd⟩ : ∃ d : Nat, t = d := ⟨t.toNat, by omega⟩
      have hz : 1 ≤ Wf b p (t - d) := Wf_pos hb (by omega) (by rw [hd, Int.sub_self]; exact Int.mul_nonneg (by omega) (by omega))
      have := sum_ge_one (f := fun d : Nat => Wf b p (t - d)) (fun n => Wf_nonneg b p _) b d (by omega)
      exact Int.le_trans hz this
    · have hz : 1 ≤ Wf b p (t - ((b - 1 : Nat) : Int)) := Wf_pos hb (by omega) (by
        omega)
      have := sum_ge_one (f := fun d : Nat => Wf b p (t - d)) (fun n => Wf_nonneg b p _) b (b - 1) (by omega)
      exact Int.le_trans hz this
theorem Wf_over {b : Nat} (hb : 1 ≤ b) : ∀ {p : Nat} {t : Int}, (p : Int) * ((b : Int) - 1) < t → Wf b p t = 0
  | 0, t, h => by
    have : ((0 : Nat) : Int) * ((b : Int) - 1) = 0 := by simp
    show (if t = 0 then (1 : Int) else 0) = 0
    rw [if_neg (by omega)]
  | p + 1, t, h => by
    have e : ((p + 1 : Nat) : Int) * ((b : Int) - 1) = p * ((b : Int) - 1) + (b - 1) := by
      rw [show ((p + 1 : Nat) : Int) = (p : Int) + 1 by omega, Int.add_mul]
      omega
    rw [e] at h
    show ((List.range b).map fun d : Nat => Wf b p (t - d)).sum = 0
    have : ((List.range b).map fun d : Nat => Wf b p (t - d)) = (List.range b).map fun _ => (0 : Int) := List.map_congr_left fun d hd => Wf_over hb (by
      have := List.mem_range.mp hd
      omega)
    rw [this]
    generalize List.range b = l
    induction l with
    | nil => rfl
    | cons x l ih => simp only [List.map_cons, List.sum_cons, ih]; rfl
theorem Wf_iff {b : Nat} (hb : 1 ≤ b) {p : Nat} {t : Int} : 1 ≤ Wf b p t ↔ 0 ≤ t ∧ t ≤ p * ((b : Int) - 1) := by
  constructor
  · intro h
    by_cases h0 : t < 0
    · rw [Wf_neg b h0] at h
      omega
    · by_cases h1 : (p : Int) * ((b : Int) - 1) < t
      · rw [Wf_over hb h1] at h
        omega
      · omega
  · rintro ⟨h0, h1⟩
    exact Wf_pos hb h0 h1
/-- differences by steps of b -/
def Df (b : Int) : Nat → (Int → Int) → Int → Int
  | 0, f, t => f t
  | p + 1, f, t => Df b p f t - Df b p f (t - b)
theorem Df_sub (b : Int) (f g : Int → Int) : ∀ (p : Nat) (t : Int), Df b p (fun s => f s - g s) t = Df b p f t - Df b p g t
  | 0, t => rfl
  | p + 1, t => by
    show Df b p _ t - Df b p _ (t - b) = Df b p f t - Df b p f (t - b) - (Df b p g t - Df b p g (t - b))
    rw [Df_sub b f g p, Df_sub b f g p]
    omega
theorem Df_shift (b c : Int) (f : Int → Int) : ∀ (p : Nat) (t : Int), Df b p (fun s => f (s - c)) t = Df b p f (t - c)
  | 0, t => rfl
  | p + 1, t => by
    show Df b p _ t - Df b p _ (t - b) = Df b p f (t - c) - Df b p f (t - c - b)
    rw [Df_shift b c f p, Df_shift b c f p, show t - b - c = t - c - b by omega]
theorem Df_neg {b : Int} (hb : 0 ≤ b) {f : Int → Int} (hf : ∀ s, s < 0 → f s = 0) : ∀ (p : Nat) {t : Int}, t < 0 → Df b p f t = 0
  | 0, t, h => hf t h
  | p + 1, t, h => by
    show Df b p f t - Df b p f (t - b) = 0
    rw [Df_neg hb hf p h, Df_neg hb hf p (by omega)]
    rfl
/-- inclusion and exclusion -/
theorem Wf_Df (b : Nat) : ∀ (p : Nat) (t : Int), Wf b p t = Df b p (Pf p) t
  | 0, t => rfl
  | p + 1, t => by
    have go : ∀ n : Nat, Wf b (p + 1) ((n : Int) - 1) = Df b (p + 1) (Pf (p + 1)) ((n : Int) - 1) := by
      intro n
      induction n with
      | zero => rw [Wf_neg b (by omega), Df_neg (by omega) (fun s h => Pf_neg h) _ (by omega)]
      | succ n ih =>
        have e : ((n + 1 : Nat) : Int) - 1 = n := by omega
        rw [e]
        have h1 := Wf_step b p n
        have h2 : Df b (p + 1) (Pf (p + 1)) n - Df b (p + 1) (Pf (p + 1)) ((n : Int) - 1) = Df b (p + 1) (Pf p) n := by
          rw [← Df_shift b 1 (Pf (p + 1)), ← Df_sub]
          congr 1
          funext s
          have := Pf_step p s
          omega
        have h3 : Df b (p + 1) (Pf p) n = Df b p (Pf p) n - Df b p (Pf p) ((n : Int) - b) := rfl
        rw [← Wf_Df b p, ← Wf_Df b p] at h3
        omega
    by_cases h : t < 0
    · rw [Wf_neg b h, Df_neg (by omega) (fun s h => Pf_neg h) _ h]
    · have := go (t + 1).toNat
      have e : (((t + 1).toNat : Nat) : Int) - 1 = t := by omega
      rw [e] at this
      exact this
/-- binomials -/
def ch : Nat → Nat → Nat
  | _, 0 => 1
  | 0, _ + 1 => 0
  | n + 1, k + 1 => ch n k + ch n (k + 1)
theorem ch_gt : ∀ {n k : Nat}, n < k → ch n k = 0
  | n, 0, h => by omega
  | 0, k + 1, _ => rfl
  | n + 1, k + 1, h => by
    rw [ch, ch_gt (by omega), ch_gt (by omega)]
theorem ch_succ : ∀ n k : Nat, ch n (k + 1) * (k + 1) = ch n k * (n - k)
  | 0, k => by simp [ch]
  | n + 1, 0 => by
    have h := ch_succ n 0
    have e : ∀ m, ch m 0 = 1 := fun m => by cases m <;> rfl
    have e2 : ch (n + 1) (0 + 1) = ch n 0 + ch n (0 + 1) := rfl
    rw [e2, Nat.add_mul, h, e, e]
    omega
  | n + 1, k + 1 => by
    have h1 := ch_succ n (k + 1)
    have h2 := ch_succ n k
    rw [ch, ch]
    have e1 : n + 1 - (k + 1) = n - k := by omega
    rw [e1, Nat.add_mul, h1, Nat.add_mul, ← h2]
    by_cases hk : k + 1 ≤ n
    · have e3 : ch n (k + 1) * (n - k) = ch n (k + 1) * (n - (k + 1)) + ch n (k + 1) := by
        rw [show n - k = (n - (k + 1)) + 1 by omega, Nat.mul_add, Nat.mul_one]
      have e4 : ch n (k + 1) * (k + 1 + 1) = ch n (k + 1) * (k + 1) + ch n (k + 1) := by rw [Nat.mul_add, Nat.mul_one]
      omega
    · rw [ch_gt (n := n) (k := k + 1) (by omega)]
      simp
theorem ch_one : ∀ n, ch n n = 1
  | 0 => rfl
  | n + 1 => by rw [ch, ch_one n, ch_gt (by omega)]
theorem PN_ch : ∀ p t : Nat, PN p t = ch (t + p) p
  | p, 0 => by
    rw [Nat.zero_add, ch_one]
    cases p <;> simp [PN]
  | 0, t + 1 => by simp [PN, ch]
  | p + 1, t + 1 => by
    rw [PN, PN_ch p (t + 1), PN_ch (p + 1) t, show t + 1 + (p + 1) = t + 1 + p + 1 by omega, ch, show t + (p + 1) = t + 1 + p by omega]
/-- the sum of sums_of_digits up to a term -/
def Af (b : Int) (p : Nat) (f : Int → Int) (t : Int) : Nat → Int
  | 0 => 0
  | n + 1 => Af b p f t n + (if n % 2 = 0 then 1 else -1) * (ch p n : Nat) * f (t - n * b)
theorem Af_next (b : Int) (p : Nat) (f : Int → Int) (t : Int) : ∀ n, Af b (p + 1) f t (n + 1) = Af b p f t (n + 1) - Af b p f (t - b) n
  | 0 => by
    show 0 + _ * ((ch (p + 1) 0 : Nat) : Int) * _ = 0 + _ * ((ch p 0 : Nat) : Int) * _ - 0
    have e : ∀ m, ch m 0 = 1 := fun m => by cases m <;> rfl
    rw [e, e]
    omega
  | n + 1 => by
    have ih := Af_next b p f t n
    show Af b (p + 1) f t (n + 1) + (if (n + 1) % 2 = 0 then (1 : Int) else -1) * ((ch (p + 1) (n + 1) : Nat) : Int) * f (t - ((n + 1 : Nat) : Int) * b) =
      Af b p f t (n + 1) + (if (n + 1) % 2 = 0 then (1 : Int) else -1) * ((ch p (n + 1) : Nat) : Int) * f (t - ((n + 1 : Nat) : Int) * b) - (Af b p f (t - b) n + (if n % 2 = 0 then (1 : Int) else -1) * ((ch p n : Nat) : Int) * f (t - b - (n : Int) * b))
    have e1 : t - b - (n : Int) * b = t - ((n + 1 : Nat) : Int) * b := by
      rw [show ((n + 1 : Nat) : Int) = (n : Int) + 1 by omega, Int.add_mul]
      omega
    have e2 : (if (n + 1) % 2 = 0 then (1 : Int) else -1) = -(if n % 2 = 0 then (1 : Int) else -1) := by
      by_cases h : n % 2 = 0
      · rw [if_pos h, if_neg (by omega)]
      · rw [if_neg h, if_pos (by omega)]
        rfl
    rw [e1, e2, ih, ch, show ((ch p n + ch p (n + 1) : Nat) : Int) = (ch p n : Int) + (ch p (n + 1) : Int) by omega]
    generalize (if n % 2 = 0 then (1 : Int) else -1) = s
    rw [Int.mul_add, Int.add_mul]
    have : -s * (ch p n : Int) * f (t - ((n + 1 : Nat) : Int) * b) = -(s * (ch p n : Int) * f (t - ((n + 1 : Nat) : Int) * b)) := by
      rw [Int.neg_mul, Int.neg_mul]
    rw [this]
    omega
theorem Af_Df (b : Int) : ∀ (p : Nat) (f : Int → Int) (t : Int), Df b p f t = Af b p f t (p + 1)
  | 0, f, t => by
    show f t = 0 + (1 : Int) * ((1 : Nat) : Int) * f (t - ((0 : Nat) : Int) * b)
    simp
  | p + 1, f, t => by
    show Df b p f t - Df b p f (t - b) = _
    rw [Af_next, Af_Df b p f t, Af_Df b p f (t - b)]
    have : Af b p f t (p + 1 + 1) = Af b p f t (p + 1) := by
      show Af b p f t (p + 1) + _ * ((ch p (p + 1) : Nat) : Int) * _ = _
      rw [ch_gt (by omega)]
      simp
    rw [this]
/-- the terms beyond are none -/
theorem Af_stop {b : Int} (hb : 0 ≤ b) {p : Nat} {f : Int → Int} (hf : ∀ s, s < 0 → f s = 0) {t : Int} {n : Nat} (h : t - n * b < 0) : ∀ k, Af b p f t (n + k) = Af b p f t n
  | 0 => rfl
  | k + 1 => by
    show Af b p f t (n + k) + _ * _ * f (t - ((n + k : Nat) : Int) * b) = _
    have : ((n + k : Nat) : Int) * b = n * b + k * b := by rw [show ((n + k : Nat) : Int) = (n : Int) + k by omega, Int.add_mul]
    have k0 : 0 ≤ (k : Int) * b := Int.mul_nonneg (by omega) hb
    rw [Af_stop hb hf h k, hf _ (by omega)]
    simp
/-! ### books of a chain -/
def gp (c : Nat) : Int → Int → List (Int × Int) → Int
  | left, _, [] => Pf c left
  | left, unit, l :: rest => if l.2 - c < 0 then 0 else Wf (l.1 / unit).toNat c (left - (l.1 / unit) * (l.2 - c)) * gp c (l.2 - c) l.1 rest
def cnt (c : Nat) (n : Int) (ls : List (Int × Int)) : Int :=
  if c = 0 then (if n = 0 ∧ ∀ l ∈ ls, l.2 = 0 then 1 else 0) else if n < c then 0 else gp c (n - c) 1 ls
/-- sizes that divide one another, going up -/
def Chain : Int → List (Int × Int) → Prop
  | _, [] => True
  | u, l :: rest => u ≤ l.1 ∧ u ∣ l.1 ∧ Chain l.1 rest
theorem chain_base {u : Int} {l : Int × Int} (hu : 1 ≤ u) (h : u ≤ l.1) : 1 ≤ l.1 / u := by
  have := (Int.le_ediv_iff_mul_le (c := u) (a := 1) (b := l.1) (by omega)).mpr (by omega)
  exact this
def okP (c : Nat) : Int → Int → List (Int × Int) → Prop
  | _, _, [] => True
  | left, unit, l :: rest => 0 ≤ l.2 - c ∧ (0 ≤ left - (l.1 / unit) * (l.2 - c) ∧ left - (l.1 / unit) * (l.2 - c) ≤ c * ((l.1 / unit) - 1)) ∧ okP c (l.2 - c) l.1 rest
theorem gp_nonneg (c : Nat) : ∀ (ls : List (Int × Int)) (left unit : Int), 0 ≤ gp c left unit ls
  | [], left, unit => Pf_nonneg c left
  | l :: rest, left, unit => by
    show 0 ≤ (if l.2 - c < 0 then (0 : Int) else _)
    split
    · exact Int.le_refl 0
    · exact Int.mul_nonneg (Wf_nonneg _ _ _) (gp_nonneg c rest _ _)
theorem mul_one_le {a b : Int} (ha : 0 ≤ a) (hb : 0 ≤ b) : 1 ≤ a * b ↔ 1 ≤ a ∧ 1 ≤ b := by
  constructor
  · intro h
    constructor
    · apply Int.not_lt.mp
      intro z
      have e : a = 0 := by omega
      rw [e, Int.zero_mul] at h
      omega
    · apply Int.not_lt.mp
      intro z
      have e : b = 0 := by omega
      rw [e, Int.mul_zero] at h
      omega
  · rintro ⟨h1, h2⟩
    have := Int.mul_le_mul h1 h2 (by omega) (by omega)
    omega
theorem gp_ok {c : Nat} (hc : 0 < c) : ∀ (ls : List (Int × Int)) (left unit : Int), 0 ≤ left → 1 ≤ unit → Chain unit ls → (1 ≤ gp c left unit ls ↔ okP c left unit ls)
  | [], left, unit, h0, _, _ => by
    obtain ⟨d, rfl⟩ : ∃ d, c = d + 1 := ⟨c - 1, by omega⟩
    exact ⟨fun _ => trivial, fun _ => Pf_pos h0⟩
  | l :: rest, left, unit, h0, hu, hch => by
    obtain ⟨h1, _, h3⟩ := hch
    have hb := chain_base hu h1
    show 1 ≤ (if l.2 - c < 0 then (0 : Int) else _) ↔ (0 ≤ l.2 - c ∧ _)
    by_cases hm : l.2 - c < 0
    · rw [if_pos hm]
      constructor
      · intro z; omega
      · intro z; omega
    · rw [if_neg hm, mul_one_le (Wf_nonneg _ _ _) (gp_nonneg c rest _ _), Wf_iff (by omega), gp_ok hc rest (l.2 - c) l.1 (by omega) (by omega) h3]
      have eb : (((l.1 / unit).toNat : Nat) : Int) = l.1 / unit := by omega
      rw [eb]
      constructor
      · rintro ⟨z1, z2⟩
        exact ⟨by omega, z1, z2⟩
      · rintro ⟨_, z1, z2⟩
        exact ⟨z1, z2⟩
theorem ok_zero : ∀ (ls : List (Int × Int)) (unit : Int), 1 ≤ unit → Chain unit ls → (okP 0 0 unit ls ↔ ∀ l ∈ ls, l.2 = 0)
  | [], _, _, _ => by simp [okP]
  | l :: rest, unit, hu, hch => by
    obtain ⟨h1, _, h3⟩ := hch
    have hb := chain_base hu h1
    have ih := ok_zero rest l.1 (by omega) h3
    show (0 ≤ l.2 - ((0 : Nat) : Int) ∧ (0 ≤ (0 : Int) - (l.1 / unit) * (l.2 - ((0 : Nat) : Int)) ∧ (0 : Int) - (l.1 / unit) * (l.2 - ((0 : Nat) : Int)) ≤ ((0 : Nat) : Int) * ((l.1 / unit) - 1)) ∧ okP 0 (l.2 - ((0 : Nat) : Int)) l.1 rest) ↔ _
    have e0 : l.2 - ((0 : Nat) : Int) = l.2 := by omega
    rw [e0]
    constructor
    · rintro ⟨z0, ⟨z1, _⟩, z3⟩ m hm
      have hz : l.2 = 0 := by
        have h5 : 1 * l.2 ≤ (l.1 / unit) * l.2 := Int.mul_le_mul_of_nonneg_right hb z0
        omega
      rw [hz] at z3
      rcases List.mem_cons.mp hm with rfl | hm
      · exact hz
      · exact ih.mp z3 m hm
    · intro h
      have hz := h l List.mem_cons_self
      rw [hz]
      refine ⟨by omega, ?_, ih.mpr fun m hm => h m (List.mem_cons_of_mem _ hm)⟩
      rw [Int.mul_zero]
      simp
theorem Chain.take : ∀ {ls : List (Int × Int)} {u : Int}, Chain u ls → ∀ i, Chain u (ls.take i)
  | [], _, _, i => by simp [Chain]
  | l :: rest, u, h, 0 => trivial
  | l :: rest, u, ⟨h1, h2, h3⟩, i + 1 => ⟨h1, h2, Chain.take h3 i⟩
/-- what stands for a prefix that is right -/
def right (c : Nat) (n : Int) (ls : List (Int × Int)) : Prop := (c : Int) ≤ n ∧ (c = 0 → n = 0) ∧ okP c (n - c) 1 ls
theorem cnt_right {c : Nat} {n : Int} {ls : List (Int × Int)} (h : Chain 1 ls) (hn : 0 ≤ n) : cnt c n ls ≠ 0 ↔ right c n ls := by
  unfold cnt right
  by_cases hc : c = 0
  · subst hc
    rw [if_pos rfl]
    by_cases h0 : n = 0
    · subst h0
      have e : (0 : Int) - ((0 : Nat) : Int) = 0 := by omega
      rw [e, ok_zero ls 1 (by omega) h]
      constructor
      · intro z
        refine ⟨by omega, fun _ => rfl, ?_⟩
        by_cases hz : ∀ l ∈ ls, l.2 = 0
        · exact hz
        · rw [if_neg fun q => hz q.2] at z
          exact absurd rfl z
      · rintro ⟨_, _, z⟩
        rw [if_pos ⟨rfl, z⟩]
        decide
    · rw [if_neg fun q => h0 q.1]
      constructor
      · intro z; exact absurd rfl z
      · rintro ⟨_, z, _⟩
        exact absurd (z rfl) h0
  · rw [if_neg hc]
    by_cases hl : n < c
    · rw [if_pos hl]
      constructor
      · intro z; exact absurd rfl z
      · rintro ⟨z, _⟩; omega
    · rw [if_neg hl, ← gp_ok (by omega) ls (n - c) 1 (by omega) (by omega) h]
      have := gp_nonneg c ls (n - c) 1
      constructor
      · intro z
        exact ⟨by omega, fun q => absurd q hc, by omega⟩
      · rintro ⟨_, _, z⟩
        omega
theorem cnt_nonneg (c : Nat) (n : Int) (ls : List (Int × Int)) : 0 ≤ cnt c n ls := by
  unfold cnt
  split
  · split <;> omega
  · split
    · exact Int.le_refl 0
    · exact gp_nonneg _ _ _ _
/-- the first prefix that is not right -/
def badAt (i : Nat) : Int × Int := if i = 0 then (-1, -1) else ((i : Int) - 2, (i : Int) - 1)
def FirstBad (P : Nat → Prop) (n : Nat) (d : Option (Int × Int)) : Prop := (d = none ∧ ∀ i, i ≤ n → P i) ∨ ∃ i, i ≤ n ∧ d = some (badAt i) ∧ ¬ P i ∧ ∀ j, j < i → P j
theorem FirstBad.uniq {P R : Nat → Prop} {n : Nat} {d e : Option (Int × Int)} (h : FirstBad P n d) (k : FirstBad R n e) (hr : ∀ i, i ≤ n → (P i ↔ R i)) : d = e := by
  rcases h with ⟨rfl, h⟩ | ⟨i, hi, rfl, h1, h2⟩ <;> rcases k with ⟨rfl, k⟩ | ⟨j, hj, rfl, k1, k2⟩
  · rfl
  · exact absurd ((hr j hj).mp (h j hj)) k1
  · exact absurd ((hr i hi).mpr (k i hi)) h1
  · have : i = j := by
      rcases Nat.lt_trichotomy i j with z | z | z
      · exact absurd ((hr i hi).mpr (k2 i z)) h1
      · exact z
      · exact absurd ((hr j hj).mp (h2 j z)) k1
    rw [this]
theorem FirstBad.none_iff {P : Nat → Prop} {n : Nat} {d : Option (Int × Int)} (h : FirstBad P n d) (mono : ∀ i, i ≤ n → P n → P i) : d = none ↔ P n := by
  rcases h with ⟨rfl, h⟩ | ⟨i, hi, rfl, h1, h2⟩
  · exact ⟨fun _ => h n (Nat.le_refl n), fun _ => rfl⟩
  · exact ⟨fun z => (nomatch z), fun z => absurd (mono i hi z) h1⟩
/-- conditions item by item -/
def cnd (c : Nat) (left unit : Int) (l : Int × Int) : Prop := 0 ≤ l.2 - c ∧ (0 ≤ left - (l.1 / unit) * (l.2 - c) ∧ left - (l.1 / unit) * (l.2 - c) ≤ c * ((l.1 / unit) - 1))
/-- what is left and the unit, behind some items -/
def lu (c : Nat) (left unit : Int) (ls : List (Int × Int)) : Int × Int := ls.foldl (fun _ l => (l.2 - c, l.1)) (left, unit)
theorem okP_snoc (c : Nat) : ∀ (ls : List (Int × Int)) (left unit : Int) (l : Int × Int), okP c left unit (ls ++ [l]) ↔ okP c left unit ls ∧ cnd c (lu c left unit ls).1 (lu c left unit ls).2 l
  | [], left, unit, l => by
    show (0 ≤ l.2 - c ∧ _ ∧ True) ↔ True ∧ cnd c left unit l
    unfold cnd
    constructor
    · rintro ⟨a, b, _⟩; exact ⟨trivial, a, b⟩
    · rintro ⟨_, a, b⟩; exact ⟨a, b, trivial⟩
  | m :: rest, left, unit, l => by
    have ih := okP_snoc c rest (m.2 - c) m.1 l
    show (0 ≤ m.2 - c ∧ _ ∧ okP c (m.2 - c) m.1 (rest ++ [l])) ↔ (0 ≤ m.2 - c ∧ _ ∧ okP c (m.2 - c) m.1 rest) ∧ cnd c (lu c (m.2 - c) m.1 rest).1 (lu c (m.2 - c) m.1 rest).2 l
    rw [ih]
    constructor
    · rintro ⟨a, b, d, e⟩; exact ⟨⟨a, b, d⟩, e⟩
    · rintro ⟨⟨a, b, d⟩, e⟩; exact ⟨a, b, d, e⟩
theorem lu_snoc (c : Nat) (left unit : Int) (ls : List (Int × Int)) (l : Int × Int) : lu c left unit (ls ++ [l]) = (l.2 - c, l.1) := by simp [lu]
theorem okP_mono (c : Nat) (left unit : Int) (ls : List (Int × Int)) {i j : Nat} (hij : i ≤ j) (h : okP c left unit (ls.take j)) : okP c left unit (ls.take i) := by
  have key : ∀ (as bs : List (Int × Int)) (left unit : Int), okP c left unit (as ++ bs) → okP c left unit as := by
    intro as
    induction as with
    | nil => intro _ _ _ _; trivial
    | cons a as ih =>
      intro bs left unit h
      exact ⟨h.1, h.2.1, ih bs _ _ h.2.2⟩
  have e : ls.take j = ls.take i ++ (ls.drop i).take (j - i) := by
    rw [show j = i + (j - i) by omega, List.take_add]
    congr 2
    omega
  rw [e] at h
  exact key _ _ _ _ h
/-- as check_fitting wants it: each size greater than the one before, and a multiple of it -/
def VChain : Int → List (Int × Int) → Prop
  | _, [] => True
  | u, l :: rest => u < l.1 ∧ (0 < u → l.1 % u = 0) ∧ VChain l.1 rest
theorem VChain.up : ∀ {ls : List (Int × Int)} {u : Int}, 0 < u → VChain u ls → Chain u ls
  | [], _, _, _ => trivial
  | l :: rest, u, hu, ⟨h1, h2, h3⟩ => ⟨by omega, Int.dvd_of_emod_eq_zero (h2 hu), VChain.up (by omega) h3⟩
theorem VChain.chain {ls : List (Int × Int)} (h : VChain 0 ls) : Chain 1 ls := by
  cases ls with
  | nil => trivial
  | cons l rest => exact ⟨by have := h.1; omega, Int.one_dvd _, VChain.up (by have := h.1; omega) h.2.2⟩
def spCheckF (K : PySem.W.Frag) : Sp := fun vs H Q _ => ∃ (p : Addr) (ps : List Addr) (ls : List (Int × Int)) (c n : Int), vs = [.int c, .int n, .ref p] ∧ H p = some (.lst (ps.map V.ref)) ∧ PairsAt H ps ls ∧ 0 ≤ c ∧ 0 ≤ n ∧ VChain 0 ls ∧ ps.length ≤ 1000 ∧ ∀ H', Fr [] H H' → Q .non H'
def spBin : Sp := fun vs H Q _ => ∃ (m f : Nat), vs = [.int m, .int f] ∧ m < 2 ^ 200 ∧ f ≤ 100 ∧ Q (.int (ch m f : Nat)) H
def spSums : Sp := fun vs H Q _ => ∃ (p b : Nat) (t : Int), vs = [.int p, .int b, .int t] ∧ 1 ≤ p ∧ p ≤ 60 ∧ 1 ≤ b ∧ b < 2 ^ 180 ∧ -(2 ^ 390) < t ∧ t < 2 ^ 190 ∧ Q (.int (Wf b p t)) H
structure Sized (c : Nat) (n : Int) (ls : List (Int × Int)) : Prop where
  c : c ≤ 60
  n0 : 0 ≤ n
  n1 : n < 2 ^ 150
  l : ls.length ≤ 40
  s : ∀ l ∈ ls, l.1 < 2 ^ 150 ∧ -(2 ^ 150) < l.2 ∧ l.2 < 2 ^ 150
def spCountOf (K : PySem.W.Frag) : Sp := fun vs H Q _ => ∃ (p : Addr) (ps : List Addr) (ls : List (Int × Int)) (c : Nat) (n : Int), vs = [.int c, .int n, .ref p] ∧ H p = some (.lst (ps.map V.ref)) ∧ PairsAt H ps ls ∧ Chain 1 ls ∧ Sized c n ls ∧ ∀ H', Fr [] H H' → Q (.int (cnt c n ls)) H'
def spCountF (K : PySem.W.Frag) : Sp := fun vs H Q _ => ∃ (p : Addr) (ps : List Addr) (ls : List (Int × Int)) (c : Nat) (n : Int), vs = [.int c, .int n, .ref p] ∧ H p = some (.lst (ps.map V.ref)) ∧ PairsAt H ps ls ∧ VChain 0 ls ∧ Sized c n ls ∧ ∀ H', Fr [] H H' → Q (.int (cnt c n ls)) H'
/-- None, or a tuple of two numbers -/
def DV (d : Option (Int × Int)) (v : V) (H : Hp) : Prop := (d = none ∧ v = .non) ∨ ∃ (T : Addr) (x : Int × Int), d = some x ∧ v = .ref T ∧ H T = some (.tup [.int x.1, .int x.2])
theorem DV.fr {d : Option (Int × Int)} {v : V} {H H' : Hp} (h : DV d v H) (f : Fr [] H H') : DV d v H' := by
  rcases h with h | ⟨T, x, h1, h2, h3⟩
  · exact .inl h
  · exact .inr ⟨T, x, h1, h2, f.at0 h3⟩
def spContra (K : PySem.W.Frag) : Sp := fun vs H Q _ => ∃ (p : Addr) (ps : List Addr) (ls : List (Int × Int)) (c : Nat) (n : Int), vs = [.int c, .int n, .ref p] ∧ H p = some (.lst (ps.map V.ref)) ∧ PairsAt H ps ls ∧ VChain 0 ls ∧ Sized c n ls ∧ ∀ d v H', FirstBad (fun i => cnt c n (ls.take i) ≠ 0) ls.length d → DV d v H' → Fr [] H H' → Q v H'
theorem PairsAt.take {H : Hp} {ps : List Addr} {ls : List (Int × Int)} (h : PairsAt H ps ls) (i : Nat) : PairsAt H (ps.take i) (ls.take i) := by
  refine ⟨by rw [List.length_take, List.length_take, h.1], fun j q m h1 h2 => ?_⟩
  have hj := (List.getElem?_eq_some_iff.mp h1).1
  rw [List.length_take] at hj
  rw [List.getElem?_take_of_lt (by omega)] at h1 h2
  exact h.2 j q m h1 h2
theorem ch_zero : ∀ m, ch m 0 = 1 := fun m => by cases m <;> rfl
theorem bin_step (m i : Nat) : ((ch m i : Nat) : Int) * ((m : Int) - (0 + (i : Int))) / (0 + (i : Int) + 1) = ((ch m (i + 1) : Nat) : Int) := by
  have h := ch_succ m i
  have e1 : (0 : Int) + i = i := by omega
  rw [e1]
  by_cases hi : i ≤ m
  · have e2 : (m : Int) - i = ((m - i : Nat) : Int) := by omega
    have e3 : ((ch m i : Nat) : Int) * ((m - i : Nat) : Int) = ((ch m (i + 1) : Nat) : Int) * ((i : Int) + 1) := by exact_mod_cast h.symm
    rw [e2, e3, Int.mul_ediv_cancel _ (by omega)]
  · rw [ch_gt (n := m) (k := i) (by omega), ch_gt (n := m) (k := i + 1) (by omega)]
    simp
theorem ch_le {m : Nat} (hm : m < 2 ^ 200) : ∀ k, ch m k ≤ 2 ^ (200 * k)
  | 0 => by rw [ch_zero]; exact Nat.one_le_two_pow
  | k + 1 => by
    have ih := ch_le hm k
    have h := ch_succ m k
    have h1 : ch m (k + 1) ≤ ch m (k + 1) * (k + 1) := Nat.le_mul_of_pos_right _ (by omega)
    have h2 : ch m k * (m - k) ≤ 2 ^ (200 * k) * 2 ^ 200 := Nat.mul_le_mul ih (by omega)
    rw [Nat.mul_add, Nat.pow_add, Nat.mul_one]
    omega
theorem ch_two : ∀ n k, ch n k ≤ 2 ^ n
  | n, 0 => by rw [ch_zero]; exact Nat.one_le_two_pow
  | 0, k + 1 => Nat.zero_le _
  | n + 1, k + 1 => by
    have h1 := ch_two n k
    have h2 := ch_two n (k + 1)
    rw [ch, Nat.pow_succ]
    omega
theorem bin_mul {m i : Nat} (hm : m < 2 ^ 200) (hi : i ≤ 100) : CMulW ((ch m i : Nat) : Int) ((m : Int) - (0 + (i : Int))) := by
  refine cmulW (a := 20001) (b := 201) ?_ ?_ (by decide) (by decide) (by decide)
  · have h1 := ch_le hm i
    have h2 : 2 ^ (200 * i) ≤ 2 ^ 20000 := Nat.pow_le_pow_right (by decide) (by omega)
    rw [Int.natAbs_natCast]
    exact Nat.lt_of_le_of_lt (Nat.le_trans h1 h2) (Nat.pow_lt_pow_right (by decide) (by decide))
  · omega
theorem Pf_ch {u : Nat} {t : Int} (hu : 1 ≤ u) (ht : 0 ≤ t) : Pf u t = ((ch (t.toNat + u - 1) (u - 1) : Nat) : Int) := by
  obtain ⟨p, rfl⟩ : ∃ p, u = p + 1 := ⟨u - 1, by omega⟩
  show (if t < 0 then (0 : Int) else _) = _
  rw [if_neg (by omega), PN_ch]
  rfl
theorem Pf_le {u : Nat} {t : Int} (hu : 1 ≤ u) (hu2 : u ≤ 60) (ht : t < 2 ^ 199) : Pf u t ≤ ((2 ^ 12000 : Nat) : Int) := by
  by_cases h : t < 0
  · rw [Pf_neg h]
    exact Int.natCast_nonneg _
  · rw [Pf_ch hu (by omega)]
    have h1 := ch_le (m := t.toNat + u - 1) (by omega) (u - 1)
    have h2 : 2 ^ (200 * (u - 1)) ≤ 2 ^ 12000 := Nat.pow_le_pow_right (by decide) (by omega)
    exact_mod_cast Nat.le_trans h1 h2
theorem Wf_le (b : Nat) : ∀ (p : Nat) (t : Int), Wf b p t ≤ Pf p t
  | 0, t => Int.le_refl _
  | p + 1, t => by
    have go : ∀ n : Nat, Wf b (p + 1) ((n : Int) - 1) ≤ Pf (p + 1) ((n : Int) - 1) := by
      intro n
      induction n with
      | zero => rw [Wf_neg b (by omega), Pf_neg (by omega)]; exact Int.le_refl 0
      | succ n ih =>
        have e : ((n + 1 : Nat) : Int) - 1 = n := by omega
        rw [e]
        have h1 := Wf_step b p n
        have h2 := Pf_step p n
        have h3 := Wf_le b p n
        have h4 := Wf_nonneg b p ((n : Int) - b)
        omega
    by_cases h : t < 0
    · rw [Wf_neg b h, Pf_neg h]; exact Int.le_refl 0
    · have := go (t + 1).toNat
      have e : (((t + 1).toNat : Nat) : Int) - 1 = t := by omega
      rw [e] at this
      exact this
theorem Wf_Af {b u : Nat} {t : Int} {j : Nat} (hj : j ≤ u + 1) (h : j = u + 1 ∨ t - j * b < 0) : Af b u (Pf u) t j = Wf b u t := by
  rw [Wf_Df, Af_Df]
  rcases h with rfl | h
  · rfl
  · have := Af_stop (b := (b : Int)) (by omega) (p := u) (fun s hs => Pf_neg (p := u) hs) h (u + 1 - j)
    rw [show j + (u + 1 - j) = u + 1 by omega] at this
    exact this.symm
theorem nat_mul {a b : Int} {i : Nat} (a0 : 0 ≤ a) (a1 : a ≤ ((2 ^ (12000 * i) : Nat) : Int)) (b0 : 0 ≤ b) (b1 : b ≤ ((2 ^ 12000 : Nat) : Int)) (hi : i ≤ 40) : CMulW a b := by
  refine cmulW (a := 480001) (b := 12001) ?_ ?_ (by decide) (by decide) (by decide)
  · have h1 : (a.natAbs : Int) ≤ ((2 ^ (12000 * i) : Nat) : Int) := by rw [Int.natAbs_of_nonneg a0]; exact a1
    have h2 : a.natAbs ≤ 2 ^ (12000 * i) := by exact_mod_cast h1
    exact Nat.lt_of_le_of_lt h2 (Nat.pow_lt_pow_right (by decide) (by omega))
  · have h1 : (b.natAbs : Int) ≤ ((2 ^ 12000 : Nat) : Int) := by rw [Int.natAbs_of_nonneg b0]; exact b1
    have h2 : b.natAbs ≤ 2 ^ 12000 := by exact_mod_cast h1
    exact Nat.lt_of_le_of_lt h2 (Nat.pow_lt_pow_right (by decide) (by decide))
theorem pow_step {a b : Int} {i : Nat} (a0 : 0 ≤ a) (a1 : a ≤ ((2 ^ (12000 * i) : Nat) : Int)) (b0 : 0 ≤ b) (b1 : b ≤ ((2 ^ 12000 : Nat) : Int)) : a * b ≤ ((2 ^ (12000 * (i + 1)) : Nat) : Int) := by
  rw [Nat.mul_add, Nat.pow_add, Nat.mul_one, Int.natCast_mul]
  exact Int.mul_le_mul a1 b1 b0 (Int.natCast_nonneg _)
set_option maxHeartbeats 4000000 in
theorem ok_binomial (T : Txt K mg c) : DefAt P w K mg base "binomial" s_binomial 1 ["many", "few"] spBin := by
  refine T.f_binomial.ok sc_binomial (fun vs H Q E h => ?_) (fun _ _ _ _ _ _ us hl => match us, hl with | [_, _], _ => rfl) (fun f cdv A outer s H vs Q E hr h => ?_)
  · obtain ⟨m, d, rfl, hm, hd, q⟩ := h
    rfl
  · obtain ⟨m, d, rfl, hm, hd, q⟩ := h
    refine ⟨_, (pss_cons (ps_set (i := 2) sc_binomial.nd rfl (Or.inl rfl) pe_int)
    (pss_cons (ps_for PassesOwn.never rfl (pi_range1 (by rfl) T.n_range (pa_cons (pv 1) pa_nil)) (pg_name (i := 3) sc_binomial.nd rfl (Or.inl rfl)) (pss_one (ps_set (i := 2) sc_binomial.nd rfl (Or.inl rfl) (pe_op op_fdivW (pe_op op_mulW (pv 2) (pe_op op_sub (pv 0) (pv 3))) (pe_op op_add (pv 3) pe_int)))))
    (pss_one (ps_ret (pv 2))))), ?_⟩
    refine w_start (σ' := [some (.int m), some (.int d), none, none]) rfl ?_
    walk_at "g"
    refine f_range (fun i σ' H' => ∃ o : Option V, σ' = [some (.int m), some (.int d), some (.int (ch m i : Nat)), o] ∧ H' = H) ⟨none, by rw [ch_zero]; rfl, rfl⟩ ?_ ?_
    · rintro i σ' H' hi ⟨o, rfl, rfl⟩
      have hmul := bin_mul (m := m) (i := i) hm (by omega)
      have hdiv := bin_step m i
      walk_at "g"
      rw [hdiv]
      exact ⟨_, rfl, rfl⟩
    · rintro σ' H' ⟨o, rfl, rfl⟩
      walk_at "g"
      exact q
set_option maxHeartbeats 4000000 in
theorem ok_sums_of_digits (T : Txt K mg c) : DefAt P w K mg base "sums_of_digits" s_sums_of_digits 2 ["places", "base", "total"] spSums := by
  have D_binomial := ok_binomial (P := P) (w := w) (base := base) T
  refine T.f_sums_of_digits.ok sc_sums_of_digits (fun vs H Q E h => ?_) (fun _ _ _ _ _ _ us hl => match us, hl with | [_, _, _], _ => rfl) (fun f cdv A outer s H vs Q E hr h => ?_)
  · obtain ⟨u, b, t, rfl, u0, u1, b0, b1, t0, t1, q⟩ := h
    rfl
  · obtain ⟨u, b, t, rfl, u0, u1, b0, b1, t0, t1, q⟩ := h
    refine ⟨_, (pss_cons (ps_set (i := 3) sc_sums_of_digits.nd rfl (Or.inl rfl) pe_int)
    (pss_cons (ps_set (i := 4) sc_sums_of_digits.nd rfl (Or.inl rfl) pe_int)
    (pss_cons (ps_for PassesOwn.never rfl (pi_range1 (by rfl) T.n_range (pa_cons (pe_op op_add (pv 0) pe_int) pa_nil)) (pg_name (i := 5) sc_sums_of_digits.nd rfl (Or.inl rfl)) (pss_cons (ps_set (i := 6) sc_sums_of_digits.nd rfl (Or.inl rfl) (pe_op op_sub (pv 2) (pe_op op_mulW (pv 5) (pv 1))))
    (pss_cons (ps_if (pt_cmpR op_lt (pv 6) pe_int (nomark _)) (pss_one (ps_ret (pv 3))) pss_nil)
    (pss_cons (ps_aug (i := 3) sc_sums_of_digits.nd rfl (Or.inl rfl) (pe_op op_mulW (pe_op op_mulW (pv 4) (pe_callD D_binomial (hr.mono (by decide)) (pa_cons (pv 0) (pa_cons (pv 5) pa_nil)))) (pe_callD D_binomial (hr.mono (by decide)) (pa_cons (pe_op op_sub (pe_op op_add (pv 6) (pv 0)) pe_int) (pa_cons (pe_op op_sub (pv 0) pe_int) pa_nil)))) ip_add)
    (pss_one (ps_set (i := 4) sc_sums_of_digits.nd rfl (Or.inl rfl) (pe_un un_neg (pv 4))))))))
    (pss_one (ps_ret (pv 3)))))), ?_⟩
    refine w_start (σ' := [some (.int u), some (.int b), some (.int t), none, none, none, none]) rfl ?_
    walk_at "g"
    refine f_range (fun j σ' H' => ∃ (o1 o2 : Option V) (s : Int), σ' = [some (.int u), some (.int b), some (.int t), some (.int (Af b u (Pf u) t j)), some (.int s), o1, o2] ∧ H' = H ∧ s = (if j % 2 = 0 then 1 else -1)) ⟨none, none, 1, rfl, rfl, rfl⟩ ?_ ?_
    · rintro j σ' H' hj ⟨o1, o2, s, rfl, rfl, hs⟩
      have e0 : (0 : Int) + j = j := by omega
      have hs1 : s = 1 ∨ s = -1 := by rw [hs]; split <;> simp
      have hj1 : j ≤ u := by omega
      rw [e0]
      walk_at "g"
      refine w_ite (fun hn => ?_) (fun hn => ?_)
      · walk_at "g"
        rw [Wf_Af (by omega) (.inr hn)]
        exact q
      · walk_at "g"
        refine ⟨u, j, rfl, by omega, by omega, ?_⟩
        have c2 := ch_two u j
        have c3 : 2 ^ u ≤ 2 ^ 60 := Nat.pow_le_pow_right (by decide) u1
        walk_at "g"
        have jb : 0 ≤ (j : Int) * b := Int.mul_nonneg (by omega) (by omega)
        refine ⟨(t - j * b).toNat + u - 1, u - 1, ?_, by omega, by omega, ?_⟩
        · rw [show (((t - j * b).toNat + u - 1 : Nat) : Int) = t - j * b + u - 1 by omega, show ((u - 1 : Nat) : Int) = u - 1 by omega]
          rfl
        rw [← Pf_ch u0 (by omega)]
        have pl := Pf_le (u := u) (t := t - j * b) u0 u1 (by omega)
        have pn := Pf_nonneg u (t - j * b)
        refine w_I (cmulW (a := 62) (b := 12001) ?_ ?_ (by decide) (by decide) (by decide)) ?_
        · rcases hs1 with e | e <;> rw [e] <;> omega
        · have h1 : ((Pf u (t - j * b)).natAbs : Int) ≤ ((2 ^ 12000 : Nat) : Int) := by rw [Int.natAbs_of_nonneg pn]; exact pl
          have h2 : (Pf u (t - j * b)).natAbs ≤ 2 ^ 12000 := by exact_mod_cast h1
          exact Nat.lt_of_le_of_lt h2 (Nat.pow_lt_pow_right (by decide) (by decide))
        walk_at "g"
        refine ⟨some (.int j), some (.int (t - j * b)), -s, ?_, rfl, ?_⟩
        · show _ = [some (V.int u), some (V.int b), some (V.int t), some (V.int (Af b u (Pf u) t j + (if j % 2 = 0 then 1 else -1) * (ch u j : Nat) * Pf u (t - j * b))), some (V.int (-s)), some (.int j), some (.int (t - j * b))]
          rw [← hs]
          rfl
        · rw [hs]
          by_cases h : j % 2 = 0
          · rw [if_pos h, if_neg (by omega)]
          · rw [if_neg h, if_pos (by omega)]
            rfl
    · rintro σ' H' ⟨o1, o2, s, rfl, rfl, hs⟩
      walk_at "g"
      rw [Wf_Af (by omega) (.inl (by omega))]
      exact q
set_option maxHeartbeats 4000000 in
theorem ok_count_of (T : Txt K mg c) : DefAt P w K mg base "count_of" s_count_of 3 ["chapters", "lines", "chain"] (spCountOf K) := by
  have D_sums_of_digits := ok_sums_of_digits (P := P) (w := w) (base := base) T
  have D_binomial := ok_binomial (P := P) (w := w) (base := base) T
  refine T.f_count_of.ok sc_count_of (fun vs H Q E h => ?_) (fun _ _ _ _ _ _ us hl => match us, hl with | [_, _, _], _ => rfl) (fun f cdv A outer s H vs Q E hr h => ?_)
  · obtain ⟨p, ps, ls, c, n, rfl, hp, hps, hch, hz, q⟩ := h
    rfl
  · obtain ⟨p, ps, ls, c, n, rfl, hp, hps, hch, hz, q⟩ := h
    refine ⟨_, (pss_cons (ps_if (pt_cmpR op_eq (pv 0) pe_int (nomark _)) (pss_one (ps_ret (pe_callTy call_int1N (by rfl) T.n_int (by decide +kernel) (pa_cons (pe_and (pe_cmpR op_eq (pv 1) pe_int (nomark _)) (pe_one (pe_callB (cr_all rfl) (by rfl) T.n_all (by decide +kernel) (pa_cons (pe_lc (own := [("size", 3), ("pages", 4)]) (tt := tYes) rfl sc_count_of.nd (pi_list (pv 2)) (blkOk_by (N := sc_count_of_N) (sc := defScope s_count_of) (by decide +kernel)) (fun _ _ _ _ _ => (kc_pg (K := K) (pg_tup (n := 2) rfl (pgs_cons (pg_name (i := 3) sc_count_of.nd rfl (Or.inl rfl)) (pgs_cons (pg_name (i := 4) sc_count_of.nd rfl (Or.inl rfl)) pgs_nil))) rfl)) (fun _ _ _ _ _ => pts_nil) (fun _ _ _ _ _ => (pe_cmpR op_eq (pv 4) pe_int (nomark _)))) pa_nil)))) pa_nil)))) pss_nil)
    (pss_cons (ps_if (pt_cmpR op_lt (pv 1) (pv 0) (nomark _)) (pss_one (ps_ret pe_int)) pss_nil)
    (pss_cons (ps_set (i := 5) sc_count_of.nd rfl (Or.inl rfl) (pe_op op_sub (pv 1) (pv 0)))
    (pss_cons (ps_set (i := 6) sc_count_of.nd rfl (Or.inl rfl) pe_int)
    (pss_cons (ps_set (i := 7) sc_count_of.nd rfl (Or.inl rfl) pe_int)
    (pss_cons (ps_for PassesOwn.never rfl (pi_list (pv 2)) (pg_tup rfl (pgs_cons (pg_name (i := 3) sc_count_of.nd rfl (Or.inl rfl)) (pgs_cons (pg_name (i := 4) sc_count_of.nd rfl (Or.inl rfl)) pgs_nil))) (pss_cons (ps_set (i := 8) sc_count_of.nd rfl (Or.inl rfl) (pe_op op_sub (pv 4) (pv 0)))
    (pss_cons (ps_if (pt_cmpR op_lt (pv 8) pe_int (nomark _)) (pss_one (ps_ret pe_int)) pss_nil)
    (pss_cons (ps_set (i := 9) sc_count_of.nd rfl (Or.inl rfl) (pe_op op_fdivW (pv 3) (pv 6)))
    (pss_cons (ps_aug (i := 7) sc_count_of.nd rfl (Or.inl rfl) (pe_callD D_sums_of_digits (hr.mono (by decide)) (pa_cons (pv 0) (pa_cons (pv 9) (pa_cons (pe_op op_sub (pv 5) (pe_op op_mulW (pv 9) (pv 8))) pa_nil)))) ip_mul)
    (pss_cons (ps_set (i := 5) sc_count_of.nd rfl (Or.inl rfl) (pv 8))
    (pss_one (ps_set (i := 6) sc_count_of.nd rfl (Or.inl rfl) (pv 3)))))))))
    (pss_one (ps_ret (pe_op op_mulW (pv 7) (pe_callD D_binomial (hr.mono (by decide)) (pa_cons (pe_op op_sub (pe_op op_add (pv 5) (pv 0)) pe_int) (pa_cons (pe_op op_sub (pv 0) pe_int) pa_nil)))))))))))), ?_⟩
    refine w_start (σ' := [some (.int c), some (.int n), some (.ref p), none, none, none, none, none, none, none]) rfl ?_
    walk_at "g"
    have hl := hps.1
    have hcs := hz.c
    have hn0 := hz.n0
    have hn1 := hz.n1
    have hll := hz.l
    refine w_ite (fun hc => ?_) (fun hc => ?_)
    · have hc0 : c = 0 := by omega
      subst hc0
      walk_at "g"
      refine w_ite (fun hn => ?_) (fun hn => ?_)
      · walk_at "g"
        refine l_list (ps.map V.ref) (fun L i H' => Fr [] H H' ∧ H' L = some (.lst (((ls.take i).map fun l => decide (l.2 = 0)).map V.bl))) (fun L hL => ⟨Fr.refl.new hL, upd_same⟩) (fun L i H' _ _ h => .of (h.1.at0 hp)) (fun L i x H' hL hx h => ?_) (fun L H' hL h => ?_)
        · obtain ⟨f1, h1⟩ := h
          obtain ⟨t, ht, rfl⟩ := map_at' hx
          have hil := (List.getElem?_eq_some_iff.mp ht).1
          have hl2 : ls[i]? = some ls[i] := List.getElem?_eq_getElem (by omega)
          have htup := f1.at0 (hps.2 i t _ ht hl2)
          have tk : ls.take (i + 1) = ls.take i ++ [ls[i]] := by rw [List.take_succ, hl2]; rfl
          have lt : ((ls.take i).map fun l => decide (l.2 = 0)).length ≤ 60 := by rw [List.length_map, List.length_take]; omega
          refine w_gTup (SqT.of htup) rfl ?_
          walk_at "g"
          refine ⟨rfl, ?_⟩
          walk_at "g"
          refine ⟨f1.put (.inl hL), ?_⟩
          rw [upd_same, tk]
          simp only [List.map_append, List.map_cons, List.map_nil]
        · obtain ⟨f1, h1⟩ := h
          rw [List.length_map, hl, List.take_length] at h1
          walk_at "g"
          refine w_all h1 ?_
          walk_at "g"
          have e : cnt 0 n ls = if ((ls.map fun l => decide (l.2 = 0)).all id) = true then 1 else 0 := by
            unfold cnt
            rw [if_pos rfl]
            by_cases h : ∀ l ∈ ls, l.2 = 0
            · rw [if_pos ⟨hn, h⟩, if_pos (by simpa using h)]
            · rw [if_neg fun q => h q.2, if_neg (by simpa using h)]
          rw [← e]
          exact q _ f1
      · walk_at "g"
        have e : cnt 0 n ls = 0 := by
          unfold cnt
          rw [if_pos rfl, if_neg fun q => hn q.1]
        rw [e] at q
        exact q _ Fr.refl
    · have hc0 : c ≠ 0 := by omega
      walk_at "g"
      refine w_ite (fun hn => ?_) (fun hn => ?_)
      · walk_at "g"
        have e : cnt c n ls = 0 := by
          unfold cnt
          rw [if_neg hc0, if_pos hn]
        rw [e] at q
        exact q _ Fr.refl
      · have ec : cnt c n ls = gp c (n - c) 1 ls := by
          unfold cnt
          rw [if_neg hc0, if_neg hn]
        rw [ec] at q
        walk_at "g"
        refine f_list (ps.map V.ref) (fun i σ' H' => ∃ (o3 o4 o8 o9 : Option V) (left unit found : Int), σ' = [some (.int c), some (.int n), some (.ref p), o3, o4, some (.int left), some (.int unit), some (.int found), o8, o9] ∧ H' = H ∧ found * gp c left unit (ls.drop i) = gp c (n - c) 1 ls ∧ 0 ≤ found ∧ found ≤ ((2 ^ (12000 * i) : Nat) : Int) ∧ 0 ≤ left ∧ left < 2 ^ 151 ∧ 1 ≤ unit ∧ Chain unit (ls.drop i)) ⟨none, none, none, none, n - c, 1, 1, rfl, rfl, by rw [List.drop_zero, Int.one_mul], by omega, by simp, by omega, by omega, by omega, by rw [List.drop_zero]; exact hch⟩ ?_ ?_ ?_
        · rintro i σ' H' hi ⟨o3, o4, o8, o9, left, unit, found, rfl, rfl, _⟩
          exact .of hp
        · rintro i x σ' H' hx ⟨o3, o4, o8, o9, left, unit, found, rfl, rfl, hg, f0, f1, l0, l1, u1, hch2⟩
          obtain ⟨t, ht, rfl⟩ := map_at' hx
          have hil := (List.getElem?_eq_some_iff.mp ht).1
          obtain ⟨l, hl2⟩ : ∃ l, ls[i]? = some l := ⟨_, List.getElem?_eq_getElem (by omega)⟩
          have htup := hps.2 i t l ht hl2
          have hls := hz.s l (List.mem_of_getElem? hl2)
          have dr : ls.drop i = l :: ls.drop (i + 1) := List.drop_eq_getElem?_toList_append.trans (by rw [hl2]; rfl)
          rw [dr] at hg hch2
          obtain ⟨g1, g2, g3⟩ := hch2
          have b1 := chain_base u1 g1
          have b2 : l.1 / unit ≤ l.1 := Int.ediv_le_self _ (by omega)
          refine w_gTup (SqT.of htup) rfl ?_
          walk_at "g"
          refine w_ite (fun hm => ?_) (fun hm => ?_)
          · walk_at "g"
            have e : gp c left unit (l :: ls.drop (i + 1)) = 0 := by
              show (if l.2 - c < 0 then (0 : Int) else _) = 0
              rw [if_pos hm]
            rw [e, Int.mul_zero] at hg
            rw [← hg] at q
            exact q _ Fr.refl
          · have e : gp c left unit (l :: ls.drop (i + 1)) = Wf (l.1 / unit).toNat c (left - (l.1 / unit) * (l.2 - c)) * gp c (l.2 - c) l.1 (ls.drop (i + 1)) := by
              show (if l.2 - c < 0 then (0 : Int) else _) = _
              rw [if_neg hm]
            rw [e] at hg
            obtain ⟨bs, hbs⟩ : ∃ bs : Nat, l.1 / unit = bs := ⟨(l.1 / unit).toNat, by omega⟩
            rw [hbs] at hg b1 b2
            have eb : ((bs : Int)).toNat = bs := by omega
            rw [eb] at hg
            have m0 : 0 ≤ (bs : Int) * (l.2 - c) := Int.mul_nonneg (by omega) (by omega)
            have m1 : (bs : Int) * (l.2 - c) ≤ 2 ^ 150 * 2 ^ 151 := Int.mul_le_mul (by omega) (by omega) (by omega) (by omega)
            walk_at "g"
            rw [hbs]
            have wl : Wf bs c (left - bs * (l.2 - c)) ≤ ((2 ^ 12000 : Nat) : Int) := Int.le_trans (Wf_le _ _ _) (Pf_le (by omega) hcs (by omega))
            have wn := Wf_nonneg bs c (left - bs * (l.2 - c))
            refine ⟨c, bs, _, rfl, by omega, hcs, by omega, by omega, by omega, by omega, ?_⟩
            refine w_ipM (nat_mul f0 f1 wn wl (by omega)) ?_
            walk_at "g"
            refine ⟨some (.int l.1), some (.int l.2), some (.int (l.2 - c)), some (.int bs), l.2 - c, l.1, found * Wf bs c (left - bs * (l.2 - c)), rfl, rfl, by rw [Int.mul_assoc]; exact hg, Int.mul_nonneg f0 wn, pow_step f0 f1 wn wl, by omega, by omega, by omega, g3⟩
        · rintro σ' H' ⟨o3, o4, o8, o9, left, unit, found, rfl, rfl, hg, f0, f1, l0, l1, u1, hch2⟩
          rw [List.length_map, hl] at hg f1
          rw [List.drop_length] at hg
          have hg : found * Pf c left = gp c (n - c) 1 ls := hg
          walk_at "g"
          refine ⟨left.toNat + c - 1, c - 1, ?_, by omega, by omega, ?_⟩
          · rw [show ((left.toNat + c - 1 : Nat) : Int) = left + c - 1 by omega, show ((c - 1 : Nat) : Int) = c - 1 by omega]
            rfl
          rw [← Pf_ch (by omega) l0]
          refine w_I (nat_mul f0 f1 (Pf_nonneg _ _) (Pf_le (by omega) hcs (by omega)) (by omega)) ?_
          walk_at "g"
          rw [hg]
          exact q _ Fr.refl
/-- sizes, each greater than the one before and a multiple of it -/
def SChain : Int → List Int → Prop
  | _, [] => True
  | u, x :: rest => u < x ∧ (0 < u → x % u = 0) ∧ SChain x rest
theorem SChain.v : ∀ {ls : List (Int × Int)} {u : Int}, SChain u (ls.map Prod.fst) → VChain u ls
  | [], _, _ => trivial
  | l :: rest, u, ⟨h1, h2, h3⟩ => ⟨h1, h2, SChain.v h3⟩
theorem SChain.snoc : ∀ {xs : List Int} {u w w' : Int}, 0 ≤ u → SChain u (xs ++ [w]) → w < w' → w' % w = 0 → SChain u (xs ++ [w] ++ [w'])
  | [], u, w, w', hu, ⟨h1, h2, _⟩, g1, g2 => ⟨h1, h2, g1, fun _ => g2, trivial⟩
  | x :: xs, u, w, w', hu, ⟨h1, h2, h3⟩, g1, g2 => ⟨h1, h2, SChain.snoc (by omega) h3 g1 g2⟩
theorem SChain.init : ∀ {xs : List Int} {u w : Int}, SChain u (xs ++ [w]) → SChain u xs
  | [], _, _, _ => trivial
  | x :: xs, _, _, ⟨h1, h2, h3⟩ => ⟨h1, h2, SChain.init h3⟩
def spSizes : Sp := fun vs H Q _ => ∃ (a : Addr) (k m t : Int), vs = [.ref a, .int m, .int t] ∧ Rng H a k ∧ 0 ≤ m ∧ m ≤ 20 ∧ 2 ≤ t ∧ t ≤ 30 ∧ k < 2 ^ 38 ∧
  ∀ (p : Addr) (xs : List Int) (k' : Int) (H' : Hp), xs.length ≤ m.toNat → SChain 0 xs → (∀ x ∈ xs, 1 ≤ x ∧ x < 2 ^ 110) → k' ≤ k + 40 → Rng H' a k' → Fr [a] H H' → H p = none → H' p = some (.lst (xs.map V.int)) → Q (.ref p) H'
theorem pow30 {w : Int} {i : Nat} (h : w ≤ ((30 ^ (i + 1) : Nat) : Int)) (hi : i ≤ 20) : w < 2 ^ 110 := by
  have h1 : 30 ^ (i + 1) ≤ 30 ^ 21 := Nat.pow_le_pow_right (by decide) (by omega)
  have h2 : 30 ^ 21 < 2 ^ 110 := by decide
  have h3 : ((30 ^ (i + 1) : Nat) : Int) < ((2 ^ 110 : Nat) : Int) := by exact_mod_cast Nat.lt_of_le_of_lt h1 h2
  have h4 : ((2 ^ 110 : Nat) : Int) = 2 ^ 110 := by norm_cast
  omega
theorem pow30_step {w r : Int} {i : Nat} (h0 : 1 ≤ w) (h : w ≤ ((30 ^ (i + 1) : Nat) : Int)) (h1 : 0 ≤ r) (h2 : r ≤ 30) : w * r ≤ ((30 ^ (i + 1 + 1) : Nat) : Int) := by
  rw [Nat.pow_succ, Int.natCast_mul]
  exact Int.mul_le_mul h h2 h1 (Int.natCast_nonneg _)
set_option maxHeartbeats 4000000 in
theorem ok_law_sizes (T : Txt K mg c) : DefAt P w K mg base "_law_sizes" s_law_sizes 2 ["rng", "many", "most"] spSizes := by
  have D_law_draw := ok_law_draw (P := P) (w := w) (base := base) T
  refine T.f_law_sizes.ok sc_law_sizes (fun vs H Q E h => ?_) (fun _ _ _ _ _ _ us hl => match us, hl with | [_, _, _], _ => rfl) (fun f cdv A outer s H vs Q E hr h => ?_)
  · obtain ⟨a, k, m, t, rfl, hp, m0, m1, t0, t1, k1, q⟩ := h
    rfl
  · obtain ⟨a, k, m, t, rfl, hp, m0, m1, t0, t1, k1, q⟩ := h
    refine ⟨_, (pss_cons (ps_par (i := 3) (j := 4) rfl sc_law_sizes.nd rfl rfl (by decide) rfl rfl (pa_cons (pe_lst pa_nil) (pa_cons (pe_op op_add pe_int (pe_op op_mulW (pe_callD D_law_draw (hr.mono (by decide)) (pa_cons (pv 0) (pa_cons (pv 2) pa_nil))) (pe_callD D_law_draw (hr.mono (by decide)) (pa_cons (pv 0) (pa_cons pe_int pa_nil))))) pa_nil)) (by rfl))
    (pss_cons (ps_for PassesOwn.never rfl (pi_range1 (by rfl) T.n_range (pa_cons (pe_callD D_law_draw (hr.mono (by decide)) (pa_cons (pv 0) (pa_cons (pe_op op_add (pv 1) pe_int) pa_nil))) pa_nil)) (pg_name (i := 5) sc_law_sizes.nd rfl (Or.inl rfl)) (pss_cons (ps_expr (pe_bm PySem.F.plainAttrs_list PySem.F.slot_list_append PySem.F.type_list_append mt_append (pv 3) (pa_cons (pv 4) pa_nil)))
    (pss_one (ps_set (i := 4) sc_law_sizes.nd rfl (Or.inl rfl) (pe_op op_mulW (pv 4) (pe_op op_add pe_int (pe_callD D_law_draw (hr.mono (by decide)) (pa_cons (pv 0) (pa_cons (pe_op op_sub (pv 2) pe_int) pa_nil)))))))))
    (pss_one (ps_ret (pv 3))))), ?_⟩
    refine w_start (σ' := [some (.ref a), some (.int m), some (.int t), none, none, none]) rfl ?_
    walk_at "g"
    rename_i p np r1 k2 H2 r10 r11 hk2 hp2 f2 r2 k3 H3 r20 r21 hk3 hp3 f3 r3 k4 H4 r30 r31 hk4 hp4 f4
    have f04 : Fr [a] H H4 := by walk_at "F"
    have hpa : p ≠ a := hp.ne np
    have h4 : H4 p = some (.lst []) := f4.at (nn2 hpa) (f3.at (nn2 hpa) (f2.at (nn2 hpa) upd_same))
    have hw0 : 1 ≤ 1 + r1 * r2 ∧ 1 + r1 * r2 ≤ 30 := by
      rcases (show r2 = 0 ∨ r2 = 1 by omega) with rfl | rfl <;> omega
    obtain ⟨w0, hw⟩ : ∃ w0, w0 = 1 + r1 * r2 := ⟨_, rfl⟩
    rw [← hw]
    rw [← hw] at hw0
    clear f2 f3 f4 hp2 hp3
    refine f_range (fun i σ' H' => ∃ (o : Option V) (w' k5 : Int) (xs : List Int), σ' = [some (.ref a), some (.int m), some (.int t), some (.ref p), some (.int w'), o] ∧ Rng H' a k5 ∧ k5 ≤ k4 + i ∧ Fr [a, p] H4 H' ∧ H' p = some (.lst (xs.map V.int)) ∧ xs.length = i ∧ SChain 0 (xs ++ [w']) ∧ 1 ≤ w' ∧ w' ≤ ((30 ^ (i + 1) : Nat) : Int) ∧ ∀ x ∈ xs, 1 ≤ x ∧ x < 2 ^ 110) ⟨none, w0, k4, [], rfl, hp4, by omega, Fr.refl, h4, rfl, ⟨by omega, fun z => absurd z (by omega), trivial⟩, hw0.1, by simpa using hw0.2, by simp⟩ ?_ ?_
    · rintro i σ' H5 hi ⟨o, w', k5, xs, rfl, hp5, hk5, f5, h5, lxs, hch, w1, w2, hx⟩
      have hi2 : i ≤ 20 := by omega
      have hwb := pow30 w2 hi2
      walk_at "g"
      rename_i r6 k6 H6 r60 r61 hk6 hp6 f6
      have h6 : H6 p = some (.lst ((xs ++ [w']).map V.int)) := f6.at (nn2 hpa) upd_same
      have f06 : Fr [a, p] H4 H6 := (f5.put (.inr (by simp))).trans (f6.mono (by simp))
      have e2 : w' * 2 ≤ w' * (2 + r6) := Int.mul_le_mul_of_nonneg_left (by omega) (by omega)
      refine ⟨_, w' * (2 + r6), k6, xs ++ [w'], rfl, hp6, by omega, f06, h6, len_snoc lxs, hch.snoc (by omega) (by omega) (Int.mul_emod_right _ _), by omega, pow30_step w1 w2 (by omega) (by omega), mem_snoc hx ⟨w1, hwb⟩⟩
    · rintro σ' H5 ⟨o, w', k5, xs, rfl, hp5, hk5, f5, h5, lxs, hch, w1, w2, hx⟩
      walk_at "g"
      have f05 : Fr [a] H H5 := fun b o' z e => f5 b o' (by
        have hbp : b ≠ p := by
          rintro rfl
          rw [np] at e
          cases e
        simp at z
        simp [z, hbp]) (f04 b o' z e)
      exact q p xs k5 H5 (by omega) hch.init hx (by omega) hp5 f05 np h5
def shownD : Option (Int × Int) → Str
  | none => "None"
  | some x => (dP x).shown
theorem DV.dp {K : PySem.W.Frag} {H : Hp} {T : Addr} {x : Int × Int} (h : H T = some (.tup [.int x.1, .int x.2])) : Dp K H (.ref T) (dP x) := .tup (SqT.of h) (.cons (.int _) (.cons (.int _) .nil))
theorem w_reprDV {K : PySem.W.Frag} {H : Hp} {Q : VK} {d : Option (Int × Int)} {v : V} (h : DV d v H) (hb : ∀ x, d = some x → x.1.natAbs < 10 ^ 40 ∧ x.2.natAbs < 10 ^ 40) (q : Q (.str (shownD d)) H) : rReprA K [v] H Q := by
  rcases h with ⟨rfl, rfl⟩ | ⟨T, x, rfl, rfl, h⟩
  · exact w_reprA0 q
  · have b := hb x rfl
    exact w_reprA (DV.dp h) (fine_pair (i := x.1) (j := x.2) b.1 b.2) q
theorem FirstBad.small {P : Nat → Prop} {n : Nat} {d : Option (Int × Int)} (h : FirstBad P n d) (hn : n ≤ 1000) : ∀ x, d = some x → x.1.natAbs < 10 ^ 40 ∧ x.2.natAbs < 10 ^ 40 := by
  intro x hx
  rcases h with ⟨rfl, _⟩ | ⟨i, hi, rfl, _⟩
  · cases hx
  · have e := Option.some.inj hx
    rw [← e]
    unfold badAt
    split
    · decide
    · constructor
      · show ((i : Int) - 2).natAbs < _
        omega
      · show ((i : Int) - 1).natAbs < _
        omega
theorem w_eqDV {K : PySem.W.Frag} {H : Hp} {Q : VK} {x : Int × Int} {v : V} {b : Addr} {i j : Int} (h : DV (some x) v H) (hb : H b = some (.tup [.int i, .int j])) (e : x = (i, j)) (q : Q (.bl true) H) : rEqD K v (.ref b) H Q := by
  rcases h with ⟨h, _⟩ | ⟨T, y, h, rfl, h2⟩
  · cases h
  · have ey := Option.some.inj h
    subst ey e
    refine ⟨_, _, DV.dp h2, DV.dp (x := (i, j)) hb, by rfl, by rfl, ?_⟩
    have e2 : PyData.eqv (dP (i, j)) (dP (i, j)) = true := by simp [dP, PyData.eqv, PyData.eqvAll]
    rw [e2]
    exact q
theorem sum_max {xs : List Int} {B : Int} (h : ∀ x ∈ xs, 1 ≤ x ∧ x ≤ B) : (xs.length : Int) ≤ xs.sum ∧ xs.sum ≤ xs.length * B := by
  induction xs with
  | nil => simp
  | cons x xs ih =>
    have h1 := ih fun y hy => h y (List.mem_cons_of_mem _ hy)
    have h2 := h x List.mem_cons_self
    rw [List.sum_cons, List.length_cons, show ((xs.length + 1 : Nat) : Int) * B = xs.length * B + B by rw [show ((xs.length + 1 : Nat) : Int) = (xs.length : Int) + 1 by omega, Int.add_mul]; omega]
    omega
theorem ct_range {xs : List Int} {w B : Int} (hw : 1 ≤ w) (h : ∀ x ∈ xs, 1 ≤ x ∧ x ≤ B) : (xs.length : Int) ≤ ct xs w ∧ ct xs w ≤ xs.length * B := by
  induction xs with
  | nil => simp [ct]
  | cons x xs ih =>
    have h1 := ih fun y hy => h y (List.mem_cons_of_mem _ hy)
    have h2 := h x List.mem_cons_self
    have h3 : 0 ≤ (x - 1) / w := Int.ediv_nonneg (by omega) (by omega)
    have h4 : (x - 1) / w ≤ x - 1 := Int.ediv_le_self _ (by omega)
    rw [ct_cons, List.length_cons, show ((xs.length + 1 : Nat) : Int) * B = xs.length * B + B by rw [show ((xs.length + 1 : Nat) : Int) = (xs.length : Int) + 1 by omega, Int.add_mul]; omega]
    omega
theorem PairsAt.frR {H H' : Hp} {a : Addr} {k : Int} {ps : List Addr} {ls : List (Int × Int)} (h : PairsAt H ps ls) (p : Rng H a k) (f : Fr [a] H H') : PairsAt H' ps ls := by
  obtain ⟨d, m, t, h1, _⟩ := p
  exact h.frL f h1
theorem map_set_fst {ls : List (Int × Int)} {i : Nat} {l : Int × Int} {x : Int} (h : ls[i]? = some l) : (ls.set i (l.1, x)).map Prod.fst = ls.map Prod.fst := by
  rw [List.map_set]
  refine List.ext_getElem? fun j => ?_
  by_cases e : i = j
  · subst e
    have hi := (List.getElem?_eq_some_iff.mp h).1
    rw [List.getElem?_set_self (by rw [List.length_map]; exact hi), List.getElem?_map, h]
    rfl
  · rw [List.getElem?_set_ne e]
theorem DV.non_iff {d : Option (Int × Int)} {v : V} {H : Hp} (h : DV d v H) : v = .non ↔ d = none := by
  rcases h with ⟨rfl, rfl⟩ | ⟨T, x, rfl, rfl, _⟩
  · exact ⟨fun _ => rfl, fun _ => rfl⟩
  · exact ⟨fun z => (nomatch z), fun z => (nomatch z)⟩
theorem right_mono {c : Nat} {n : Int} {ls : List (Int × Int)} {i : Nat} (hi : i ≤ ls.length) (h : right c n (ls.take ls.length)) : right c n (ls.take i) := ⟨h.1, h.2.1, okP_mono c _ _ ls hi h.2.2⟩
def spDueC (K : PySem.W.Frag) : Sp := fun vs H Q _ => ∃ (p : Addr) (ps : List Addr) (ls : List (Int × Int)) (c : Nat) (n : Int), vs = [.int c, .int n, .ref p] ∧ H p = some (.lst (ps.map V.ref)) ∧ PairsAt H ps ls ∧ VChain 0 ls ∧ Sized c n ls ∧ ∀ d v H', FirstBad (fun i => right c n (ls.take i)) ls.length d → DV d v H' → Fr [] H H' → Q v H'
/-! ### one more edition -/
def Qs (b c : Nat) (t : Int) (n : Nat) : Int := ((List.range n).map fun m : Nat => Wf b c (t - b * m) * Pf c m).sum
theorem Qs_succ (b c : Nat) (t : Int) (n : Nat) : Qs b c t (n + 1) = Qs b c t n + Wf b c (t - b * n) * Pf c n := sum_range_succ _ n
theorem Qs_step (b c : Nat) (t : Int) : ∀ n : Nat, Qs b (c + 1) t n - Qs b (c + 1) (t - 1) n = Qs b c t n - Wf b c (t - b * n) * Pf (c + 1) ((n : Int) - 1)
  | 0 => by
    show (0 : Int) - 0 = 0 - _ * Pf (c + 1) (((0 : Nat) : Int) - 1)
    rw [Pf_neg (by omega)]
    simp
  | n + 1 => by
    have ih := Qs_step b c t n
    have h1 := Wf_step b c (t - b * n)
    have h2 := Pf_step c n
    rw [Qs_succ, Qs_succ, Qs_succ]
    have e1 : t - 1 - (b : Int) * n = t - b * n - 1 := by omega
    have e2 : t - (b : Int) * ((n + 1 : Nat) : Int) = t - b * n - b := by
      rw [show ((n + 1 : Nat) : Int) = (n : Int) + 1 by omega, Int.mul_add]
      omega
    have e3 : ((n + 1 : Nat) : Int) - 1 = n := by omega
    rw [e1, e2, e3]
    have k1 : (Wf b (c + 1) (t - b * n) - Wf b (c + 1) (t - b * n - 1)) * Pf (c + 1) n = (Wf b c (t - b * n) - Wf b c (t - b * n - b)) * Pf (c + 1) n := by rw [h1]
    have k2 : Wf b c (t - b * n) * Pf (c + 1) n = Wf b c (t - b * n) * (Pf (c + 1) ((n : Int) - 1) + Pf c n) := by rw [← h2]
    rw [Int.sub_mul, Int.sub_mul] at k1
    rw [Int.mul_add] at k2
    omega
theorem Qs_neg {b c : Nat} {t : Int} (h : t < 0) : ∀ n, Qs b c t n = 0
  | 0 => rfl
  | n + 1 => by
    have : 0 ≤ (b : Int) * n := Int.mul_nonneg (by omega) (by omega)
    rw [Qs_succ, Qs_neg h n, Wf_neg b (by omega)]
    simp
theorem Qs_all {b : Nat} : ∀ (c : Nat) (t : Int) (n : Nat), t - b * n < 0 → Qs b c t n = Pf c t
  | 0, t, n, h => by
    by_cases ht : t < 0
    · rw [Qs_neg ht, Pf_neg ht]
    · have go : ∀ k : Nat, Qs b 0 t (k + 1) = if t = 0 then 1 else 0 := by
        intro k
        induction k with
        | zero =>
          rw [Qs_succ]
          show 0 + Wf b 0 (t - b * ((0 : Nat) : Int)) * Pf 0 ((0 : Nat) : Int) = _
          have e : t - (b : Int) * ((0 : Nat) : Int) = t := by simp
          rw [e]
          show 0 + (if t = 0 then (1 : Int) else 0) * (if ((0 : Nat) : Int) = 0 then (1 : Int) else 0) = _
          simp
        | succ k ih =>
          rw [Qs_succ, ih]
          have : Pf 0 ((k + 1 : Nat) : Int) = 0 := by
            show (if ((k + 1 : Nat) : Int) = 0 then (1 : Int) else 0) = 0
            rw [if_neg (by omega)]
          rw [this]
          simp
      obtain ⟨k, rfl⟩ : ∃ k, n = k + 1 := ⟨n - 1, by
        have : n ≠ 0 := by
          rintro rfl
          simp at h
          omega
        omega⟩
      rw [go]
      rfl
  | c + 1, t, n, h => by
    have go : ∀ k : Nat, (k : Int) - 1 ≤ t → Qs b (c + 1) ((k : Int) - 1) n = Pf (c + 1) ((k : Int) - 1) := by
      intro k
      induction k with
      | zero => intro _; rw [Qs_neg (by omega), Pf_neg (by omega)]
      | succ k ih =>
        intro hk
        have ih := ih (by omega)
        have e : ((k + 1 : Nat) : Int) - 1 = k := by omega
        rw [e]
        have h1 := Qs_step b c k n
        have h2 := Pf_step c k
        have h3 := Qs_all (b := b) c k n (by omega)
        rw [Wf_neg b (t := (k : Int) - b * n) (by omega), Int.zero_mul] at h1
        omega
    by_cases ht : t < 0
    · rw [Qs_neg ht, Pf_neg ht]
    · have := go (t + 1).toNat (by omega)
      have e : (((t + 1).toNat : Nat) : Int) - 1 = t := by omega
      rw [e] at this
      exact this
def gpre (c : Nat) : Int → Int → List (Int × Int) → Int
  | _, _, [] => 1
  | left, unit, l :: rest => if l.2 - c < 0 then 0 else Wf (l.1 / unit).toNat c (left - (l.1 / unit) * (l.2 - c)) * gpre c (l.2 - c) l.1 rest
theorem gp_pre (c : Nat) : ∀ (ls : List (Int × Int)) (left unit : Int), gp c left unit ls = gpre c left unit ls * Pf c (lu c left unit ls).1
  | [], left, unit => by
    show Pf c left = 1 * Pf c left
    omega
  | l :: rest, left, unit => by
    show (if l.2 - c < 0 then (0 : Int) else _) = (if l.2 - c < 0 then (0 : Int) else _) * Pf c (lu c (l.2 - c) l.1 rest).1
    split
    · simp
    · rw [gp_pre c rest, Int.mul_assoc]
theorem gp_snoc (c : Nat) (l : Int × Int) : ∀ (ls : List (Int × Int)) (left unit : Int), gp c left unit (ls ++ [l]) =
    gpre c left unit ls * (if l.2 - c < 0 then 0 else Wf (l.1 / (lu c left unit ls).2).toNat c ((lu c left unit ls).1 - (l.1 / (lu c left unit ls).2) * (l.2 - c)) * Pf c (l.2 - c))
  | [], left, unit => by
    show (if l.2 - c < 0 then (0 : Int) else Wf (l.1 / unit).toNat c (left - (l.1 / unit) * (l.2 - c)) * Pf c (l.2 - c)) = 1 * _
    rw [Int.one_mul]
    rfl
  | m :: rest, left, unit => by
    show (if m.2 - c < 0 then (0 : Int) else Wf (m.1 / unit).toNat c (left - (m.1 / unit) * (m.2 - c)) * gp c (m.2 - c) m.1 (rest ++ [l])) = (if m.2 - c < 0 then (0 : Int) else _) * _
    split
    · simp
    · rw [gp_snoc c l rest, Int.mul_assoc]
      rfl
/-- the number of books with a page count more, by the page count -/
theorem cnt_more {c : Nat} {n B u : Int} {f : Nat} {ls : List (Int × Int)} (hc : 0 < c) (hn : (c : Int) ≤ n) (hu : 1 ≤ u) (hl : lu c (n - c) 1 ls = (B, u)) (x : Int) :
    cnt c n (ls ++ [(u * f, c + x)]) = gpre c (n - c) 1 ls * (if x < 0 then 0 else Wf f c (B - f * x) * Pf c x) := by
  unfold cnt
  rw [if_neg (by omega), if_neg (by omega), gp_snoc, hl]
  show gpre c (n - c) 1 ls * (if (c : Int) + x - c < 0 then 0 else Wf (u * f / u).toNat c (B - (u * f / u) * ((c : Int) + x - c)) * Pf c ((c : Int) + x - c)) = _
  rw [show (c : Int) + x - c = x by omega, Int.mul_ediv_cancel_left _ (by omega), show ((f : Int)).toNat = f by omega]
theorem cnt_base {c : Nat} {n B u : Int} {ls : List (Int × Int)} (hc : 0 < c) (hn : (c : Int) ≤ n) (hl : lu c (n - c) 1 ls = (B, u)) : cnt c n ls = gpre c (n - c) 1 ls * Pf c B := by
  unfold cnt
  rw [if_neg (by omega), if_neg (by omega), gp_pre, hl]
theorem sum_mul (g : Int) (f : Nat → Int) : ∀ n : Nat, ((List.range n).map fun m => g * f m).sum = g * ((List.range n).map f).sum
  | 0 => by simp
  | n + 1 => by rw [sum_range_succ, sum_range_succ, sum_mul g f n, Int.mul_add]
theorem cnt_sum {c : Nat} {n B u : Int} {f k : Nat} {ls : List (Int × Int)} (hc : 0 < c) (hn : (c : Int) ≤ n) (hu : 1 ≤ u) (hl : lu c (n - c) 1 ls = (B, u)) (hk : B - f * k < 0) :
    ((List.range k).map fun m : Nat => cnt c n (ls ++ [(u * f, (c : Int) + m)])).sum = cnt c n ls := by
  have e : ((List.range k).map fun m : Nat => cnt c n (ls ++ [(u * f, (c : Int) + m)])) = (List.range k).map fun m : Nat => gpre c (n - c) 1 ls * (Wf f c (B - f * m) * Pf c m) := by
    refine List.map_congr_left fun m _ => ?_
    rw [cnt_more hc hn hu hl, if_neg (by omega)]
  rw [e, sum_mul, cnt_base hc hn hl]
  congr 1
  exact Qs_all c B k hk
theorem cnt_out {c : Nat} {n B u x : Int} {f : Nat} {ls : List (Int × Int)} (hc : 0 < c) (hn : (c : Int) ≤ n) (hu : 1 ≤ u) (hl : lu c (n - c) 1 ls = (B, u)) (hx : x < 0 ∨ B - f * x < 0) : cnt c n (ls ++ [(u * f, c + x)]) = 0 := by
  rw [cnt_more hc hn hu hl]
  by_cases h : x < 0
  · rw [if_pos h, Int.mul_zero]
  · rw [if_neg h, Wf_neg f (by omega), Int.zero_mul, Int.mul_zero]
theorem bin2 (n k : Nat) : ch (n + 1) (k + 1) * (k + 1) = ch n k * (n + 1) := by
  have h1 := ch_succ n k
  have e : ch (n + 1) (k + 1) = ch n k + ch n (k + 1) := rfl
  rw [e, Nat.add_mul, h1]
  by_cases hk : k ≤ n
  · rw [← Nat.mul_add]
    congr 1
    omega
  · rw [ch_gt (by omega)]
    simp
theorem VChain.snoc : ∀ {ls : List (Int × Int)} {u c1 : Int} {c : Nat} {w : Int × Int}, 0 ≤ u → VChain u ls → (lu c c1 u ls).2 < w.1 → (0 < (lu c c1 u ls).2 → w.1 % (lu c c1 u ls).2 = 0) → VChain u (ls ++ [w])
  | [], u, _, _, w, _, _, h1, h2 => ⟨h1, h2, trivial⟩
  | l :: rest, u, c1, c, w, hu, ⟨g1, g2, g3⟩, h1, h2 => ⟨g1, g2, VChain.snoc (c1 := l.2 - c) (c := c) (by omega) g3 h1 h2⟩
theorem sum_mul' (g : Int) (f : Nat → Int) (n : Nat) : ((List.range n).map fun m => g * f m).sum = g * ((List.range n).map f).sum := sum_mul g f n
/-! ### books one by one -/
def sumR (n : Nat) (f : Nat → Int) : Int := ((List.range n).map f).sum
theorem sumR_zero (f : Nat → Int) : sumR 0 f = 0 := rfl
theorem sumR_succ (n : Nat) (f : Nat → Int) : sumR (n + 1) f = sumR n f + f n := sum_range_succ f n
theorem sumR_congr {n : Nat} {f g : Nat → Int} (h : ∀ i, i < n → f i = g i) : sumR n f = sumR n g := by
  unfold sumR
  rw [List.map_congr_left fun i hi => h i (List.mem_range.mp hi)]
theorem sumR_const0 {n : Nat} {f : Nat → Int} (h : ∀ i, i < n → f i = 0) : sumR n f = 0 := by
  induction n with
  | zero => rfl
  | succ n ih => rw [sumR_succ, ih fun i hi => h i (by omega), h n (by omega)]; rfl
theorem sumR_mul (g : Int) (n : Nat) (f : Nat → Int) : sumR n (fun i => g * f i) = g * sumR n f := sum_mul' g f n
theorem sumR_more {n : Nat} {f : Nat → Int} (h : ∀ i, n ≤ i → f i = 0) : ∀ k, sumR (n + k) f = sumR n f
  | 0 => rfl
  | k + 1 => by rw [← Nat.add_assoc, sumR_succ, sumR_more h k, h (n + k) (by omega)]; omega
theorem sumR_add (n : Nat) (f : Nat → Int) : ∀ m, sumR (n + m) f = sumR n f + sumR m fun i => f (n + i)
  | 0 => by rw [sumR_zero]; simp
  | m + 1 => by rw [← Nat.add_assoc, sumR_succ, sumR_add n f m, sumR_succ]; omega
theorem sumR_block (b : Nat) (f : Nat → Int) : ∀ M, sumR (b * M) f = sumR M fun q => sumR b fun d => f (b * q + d)
  | 0 => by simp [sumR_zero]
  | M + 1 => by rw [Nat.mul_succ, sumR_add, sumR_block b f M, sumR_succ]
/-- bases and targets -/
def gq (c : Nat) : Int → List (Nat × Int) → Int
  | left, [] => Pf c left
  | left, (b, t) :: r => if t < 0 then 0 else Wf b c (left - b * t) * gq c t r
/-- the targets behind a first number -/
def shiftq : Nat → List (Nat × Int) → List (Nat × Int)
  | _, [] => []
  | z, (b, t) :: r => (b, t - (z / b : Nat)) :: shiftq (z / b) r
theorem gq_neg {c : Nat} {left : Int} (h : left < 0) : ∀ (r : List (Nat × Int)), gq c left r = 0
  | [] => Pf_neg h
  | (b, t) :: r => by
    show (if t < 0 then (0 : Int) else _) = 0
    split
    · rfl
    · have : 0 ≤ (b : Int) * t := Int.mul_nonneg (by omega) (by omega)
      rw [Wf_neg b (by omega), Int.zero_mul]
theorem Pf_sum (c : Nat) : ∀ (n : Nat) (left : Int), left < n → sumR n (fun z => Pf c (left - z)) = Pf (c + 1) left
  | n, left, h => by
    have go : ∀ k : Nat, ∀ n : Nat, (k : Int) - 1 < n → sumR n (fun z => Pf c ((k : Int) - 1 - z)) = Pf (c + 1) ((k : Int) - 1) := by
      intro k
      induction k with
      | zero =>
        intro n _
        rw [Pf_neg (by omega)]
        exact sumR_const0 fun i _ => Pf_neg (by omega)
      | succ k ih =>
        intro n hn
        obtain ⟨m, rfl⟩ : ∃ m, n = 1 + m := ⟨n - 1, by omega⟩
        have e : ((k + 1 : Nat) : Int) - 1 = k := by omega
        have h2 := Pf_step c k
        rw [e, sumR_add, h2]
        have h3 := ih m (by omega)
        have h4 : sumR m (fun i => Pf c ((k : Int) - ((1 + i : Nat) : Int))) = sumR m fun z => Pf c ((k : Int) - 1 - z) := sumR_congr fun i _ => by
          rw [show (k : Int) - ((1 + i : Nat) : Int) = k - 1 - i by omega]
        have h5 : sumR 1 (fun z => Pf c ((k : Int) - z)) = Pf c k := by
          rw [show (1 : Nat) = 0 + 1 from rfl, sumR_succ, sumR_zero]
          simp
        rw [h4, h3, h5]
        omega
    by_cases hn : left < 0
    · rw [Pf_neg hn]
      exact sumR_const0 fun i _ => Pf_neg (by omega)
    · have := go (left + 1).toNat n (by omega)
      rw [show (((left + 1).toNat : Nat) : Int) - 1 = left by omega] at this
      exact this
theorem gq_sum (c : Nat) : ∀ (r : List (Nat × Int)) (left : Int) (n : Nat), (∀ x ∈ r, 1 ≤ x.1) → left < n → sumR n (fun z => gq c (left - z) (shiftq z r)) = gq (c + 1) left r
  | [], left, n, _, h => Pf_sum c n left h
  | (b, t) :: r, left, n, hb, h => by
    have hb1 : 1 ≤ b := hb (b, t) List.mem_cons_self
    have hr : ∀ x ∈ r, 1 ≤ x.1 := fun x hx => hb x (List.mem_cons_of_mem _ hx)
    show _ = (if t < 0 then (0 : Int) else Wf b (c + 1) (left - b * t) * gq (c + 1) t r)
    by_cases ht : t < 0
    · rw [if_pos ht]
      refine sumR_const0 fun z _ => ?_
      show (if t - ((z / b : Nat) : Int) < 0 then (0 : Int) else _) = 0
      have hz : (0 : Int) ≤ ((z / b : Nat) : Int) := Int.natCast_nonneg _
      rw [if_pos (by generalize ((z / b : Nat) : Int) = y at hz; omega)]
    · rw [if_neg ht]
      -- extend to a whole number of blocks
      have hM : n ≤ b * (n + t.toNat + 1) := by
        have : 1 * (n + t.toNat + 1) ≤ b * (n + t.toNat + 1) := Nat.mul_le_mul_right _ hb1
        omega
      have ext : sumR n (fun z => gq c (left - z) (shiftq z ((b, t) :: r))) = sumR (b * (n + t.toNat + 1)) (fun z => gq c (left - z) (shiftq z ((b, t) :: r))) := by
        have := sumR_more (n := n) (f := fun z => gq c (left - z) (shiftq z ((b, t) :: r))) (fun i hi => gq_neg (by omega) _) (b * (n + t.toNat + 1) - n)
        rw [show n + (b * (n + t.toNat + 1) - n) = b * (n + t.toNat + 1) by omega] at this
        exact this.symm
      rw [ext, sumR_block]
      have inner : ∀ q : Nat, (sumR b fun d => gq c (left - ((b * q + d : Nat) : Int)) (shiftq (b * q + d) ((b, t) :: r))) = Wf b (c + 1) (left - b * t) * gq c (t - q) (shiftq q r) := by
        intro q
        have e1 : ∀ d, d < b → gq c (left - ((b * q + d : Nat) : Int)) (shiftq (b * q + d) ((b, t) :: r)) = gq c (t - q) (shiftq q r) * Wf b c (left - b * t - d) := by
          intro d hd
          have eq : (b * q + d) / b = q := by
            rw [Nat.mul_add_div (by omega), Nat.div_eq_of_lt hd]
            rfl
          show (if t - (((b * q + d) / b : Nat) : Int) < 0 then (0 : Int) else Wf b c (left - ((b * q + d : Nat) : Int) - b * (t - (((b * q + d) / b : Nat) : Int))) * gq c (t - (((b * q + d) / b : Nat) : Int)) (shiftq ((b * q + d) / b) r)) = _
          rw [eq]
          by_cases hq : t - (q : Int) < 0
          · rw [if_pos hq, gq_neg hq, Int.zero_mul]
          · rw [if_neg hq, Int.mul_comm]
            congr 2
            rw [Int.mul_sub, show ((b * q + d : Nat) : Int) = (b : Int) * q + d by rw [Int.natCast_add, Int.natCast_mul]]
            omega
        rw [sumR_congr e1, sumR_mul, Int.mul_comm]
        rfl
      rw [sumR_congr fun q _ => inner q, sumR_mul]
      congr 1
      exact gq_sum c r t _ hr (by omega)
def books : Nat → Int → List (List Int)
  | 0, n => if n = 0 then [[]] else []
  | c + 1, n => (List.range (n - c).toNat).flatMap fun i : Nat => (books c (n - (1 + (i : Int)))).map fun xs => (1 + (i : Int)) :: xs
theorem books_len : ∀ (c : Nat) (n : Int) (xs : List Int), xs ∈ books c n → xs.length = c
  | 0, n, xs, h => by
    have h : xs ∈ (if n = 0 then [[]] else ([] : List (List Int))) := h
    split at h
    · rw [List.mem_singleton.mp h]; rfl
    · cases h
  | c + 1, n, xs, h => by
    have h : xs ∈ (List.range (n - c).toNat).flatMap fun i : Nat => (books c (n - (1 + (i : Int)))).map fun xs => (1 + (i : Int)) :: xs := h
    obtain ⟨i, _, hi⟩ := List.mem_flatMap.mp h
    obtain ⟨ys, hy, rfl⟩ := List.mem_map.mp hi
    rw [List.length_cons, books_len c _ ys hy]
def fitsB (ls : List (Int × Int)) (xs : List Int) : Bool := ls.all fun l => decide (ct xs l.1 = l.2)
def sh (i : Nat) (ls : List (Int × Int)) : List (Int × Int) := ls.map fun l => (l.1, l.2 - ((i : Int) / l.1 + 1))
theorem fits_cons (i : Nat) (ls : List (Int × Int)) (xs : List Int) : fitsB ls ((1 + (i : Int)) :: xs) = fitsB (sh i ls) xs := by
  unfold fitsB sh
  induction ls with
  | nil => rfl
  | cons l ls ih =>
    rw [List.map_cons, List.all_cons, List.all_cons, ih]
    congr 1
    rw [decide_eq_decide, ct_cons]
    show (1 + (i : Int) - 1) / l.1 + 1 + ct xs l.1 = l.2 ↔ ct xs l.1 = l.2 - ((i : Int) / l.1 + 1)
    rw [show 1 + (i : Int) - 1 = i by omega]
    omega
def quots (c : Nat) : Int → List (Int × Int) → List (Nat × Int)
  | _, [] => []
  | u, l :: rest => ((l.1 / u).toNat, l.2 - c) :: quots c l.1 rest
theorem gp_gq (c : Nat) : ∀ (ls : List (Int × Int)) (left u : Int), 1 ≤ u → Chain u ls → gp c left u ls = gq c left (quots c u ls)
  | [], _, _, _, _ => rfl
  | l :: rest, left, u, hu, ⟨h1, h2, h3⟩ => by
    have hb := chain_base hu h1
    show (if l.2 - c < 0 then (0 : Int) else Wf (l.1 / u).toNat c (left - (l.1 / u) * (l.2 - c)) * gp c (l.2 - c) l.1 rest) = (if l.2 - c < 0 then (0 : Int) else Wf (l.1 / u).toNat c (left - ((l.1 / u).toNat : Nat) * (l.2 - c)) * gq c (l.2 - c) (quots c l.1 rest))
    rw [gp_gq c rest _ _ (by omega) h3, show (((l.1 / u).toNat : Nat) : Int) = l.1 / u by omega]
theorem quots_pos (c : Nat) : ∀ (ls : List (Int × Int)) (u : Int), 1 ≤ u → Chain u ls → ∀ x ∈ quots c u ls, 1 ≤ x.1
  | [], _, _, _, x, hx => by cases hx
  | l :: rest, u, hu, ⟨h1, h2, h3⟩, x, hx => by
    have hb := chain_base hu h1
    rcases List.mem_cons.mp hx with rfl | hx
    · show 1 ≤ (l.1 / u).toNat
      omega
    · exact quots_pos c rest l.1 (by omega) h3 x hx
theorem quots_sh (c i : Nat) : ∀ (ls : List (Int × Int)) (u : Int), 1 ≤ u → Chain u ls → quots c u (sh i ls) = shiftq ((i : Int) / u).toNat (quots (c + 1) u ls)
  | [], _, _, _ => rfl
  | l :: rest, u, hu, ⟨h1, h2, h3⟩ => by
    have hb := chain_base hu h1
    have i0 : 0 ≤ (i : Int) / u := Int.ediv_nonneg (by omega) (by omega)
    have j0 : 0 ≤ (i : Int) / l.1 := Int.ediv_nonneg (by omega) (by omega)
    have e : (i : Int) / u / (l.1 / u) = i / l.1 := by
      rw [Int.ediv_ediv_of_nonneg (by omega), Int.mul_ediv_cancel' h2]
    have e2 : ((((i : Int) / u).toNat / (l.1 / u).toNat : Nat) : Int) = (i : Int) / l.1 := by
      rw [Int.natCast_ediv, Int.toNat_of_nonneg i0, Int.toNat_of_nonneg (by omega), e]
    have e3 : ((i : Int) / u).toNat / (l.1 / u).toNat = ((i : Int) / l.1).toNat := by omega
    show ((l.1 / u).toNat, l.2 - ((i : Int) / l.1 + 1) - c) :: quots c l.1 (sh i rest) = ((l.1 / u).toNat, l.2 - ((c + 1 : Nat) : Int) - ((((i : Int) / u).toNat / (l.1 / u).toNat : Nat) : Int)) :: shiftq (((i : Int) / u).toNat / (l.1 / u).toNat) (quots (c + 1) l.1 rest)
    rw [e2, e3, quots_sh c i rest l.1 (by omega) h3]
    congr 2
    omega
theorem gq_zero : ∀ (r : List (Nat × Int)) (left : Int), gq 0 left r = if left = 0 ∧ ∀ x ∈ r, x.2 = 0 then 1 else 0
  | [], left => by
    show (if left = 0 then (1 : Int) else 0) = _
    simp
  | (b, t) :: r, left => by
    show (if t < 0 then (0 : Int) else (if left - b * t = 0 then (1 : Int) else 0) * gq 0 t r) = _
    rw [gq_zero r t]
    by_cases ht : t = 0
    · subst ht
      rw [if_neg (by omega), Int.mul_zero, Int.sub_zero]
      by_cases h1 : left = 0
      · rw [if_pos h1, Int.one_mul]
        by_cases h2 : ∀ x ∈ r, x.2 = 0
        · rw [if_pos ⟨rfl, h2⟩, if_pos ⟨h1, List.forall_mem_cons.mpr ⟨rfl, h2⟩⟩]
        · rw [if_neg fun q => h2 q.2, if_neg fun q => h2 fun x hx => q.2 x (List.mem_cons_of_mem _ hx)]
      · rw [if_neg h1, Int.zero_mul, if_neg fun q => h1 q.1]
    · have n1 : ¬ (t = 0 ∧ ∀ x ∈ r, x.2 = 0) := fun q => ht q.1
      have n2 : ¬ (left = 0 ∧ ∀ x ∈ (b, t) :: r, x.2 = 0) := fun q => ht (q.2 (b, t) List.mem_cons_self)
      rw [if_neg n1, Int.mul_zero, if_neg n2]
      split <;> rfl
theorem quots_zero : ∀ (ls : List (Int × Int)) (u : Int), (∀ x ∈ quots 0 u ls, x.2 = 0) ↔ ∀ l ∈ ls, l.2 = 0
  | [], _ => by simp [quots]
  | l :: rest, u => by
    have ih := quots_zero rest l.1
    show (∀ x ∈ ((l.1 / u).toNat, l.2 - ((0 : Nat) : Int)) :: quots 0 l.1 rest, x.2 = 0) ↔ _
    rw [List.forall_mem_cons, List.forall_mem_cons, ih]
    have : l.2 - ((0 : Nat) : Int) = l.2 := by omega
    show l.2 - ((0 : Nat) : Int) = 0 ∧ _ ↔ _
    rw [this]
theorem countP_flat {α β : Type} (p : β → Bool) (g : α → List β) : ∀ l : List α, ((l.flatMap g).countP p : Nat) = (l.map fun a => (g a).countP p).sum
  | [] => rfl
  | a :: l => by rw [List.flatMap_cons, List.countP_append, countP_flat p g l, List.map_cons, List.sum_cons]
theorem sum_cast (l : List Nat) : ((l.sum : Nat) : Int) = (l.map fun x : Nat => (x : Int)).sum := by
  induction l with
  | nil => rfl
  | cons x l ih => rw [List.sum_cons, List.map_cons, List.sum_cons, Int.natCast_add, ih]
theorem books_gq : ∀ (c : Nat) (n : Int) (ls : List (Int × Int)), Chain 1 ls → (((books c n).countP (fitsB ls) : Nat) : Int) = gq c (n - c) (quots c 1 ls)
  | 0, n, ls, h => by
    rw [gq_zero, show n - ((0 : Nat) : Int) = n by omega]
    have e : (∀ x ∈ quots 0 1 ls, x.2 = 0) ↔ ∀ l ∈ ls, l.2 = 0 := quots_zero ls 1
    show (((if n = 0 then [[]] else ([] : List (List Int))).countP (fitsB ls) : Nat) : Int) = _
    by_cases hn : n = 0
    · rw [if_pos hn]
      have hf : fitsB ls [] = decide (∀ l ∈ ls, l.2 = 0) := by
        unfold fitsB
        rw [Bool.eq_iff_iff, List.all_eq_true, decide_eq_true_iff]
        constructor
        · intro z l hl
          have := of_decide_eq_true (z l hl)
          have e0 : ct [] l.1 = 0 := rfl
          omega
        · intro z l hl
          have e0 : ct [] l.1 = 0 := rfl
          rw [decide_eq_true_iff, e0, z l hl]
      rw [List.countP_cons, hf]
      by_cases hz : ∀ l ∈ ls, l.2 = 0
      · rw [if_pos (decide_eq_true hz), if_pos ⟨hn, e.mpr hz⟩]
        rfl
      · rw [if_neg (by simpa using hz), if_neg fun q => hz (e.mp q.2)]
        rfl
    · rw [if_neg hn, if_neg fun q => hn q.1]
      rfl
  | c + 1, n, ls, h => by
    have hsh : ∀ i, Chain 1 (sh i ls) := fun i => by
      have go : ∀ (ms : List (Int × Int)) (u : Int), Chain u ms → Chain u (sh i ms) := by
        intro ms
        induction ms with
        | nil => intro u _; trivial
        | cons m ms ih => intro u hm; exact ⟨hm.1, hm.2.1, ih m.1 hm.2.2⟩
      exact go ls 1 h
    show ((((List.range (n - c).toNat).flatMap fun i : Nat => (books c (n - (1 + (i : Int)))).map fun xs => (1 + (i : Int)) :: xs).countP (fitsB ls) : Nat) : Int) = _
    rw [countP_flat, sum_cast, List.map_map]
    have e : ((List.range (n - c).toNat).map ((fun x : Nat => (x : Int)) ∘ fun i : Nat => ((books c (n - (1 + (i : Int)))).map fun xs => (1 + (i : Int)) :: xs).countP (fitsB ls))).sum = sumR (n - c).toNat fun z => gq c (n - ((c + 1 : Nat) : Int) - z) (shiftq z (quots (c + 1) 1 ls)) := by
      unfold sumR
      congr 1
      refine List.map_congr_left fun i _ => ?_
      show ((((books c (n - (1 + (i : Int)))).map fun xs => (1 + (i : Int)) :: xs).countP (fitsB ls) : Nat) : Int) = _
      rw [List.countP_map]
      have e1 : (fitsB ls ∘ fun xs => (1 + (i : Int)) :: xs) = fitsB (sh i ls) := by
        funext xs
        exact fits_cons i ls xs
      rw [e1, books_gq c _ _ (hsh i), quots_sh c i ls 1 (by omega) h, Int.ediv_one, show ((i : Int)).toNat = i by omega, show n - (1 + (i : Int)) - c = n - ((c + 1 : Nat) : Int) - i by omega]
    rw [e]
    exact gq_sum c _ _ _ (quots_pos _ _ _ (by omega) h) (by omega)
/-- counting by trying -/
theorem books_count (c : Nat) {n : Int} {ls : List (Int × Int)} (h : Chain 1 ls) : (((books c n).countP (fitsB ls) : Nat) : Int) = cnt c n ls := by
  rw [books_gq c n ls h]
  unfold cnt
  by_cases hc : c = 0
  · subst hc
    rw [if_pos rfl, gq_zero, show n - ((0 : Nat) : Int) = n by omega]
    by_cases h2 : n = 0 ∧ ∀ l ∈ ls, l.2 = 0
    · rw [if_pos h2, if_pos ⟨h2.1, (quots_zero ls 1).mpr h2.2⟩]
    · rw [if_neg h2, if_neg fun q => h2 ⟨q.1, (quots_zero ls 1).mp q.2⟩]
  · rw [if_neg hc]
    by_cases hn : n < c
    · rw [if_pos hn, gq_neg (by omega)]
    · rw [if_neg hn, gp_gq c ls _ _ (by omega) h]
/-! ### chains that may be wrong -/
/-- the first index at which a chain is wrong -/
def badC : Int → List (Int × Int) → Option Nat
  | _, [] => none
  | u, l :: r => if u < l.1 ∧ (0 < u → l.1 % u = 0) then (badC l.1 r).map (· + 1) else some 0
theorem badC_none : ∀ {ls : List (Int × Int)} {u : Int}, badC u ls = none ↔ VChain u ls
  | [], u => ⟨fun _ => trivial, fun _ => rfl⟩
  | l :: r, u => by
    show (if u < l.1 ∧ (0 < u → l.1 % u = 0) then (badC l.1 r).map (· + 1) else some 0) = none ↔ (u < l.1 ∧ (0 < u → l.1 % u = 0) ∧ VChain l.1 r)
    by_cases h : u < l.1 ∧ (0 < u → l.1 % u = 0)
    · rw [if_pos h, Option.map_eq_none_iff, badC_none]
      exact ⟨fun z => ⟨h.1, h.2, z⟩, fun z => z.2.2⟩
    · rw [if_neg h]
      exact ⟨fun z => (by cases z), fun z => (h ⟨z.1, z.2.1⟩).elim⟩
/-- one more index done -/
theorem badC_step {ls : List (Int × Int)} {u : Int} {i : Nat} {l : Int × Int} (h : badC 0 ls = (badC u (ls.drop i)).map (· + i)) (hl : ls[i]? = some l) :
    ((u < l.1 ∧ (0 < u → l.1 % u = 0)) → badC 0 ls = (badC l.1 (ls.drop (i + 1))).map (· + (i + 1))) ∧ (¬(u < l.1 ∧ (0 < u → l.1 % u = 0)) → badC 0 ls = some i) := by
  have dr : ls.drop i = l :: ls.drop (i + 1) := List.drop_eq_getElem?_toList_append.trans (by rw [hl]; rfl)
  rw [dr, badC] at h
  constructor
  · intro g
    rw [if_pos g, Option.map_map] at h
    rw [h]
    congr 1
    funext x
    show x + 1 + i = x + (i + 1)
    omega
  · intro g
    rw [if_neg g] at h
    rw [h]
    simp
/-! ### the books that fit, in ascending order -/
def fl (c : Nat) (n : Int) (ls : List (Int × Int)) : List (List Int) := (books c n).filter (fitsB ls)
theorem fl_len {c : Nat} {n : Int} {ls : List (Int × Int)} (h : Chain 1 ls) : ((fl c n ls).length : Int) = cnt c n ls := by
  rw [← books_count c h]
  unfold fl
  rw [List.countP_eq_length_filter]
theorem sh_chain (i : Nat) {ls : List (Int × Int)} {u : Int} (h : Chain u ls) : Chain u (sh i ls) := by
  induction ls generalizing u with
  | nil => trivial
  | cons m ms ih => exact ⟨h.1, h.2.1, ih h.2.2⟩
def blk (c : Nat) (n : Int) (ls : List (Int × Int)) (i : Nat) : List (List Int) := (fl c (n - (1 + (i : Int))) (sh i ls)).map fun xs => (1 + (i : Int)) :: xs
theorem fl_succ (c : Nat) (n : Int) (ls : List (Int × Int)) : fl (c + 1) n ls = (List.range (n - c).toNat).flatMap (blk c n ls) := by
  unfold fl
  rw [books, List.filter_flatMap]
  congr 1
  funext i
  rw [List.filter_map]
  have e1 : (fitsB ls ∘ fun xs => (1 + (i : Int)) :: xs) = fitsB (sh i ls) := by
    funext xs
    exact fits_cons i ls xs
  rw [e1]
  rfl
theorem blk_len {c : Nat} {n : Int} {ls : List (Int × Int)} (h : Chain 1 ls) (i : Nat) : ((blk c n ls i).length : Int) = cnt c (n - (1 + (i : Int))) (sh i ls) := by
  unfold blk
  rw [List.length_map, fl_len (sh_chain i h)]
def pre (c : Nat) (n : Int) (ls : List (Int × Int)) (i : Nat) : Nat := ((List.range i).flatMap (blk c n ls)).length
theorem pre_succ (c : Nat) (n : Int) (ls : List (Int × Int)) (i : Nat) : pre c n ls (i + 1) = pre c n ls i + (blk c n ls i).length := by
  unfold pre
  rw [List.range_succ, List.flatMap_append, List.length_append]
  simp
theorem pre_mono (c : Nat) (n : Int) (ls : List (Int × Int)) {i j : Nat} (h : i ≤ j) : pre c n ls i ≤ pre c n ls j := by
  obtain ⟨d, rfl⟩ : ∃ d, j = i + d := ⟨j - i, by omega⟩
  induction d with
  | zero => exact Nat.le_refl _
  | succ d ih =>
    have := pre_succ c n ls (i + d)
    have := ih (by omega)
    show pre c n ls i ≤ pre c n ls (i + d + 1)
    omega
theorem fl_at {c : Nat} {n : Int} {ls : List (Int × Int)} {i k : Nat} (hi : i < (n - c).toNat) (h1 : pre c n ls i ≤ k) (h2 : k < pre c n ls (i + 1)) :
    (fl (c + 1) n ls)[k]? = ((fl c (n - (1 + (i : Int))) (sh i ls))[k - pre c n ls i]?).map fun xs => (1 + (i : Int)) :: xs := by
  rw [fl_succ]
  obtain ⟨d, hd⟩ : ∃ d, (n - c).toNat = (i + 1) + d := ⟨(n - c).toNat - (i + 1), by omega⟩
  rw [hd, List.range_add, List.flatMap_append, List.getElem?_append_left h2, List.range_succ, List.flatMap_append, List.getElem?_append_right h1]
  have e : [i].flatMap (blk c n ls) = blk c n ls i := by simp
  rw [e]
  unfold blk
  rw [List.getElem?_map]
  rfl
def spWithout (K : PySem.W.Frag) : Sp := fun vs H Q _ => ∃ (p : Addr) (ps : List Addr) (ls : List (Int × Int)) (i : Nat), vs = [.ref p, .int (1 + (i : Int))] ∧ H p = some (.lst (ps.map V.ref)) ∧ PairsAt H ps ls ∧ ps.length ≤ 1000 ∧ (∀ l ∈ ls, 1 ≤ l.1 ∧ l.1 < 2 ^ 150) ∧ (i : Int) < 2 ^ 150 ∧
  ∀ (r : Addr) (qs : List Addr) (H' : Hp), Fr [] H H' → H r = none → H' r = some (.lst (qs.map V.ref)) → PairsAt H' qs (sh i ls) → Q (.ref r) H'
set_option maxHeartbeats 4000000 in
theorem ok_without (T : Txt K mg c) : DefAt P w K mg base "without" s_without 1 ["chain", "length"] (spWithout K) := by
  refine T.f_without.ok sc_without (fun vs H Q E h => ?_) (fun _ _ _ _ _ _ us hl => match us, hl with | [_, _], _ => rfl) (fun f cdv A outer s H vs Q E hr h => ?_)
  · obtain ⟨p, ps, ls, i, rfl, hp, hps, hz, hl, hi, q⟩ := h
    rfl
  · obtain ⟨p, ps, ls, i, rfl, hp, hps, hz, hl, hi, q⟩ := h
    refine ⟨_, (pss_one (ps_ret (pe_lc (own := [("size", 2), ("pages", 3)]) (tt := tYes) rfl sc_without.nd (pi_list (pv 0)) (blkOk_by (N := sc_without_N) (sc := defScope s_without) (by decide +kernel)) (fun _ _ _ _ _ => (kc_pg (K := K) (pg_tup (n := 2) rfl (pgs_cons (pg_name (i := 2) sc_without.nd rfl (Or.inl rfl)) (pgs_cons (pg_name (i := 3) sc_without.nd rfl (Or.inl rfl)) pgs_nil))) rfl)) (fun _ _ _ _ _ => pts_nil) (fun _ _ _ _ _ => (pe_tup (pa_cons (pv 2) (pa_cons (pe_op op_sub (pv 3) (pe_op op_fdivW (pe_op op_sub (pe_op op_add (pv 1) (pv 2)) pe_int) (pv 2))) pa_nil))))))), ?_⟩
    refine w_start (σ' := [some (.ref p), some (.int (1 + (i : Int))), none, none]) rfl ?_
    walk_at "g"
    have hlen := hps.1
    have shl : (sh i ls).length = ls.length := by simp [sh]
    refine l_list (ps.map V.ref) (fun L j H' => ∃ qs : List Addr, Fr [] H H' ∧ H' L = some (.lst (qs.map V.ref)) ∧ PairsAt H' qs ((sh i ls).take j) ∧ qs.length = j) (fun L hL => ?_) (fun L j H' _ _ h => ?_) (fun L j y H' hL hy h => ?_) (fun L H' hL h => ?_)
    · exact ⟨[], Fr.refl.new hL, upd_same, .nil, rfl⟩
    · obtain ⟨qs, g1, g2, g3, g4⟩ := h
      exact .of (g1.at0 hp)
    · obtain ⟨qs, g1, g2, g3, g4⟩ := h
      obtain ⟨t, ht, rfl⟩ := map_at' hy
      have hjl := (List.getElem?_eq_some_iff.mp ht).1
      obtain ⟨l, hl2⟩ : ∃ l, ls[j]? = some l := ⟨_, List.getElem?_eq_getElem (by omega)⟩
      have htup := g1.at0 (hps.2 j t l ht hl2)
      have hb := hl l (List.mem_of_getElem? hl2)
      have e1 : (1 + (i : Int) + l.1 - 1) / l.1 = (i : Int) / l.1 + 1 := by
        rw [show 1 + (i : Int) + l.1 - 1 = (i : Int) + l.1 by omega, Int.add_ediv_of_dvd_right (Int.dvd_refl _), Int.ediv_self (by omega)]
      have htk : (sh i ls).take (j + 1) = (sh i ls).take j ++ [(l.1, l.2 - ((i : Int) / l.1 + 1))] := by
        rw [List.take_succ]
        unfold sh
        rw [List.getElem?_map, hl2]
        rfl
      refine w_gTup (SqT.of htup) rfl ?_
      walk_at "g"
      refine ⟨rfl, ?_⟩
      walk_at "g"
      rename_i tp ntp
      rw [e1]
      have hL2 := at_upd (u := .tup [.int l.1, .int (l.2 - ((i : Int) / l.1 + 1))]) g2 ntp
      refine w_appE hL2 (by rw [List.length_map]; omega) ⟨qs ++ [tp], (g1.new ntp).put (.inl hL), ?_, ?_, by rw [List.length_append, g4]; rfl⟩
      · rw [List.map_append (f := V.ref)]
        exact upd_same
      · rw [htk]
        exact ((g3.fr (Fr.refl.new ntp)).snoc (l := (l.1, l.2 - ((i : Int) / l.1 + 1))) upd_same).put hL2
    · obtain ⟨qs, g1, g2, g3, g4⟩ := h
      rw [List.length_map, hlen, ← shl, List.take_length] at g3
      walk_at "g"
      exact q L qs H' g1 hL g2 g3
/-- what check_fitting finds -/
def spCheckFX (K : PySem.W.Frag) (c : Cs) : Sp := fun vs H Q E => ∃ (p : Addr) (ps : List Addr) (ls : List (Int × Int)) (m n : Int), vs = [.int m, .int n, .ref p] ∧ H p = some (.lst (ps.map V.ref)) ∧ PairsAt H ps ls ∧ ps.length ≤ 1000 ∧
  (0 ≤ m → 0 ≤ n → badC 0 ls = none → ∀ H', Fr [] H H' → Q .non H') ∧ (m < 0 → Raised E H c.InvalidNumber (.int m)) ∧ (0 ≤ m → n < 0 → Raised E H c.InvalidNumber (.int n)) ∧ (0 ≤ m → 0 ≤ n → ∀ i, badC 0 ls = some i → Raised E H c.InvalidChain (.int (i : Nat)))
set_option maxHeartbeats 4000000 in
theorem ok_check_fitting (T : Txt K mg c) : DefAtX P w K mg base "check_fitting" s_check_fitting 3 ["chapters", "lines", "chain"] (spCheckFX K c) := by
  have D_InvalidNumber___init__ := ok_InvalidNumber___init__ (P := P) (w := w) (base := base) T
  have D_InvalidChain___init__ := ok_InvalidChain___init__ (P := P) (w := w) (base := base) T
  refine T.f_check_fitting.okX sc_check_fitting (fun vs H Q E h => ?_) (fun _ _ _ _ _ _ us hl => match us, hl with | [_, _, _], _ => rfl) (fun f cdv A outer s H vs Q E hr h => ?_)
  · obtain ⟨p, ps, ls, m, n, rfl, hp, hps, lp, q, e1, e2, e3⟩ := h
    rfl
  · obtain ⟨p, ps, ls, m, n, rfl, hp, hps, lp, q, e1, e2, e3⟩ := h
    refine ⟨_, (pss_cons (ps_for (passes_of rfl) rfl (pi_tup (pe_tup (pa_cons (pv 0) (pa_cons (pv 1) pa_nil)))) (pg_name (i := 3) sc_check_fitting.nd rfl (Or.inl rfl)) (pss_one (ps_if (pt_cmpR op_lt (pv 3) pe_int (nomark _)) (pss_one (ps_raiseX T.x_InvalidNumber D_InvalidNumber___init__ (hr.mono (by decide)) (takes_of rfl rfl rfl rfl) (pv 3))) pss_nil)))
    (pss_cons (ps_set (i := 4) sc_check_fitting.nd rfl (Or.inl rfl) pe_int)
    (pss_one (ps_for (passes_of rfl) rfl (pi_enum (by rfl) T.n_enumerate (pa_cons (pv 2) pa_nil)) (pg_tup rfl (pgs_cons (pg_name (i := 5) sc_check_fitting.nd rfl (Or.inl rfl)) (pgs_cons (pg_tup rfl (pgs_cons (pg_name (i := 6) sc_check_fitting.nd rfl (Or.inl rfl)) (pgs_cons (pg_name (i := 7) sc_check_fitting.nd rfl (Or.inl rfl)) pgs_nil))) pgs_nil))) (pss_cons (ps_if (PW.pt (pw_or (pt_cmpR op_le (pv 6) (pv 4) (nomark _)) (pw_or1 (PW.pt (pw_and (pt_cmpR op_gt (pv 4) pe_int (nomark _)) (pw_and1 (pt_cmpR op_ne (pe_op op_mod (pv 6) (pv 4)) pe_int (nomark _)))))))) (pss_one (ps_raiseX T.x_InvalidChain D_InvalidChain___init__ (hr.mono (by decide)) (takes_of rfl rfl rfl rfl) (pv 5))) pss_nil)
    (pss_one (ps_set (i := 4) sc_check_fitting.nd rfl (Or.inl rfl) (pv 6)))))))), ?_⟩
    refine w_start (σ' := [some (.int m), some (.int n), some (.ref p), none, none, none, none, none]) rfl ?_
    walk_at "g"
    rename_i t0 nt0
    have hp1 : upd H t0 (.tup [.int m, .int n]) p = some (.lst (ps.map V.ref)) := at_upd hp nt0
    have hps1 : PairsAt (upd H t0 (.tup [.int m, .int n])) ps ls := hps.fr (Fr.refl.new nt0)
    have f01 : Fr [] H (upd H t0 (.tup [.int m, .int n])) := Fr.refl.new nt0
    have ht : upd H t0 (.tup [.int m, .int n]) t0 = some (.tup [.int m, .int n]) := upd_same
    generalize upd H t0 (.tup [.int m, .int n]) = H1 at hp1 hps1 f01 ht ⊢
    refine f_tup [.int m, .int n] (fun i σ' H' => ∃ o : Option V, σ' = [some (.int m), some (.int n), some (.ref p), o, none, none, none, none] ∧ H' = H1 ∧ (0 < i → 0 ≤ m) ∧ (1 < i → 0 ≤ n)) ⟨none, rfl, rfl, by omega, by omega⟩ ?_ ?_ ?_
    · rintro i σ' H' hi ⟨o, rfl, rfl, _, _⟩
      exact SqT.of ht
    · rintro i x σ' H' hx ⟨o, rfl, rfl, g1, g2⟩
      match i, hx, g1, g2 with
      | 0, hx, g1, g2 =>
        obtain rfl : V.int m = x := by simpa using hx
        walk_at "g"
        refine w_ite (fun h => ?_) (fun h => ?_)
        · walk_at "g"
          exact w_raiseE ((e1 h).at f01)
        · walk_at "g"
          exact ⟨_, rfl, rfl, fun _ => by omega, by omega⟩
      | 1, hx, g1, g2 =>
        obtain rfl : V.int n = x := by simpa using hx
        walk_at "g"
        refine w_ite (fun h => ?_) (fun h => ?_)
        · walk_at "g"
          exact w_raiseE ((e2 (g1 (by omega)) h).at f01)
        · walk_at "g"
          exact ⟨_, rfl, rfl, fun _ => g1 (by omega), fun _ => by omega⟩
      | i + 2, hx, _, _ => simp at hx
    · rintro σ' H' ⟨o, rfl, rfl, g1, g2⟩
      have m0 := g1 (Nat.succ_pos _)
      have n0 := g2 (Nat.lt_succ_self _)
      walk_at "g"
      refine f_enum (ps.map V.ref) (fun i σ' H'' => ∃ (o5 o6 o7 : Option V) (u : Int), σ' = [some (.int m), some (.int n), some (.ref p), o, some (.int u), o5, o6, o7] ∧ Fr [] H H'' ∧ 0 ≤ u ∧ badC 0 ls = (badC u (ls.drop i)).map (· + i)) ⟨none, none, none, 0, rfl, f01, Int.le_refl 0, by simp⟩ ?_ ?_ ?_
      · rintro i σ' H'' hi ⟨o5, o6, o7, u, rfl, f2, _⟩
        exact SqL.of (f2.at0 hp)
      · rintro i x T σ' H'' hx ⟨o5, o6, o7, u, rfl, f2, hu0, hv2⟩ hT
        obtain ⟨t, ht2, rfl⟩ := map_at' hx
        have hil := (List.getElem?_eq_some_iff.mp ht2).1
        have hl := hps.1
        obtain ⟨l, hl2⟩ : ∃ l, ls[i]? = some l := ⟨_, List.getElem?_eq_getElem (by omega)⟩
        have htup := f2.at0 (hps.2 i t l ht2 hl2)
        have htup2 : upd H'' T (.tup [.int i, .ref t]) t = some (.tup [.int l.1, .int l.2]) := at_upd htup hT
        obtain ⟨b1, b2⟩ := badC_step hv2 hl2
        have f3 := f2.new (o := .tup [.int i, .ref t]) hT
        walk_at "g"
        refine w_ite (fun hle => ?_) (fun hgt => ?_)
        · walk_at "g"
          exact w_raiseE ((e3 m0 n0 i (b2 (fun z => by have := z.1; omega))).at f3)
        · walk_at "g"
          refine w_ite (fun hu => ?_) (fun hu => ?_)
          · walk_at "g"
            refine w_iteN (fun hne => ?_) (fun heq => ?_)
            · walk_at "g"
              exact w_raiseE ((e3 m0 n0 i (b2 (fun z => hne (z.2 hu)))).at f3)
            · walk_at "g"
              exact ⟨_, _, _, _, rfl, f3, by omega, b1 ⟨by omega, fun _ => heq⟩⟩
          · walk_at "g"
            exact ⟨_, _, _, _, rfl, f3, by omega, b1 ⟨by omega, fun z => absurd z hu⟩⟩
      · rintro σ' H'' ⟨o5, o6, o7, u, rfl, f2, hu0, hv2⟩
        refine q m0 n0 ?_ _ f2
        rw [hv2, List.length_map, hps.1, List.drop_length]
        rfl
/-- the errors of the first three arguments -/
def RaiseF (E : XK) (H : Hp) (c : Cs) (m n : Int) (ls : List (Int × Int)) : Prop := (m < 0 → Raised E H c.InvalidNumber (.int m)) ∧ (0 ≤ m → n < 0 → Raised E H c.InvalidNumber (.int n)) ∧ (0 ≤ m → 0 ≤ n → ∀ i, badC 0 ls = some i → Raised E H c.InvalidChain (.int (i : Nat)))
def spCountFX (K : PySem.W.Frag) (c : Cs) : Sp := fun vs H Q E => ∃ (p : Addr) (ps : List Addr) (ls : List (Int × Int)) (m n : Int), vs = [.int m, .int n, .ref p] ∧ H p = some (.lst (ps.map V.ref)) ∧ PairsAt H ps ls ∧ ps.length ≤ 1000 ∧
  (0 ≤ m → 0 ≤ n → VChain 0 ls → Sized m.toNat n ls) ∧ (0 ≤ m → 0 ≤ n → VChain 0 ls → ∀ H', Fr [] H H' → Q (.int (cnt m.toNat n ls)) H') ∧ RaiseF E H c m n ls
set_option maxHeartbeats 4000000 in
theorem ok_count_fitting (T : Txt K mg c) : DefAtX P w K mg base "count_fitting" s_count_fitting 4 ["chapters", "lines", "chain"] (spCountFX K c) := by
  have D_check_fitting := ok_check_fitting (P := P) (w := w) (base := base) T
  have D_count_of := ok_count_of (P := P) (w := w) (base := base) T
  refine T.f_count_fitting.okX sc_count_fitting (fun vs H Q E h => ?_) (fun _ _ _ _ _ _ us hl => match us, hl with | [_, _, _], _ => rfl) (fun f cdv A outer s H vs Q E hr h => ?_)
  · obtain ⟨p, ps, ls, m, n, rfl, hp, hps, lp, hs, q, e1, e2, e3⟩ := h
    rfl
  · obtain ⟨p, ps, ls, m, n, rfl, hp, hps, lp, hs, q, e1, e2, e3⟩ := h
    refine ⟨_, (pss_cons (ps_expr (pe_callX D_check_fitting (hr.mono (by decide)) (takes_of rfl rfl rfl rfl) (pa_cons (pv 0) (pa_cons (pv 1) (pa_cons (pv 2) pa_nil)))))
    (pss_one (ps_ret (pe_callD D_count_of (hr.mono (by decide)) (pa_cons (pv 0) (pa_cons (pv 1) (pa_cons (pv 2) pa_nil))))))), ?_⟩
    refine w_start (σ' := [some (.int m), some (.int n), some (.ref p)]) rfl ?_
    walk_at "g"
    refine ⟨p, ps, ls, m, n, rfl, hp, hps, lp, fun m0 n0 hb H2 f2 => ?_, e1, e2, e3⟩
    have hv := badC_none.mp hb
    walk_at "g"
    refine ⟨p, ps, ls, m.toNat, n, by rw [Int.toNat_of_nonneg m0]; rfl, f2.at0 hp, hps.fr f2, hv.chain, hs m0 n0 hv, fun H3 f3 => ?_⟩
    walk_at "g"
    exact q m0 n0 hv H3 (f2.trans f3)
/-- a chain whose numbers of pages have sunk by at most d -/
structure SizedN (c : Nat) (n d : Int) (ls : List (Int × Int)) : Prop where
  c : c ≤ 60
  n0 : 0 ≤ n
  d0 : 0 ≤ d
  s : n + d < 2 ^ 140
  l : ls.length ≤ 40
  p : ∀ l ∈ ls, 1 ≤ l.1 ∧ l.1 < 2 ^ 140 ∧ -(2 ^ 140) - d < l.2 ∧ l.2 < 2 ^ 140
theorem SizedN.sized {c : Nat} {n d : Int} {ls : List (Int × Int)} (h : SizedN c n d ls) : Sized c n ls := by
  obtain ⟨h1, h2, h3, h4, h5, h6⟩ := h
  exact ⟨h1, h2, by omega, h5, fun l hl => by have := h6 l hl; omega⟩
theorem SizedN.down {c : Nat} {n d : Int} {ls : List (Int × Int)} (h : SizedN (c + 1) n d ls) {i : Nat} (hi : 1 + (i : Int) ≤ n) : SizedN c (n - (1 + (i : Int))) (d + (1 + (i : Int))) (sh i ls) := by
  obtain ⟨h1, h2, h3, h4, h5, h6⟩ := h
  refine ⟨by omega, by omega, by omega, by omega, by rw [show sh i ls = ls.map (fun l => (l.1, l.2 - ((i : Int) / l.1 + 1))) from rfl]; rw [List.length_map]; exact h5, fun l hl => ?_⟩
  have hl : l ∈ ls.map (fun l => (l.1, l.2 - ((i : Int) / l.1 + 1))) := hl
  obtain ⟨m, hm, rfl⟩ := List.mem_map.mp hl
  have := h6 m hm
  have e1 : 0 ≤ (i : Int) / m.1 := Int.ediv_nonneg (by omega) (by omega)
  have e2 : (i : Int) / m.1 ≤ i := Int.ediv_le_self _ (by omega)
  show 1 ≤ m.1 ∧ m.1 < 2 ^ 140 ∧ _ < m.2 - ((i : Int) / m.1 + 1) ∧ m.2 - ((i : Int) / m.1 + 1) < 2 ^ 140
  omega
def spNthX (K : PySem.W.Frag) (c : Cs) : Sp := fun vs H Q E => ∃ (p : Addr) (ps : List Addr) (ls : List (Int × Int)) (m n k : Int), vs = [.int m, .int n, .ref p, .int k] ∧ H p = some (.lst (ps.map V.ref)) ∧ PairsAt H ps ls ∧ ps.length ≤ 1000 ∧
  (0 ≤ m → 0 ≤ n → VChain 0 ls → SizedN m.toNat n 0 ls) ∧ (0 ≤ m → 0 ≤ n → VChain 0 ls → 0 ≤ k → ∀ xs : List Int, (fl m.toNat n ls)[k.toNat]? = some xs → ∀ (r : Addr) (H' : Hp), Fr [] H H' → H r = none → H' r = some (.lst (xs.map V.int)) → Q (.ref r) H') ∧ RaiseF E H c m n ls ∧
  (0 ≤ m → 0 ≤ n → VChain 0 ls → ¬(0 ≤ k ∧ k < cnt m.toNat n ls) → Raised E H c.InvalidNumber (.int k))
theorem w_revR1 {te : TE} {σ : L2.St} {H : Hp} {R : It → Hp → Prop} (h : te σ H fun x H1 => ∃ n : Int, x = .int n ∧ 0 ≤ n ∧ n < 2 ^ 62 ∧ R (Itc (n - 1) (-1) n.toNat) H1) (mono : ∀ {P1 P2 : V → Hp → Prop}, (∀ x H, P1 x H → P2 x H) → te σ H P1 → te σ H P2) : iRevR (tRg1 te) σ H R := by
  refine mono (fun x H1 h => ?_) h
  obtain ⟨n, rfl, h0, h1, h⟩ := h
  refine ⟨n, rfl, by omega, by omega, by omega, by omega, ?_⟩
  rw [show (0 : Int) + (((n - 0).toNat : Nat) : Int) - 1 = n - 1 by omega, show (n - 0).toNat = n.toNat by rw [Int.sub_zero]]
  exact h
theorem kb_nth_fitting_number_chain_lines_chapters : KB0 "nth_fitting" "nth_fitting" s_nth_fitting ["chapters", "lines", "chain", "number"] ["number", "chain", "lines", "chapters"] 0 [3, 2, 1, 0] := fun _ _ _ _ _ _ us ws hu hw => match us, ws, hu, hw with | [], [_, _, _, _], _, _ => rfl
set_option maxHeartbeats 4000000 in
theorem ok_nth_fitting (T : Txt K mg c) : DefAtX P w K mg base "nth_fitting" s_nth_fitting 4 ["chapters", "lines", "chain", "number"] (spNthX K c) := by
  have D_check_fitting := ok_check_fitting (P := P) (w := w) (base := base) T
  have D_count_of := ok_count_of (P := P) (w := w) (base := base) T
  have D_InvalidNumber___init__ := ok_InvalidNumber___init__ (P := P) (w := w) (base := base) T
  have D_without := ok_without (P := P) (w := w) (base := base) T
  refine T.f_nth_fitting.okX sc_nth_fitting (fun vs H Q E h => ?_) (fun _ _ _ _ _ _ us hl => match us, hl with | [_, _, _, _], _ => rfl) (fun f cdv A outer s H vs Q E hr h => ?_)
  · obtain ⟨p, ps, ls, m, n, k, rfl, hp, hps, lp, hs, q, ⟨e1, e2, e3⟩, e4⟩ := h
    rfl
  · obtain ⟨p, ps, ls, m, n, k, rfl, hp, hps, lp, hs, q, ⟨e1, e2, e3⟩, e4⟩ := h
    refine ⟨_, (pss_cons (ps_expr (pe_callX D_check_fitting (hr.mono (by decide)) (takes_of rfl rfl rfl rfl) (pa_cons (pv 0) (pa_cons (pv 1) (pa_cons (pv 2) pa_nil)))))
    (pss_cons (ps_if (pt_not (pt_chain op_le op_lt pe_int (pv 3) (pe_callD D_count_of (hr.mono (by decide)) (pa_cons (pv 0) (pa_cons (pv 1) (pa_cons (pv 2) pa_nil)))))) (pss_one (ps_raiseX T.x_InvalidNumber D_InvalidNumber___init__ (hr.mono (by decide)) (takes_of rfl rfl rfl rfl) (pv 3))) pss_nil)
    (pss_cons (ps_set (i := 4) sc_nth_fitting.nd rfl (Or.inl rfl) (pe_lst pa_nil))
    (pss_cons (ps_for (passes_of rfl) rfl (pi_revR (by rfl) T.n_reversed (prg_1 (by rfl) T.n_range (pv 0))) (pg_name (i := 5) sc_nth_fitting.nd rfl (Or.inl rfl)) (pss_cons (ps_set (i := 6) sc_nth_fitting.nd rfl (Or.inl rfl) pe_int)
    (pss_cons (ps_set (i := 7) sc_nth_fitting.nd rfl (Or.inl rfl) (pe_callD D_count_of (hr.mono (by decide)) (pa_cons (pv 5) (pa_cons (pe_op op_sub (pv 1) (pv 6)) (pa_cons (pe_callD D_without (hr.mono (by decide)) (pa_cons (pv 2) (pa_cons (pv 6) pa_nil))) pa_nil)))))
    (pss_cons (ps_while (passes_of rfl) (pt_cmpR op_ge (pv 3) (pv 7) (nomark _)) (pss_cons (ps_aug (i := 3) sc_nth_fitting.nd rfl (Or.inl rfl) (pv 7) ip_sub)
    (pss_cons (ps_aug (i := 6) sc_nth_fitting.nd rfl (Or.inl rfl) pe_int ip_add)
    (pss_one (ps_set (i := 7) sc_nth_fitting.nd rfl (Or.inl rfl) (pe_callD D_count_of (hr.mono (by decide)) (pa_cons (pv 5) (pa_cons (pe_op op_sub (pv 1) (pv 6)) (pa_cons (pe_callD D_without (hr.mono (by decide)) (pa_cons (pv 2) (pa_cons (pv 6) pa_nil))) pa_nil)))))))))
    (pss_cons (ps_expr (pe_bm PySem.F.plainAttrs_list PySem.F.slot_list_append PySem.F.type_list_append mt_append (pv 4) (pa_cons (pv 6) pa_nil)))
    (pss_cons (ps_aug (i := 1) sc_nth_fitting.nd rfl (Or.inl rfl) (pv 6) ip_sub)
    (pss_one (ps_set (i := 2) sc_nth_fitting.nd rfl (Or.inl rfl) (pe_callD D_without (hr.mono (by decide)) (pa_cons (pv 2) (pa_cons (pv 6) pa_nil)))))))))))
    (pss_one (ps_ret (pv 4))))))), ?_⟩
    refine w_start (σ' := [some (.int m), some (.int n), some (.ref p), some (.int k), none, none, none, none]) rfl ?_
    walk_at "g"
    refine ⟨p, ps, ls, m, n, rfl, hp, hps, lp, fun m0 n0 hb H2 f2 => ?_, e1, e2, e3⟩
    have hv := badC_none.mp hb
    have hz := hs m0 n0 hv
    have hp2 := f2.at0 hp
    have hps2 := hps.fr f2
    walk_at "g"
    refine w_ite (fun k0 => ?_) (fun k0 => ?_)
    · walk_at "g"
      refine ⟨p, ps, ls, m.toNat, n, by rw [Int.toNat_of_nonneg m0]; rfl, hp2, hps2, hv.chain, hz.sized, fun H3 f3 => ?_⟩
      have f03 := f2.trans f3
      have hp3 := f3.at0 hp2
      have hps3 := hps2.fr f3
      walk_at "g"
      refine w_iteN (fun hnot => ?_) (fun hlt => ?_)
      · walk_at "g"
        exact w_raiseE ((e4 m0 n0 hv (fun z => hnot z.2)).at f03)
      · have hlen := fl_len (c := m.toNat) (n := n) hv.chain
        obtain ⟨xs, hxs⟩ : ∃ xs, (fl m.toNat n ls)[k.toNat]? = some xs := ⟨_, List.getElem?_eq_getElem (by omega)⟩
        have q2 := q m0 n0 hv k0 xs hxs
        obtain ⟨M, hM⟩ : ∃ M : Nat, m = M := ⟨m.toNat, by omega⟩
        subst hM
        rw [Int.toNat_natCast] at *
        have hM60 := hz.c
        clear e1 e2 e3 e4 hs q hlt
        walk_at "g"
        rename_i L nL
        refine w_revR1 (te := tVar 0) ⟨_, rfl, (M : Int), rfl, by omega, by omega, ?_⟩ (fun h ⟨v, e, z⟩ => ⟨v, e, h _ _ z⟩)
        have hpL : p ≠ L := ne_of_none hp3 nL
        have f0 : Fr [L] H3 (upd H3 L (.lst [])) := Fr.refl.new nL
        refine f_rangeC (fun t σ' H' => ∃ (n' d' k' : Int) (p' : Addr) (ps' : List Addr) (ls' : List (Int × Int)) (fd rest : List Int) (o5 o6 o7 : Option V), σ' = [some (.int M), some (.int n'), some (.ref p'), some (.int k'), some (.ref L), o5, o6, o7] ∧ Fr [L] H3 H' ∧ H' L = some (.lst (fd.map V.int)) ∧ fd.length = t ∧ p' ≠ L ∧ H' p' = some (.lst (ps'.map V.ref)) ∧ PairsAt H' ps' ls' ∧ ps'.length ≤ 1000 ∧ Chain 1 ls' ∧ SizedN (M - t) n' d' ls' ∧ 0 ≤ k' ∧ (fl (M - t) n' ls')[k'.toNat]? = some rest ∧ xs = fd ++ rest) ⟨n, 0, k, p, ps, ls, [], xs, none, none, none, rfl, f0, upd_same, rfl, hpL, at_upd hp3 nL, hps3.fr (Fr.refl.new nL), lp, hv.chain, hz, k0, hxs, rfl⟩ ?_ ?_
        · rintro t σ' H4 ht ⟨n', d', k', p', ps', ls', fd, rest, o5, o6, o7, rfl, f4, hL4, hfd, hpL4, hp4, hps4, lp4, hch4, hz4, k40, hrest, rfl⟩
          obtain ⟨c', hc'⟩ : ∃ c' : Nat, M - t = c' + 1 := ⟨M - t - 1, by omega⟩
          rw [hc'] at hz4 hrest
          have ec : (M : Int) - 1 + (t : Nat) * (-1) = (c' : Int) := by omega
          rw [ec]
          have hlen4 : (fl (c' + 1) n' ls').length = pre c' n' ls' (n' - c').toNat := by rw [fl_succ]; rfl
          have hk4 : k'.toNat < pre c' n' ls' (n' - c').toNat := by
            rw [← hlen4]
            exact (List.getElem?_eq_some_iff.mp hrest).1
          have hi0 : 0 < (n' - c').toNat := by
            rcases Nat.eq_zero_or_pos (n' - c').toNat with z | z
            · rw [z] at hk4
              exact absurd hk4 (Nat.not_lt_zero _)
            · exact z
          have hn4 := hz4.s
          have hd4 := hz4.d0
          walk_at "g"
          refine ⟨p', ps', ls', 0, rfl, hp4, hps4, lp4, fun l hl => by have := hz4.p l hl; omega, by omega, fun r0 qs0 H5 f5 nr0 hr0 hqs0 => ?_⟩
          walk_at "g"
          refine ⟨r0, qs0, sh 0 ls', c', n' - (1 + ((0 : Nat) : Int)), rfl, hr0, hqs0, sh_chain 0 hch4, (hz4.down (i := 0) (by omega)).sized, fun H6 f6 => ?_⟩
          walk_at "g"
          refine w_while (fun m σ' H' => ∃ i : Nat, σ' = [some (.int M), some (.int n'), some (.ref p'), some (.int (k' - (pre c' n' ls' i : Nat))), some (.ref L), some (.int c'), some (.int (1 + (i : Int))), some (.int (cnt c' (n' - (1 + (i : Int))) (sh i ls')))] ∧ Fr [] H4 H' ∧ i < (n' - c').toNat ∧ pre c' n' ls' i ≤ k'.toNat ∧ m = (n' - c').toNat - i) (n' - c').toNat ⟨0, by rw [show ((pre c' n' ls' 0 : Nat) : Int) = 0 from rfl, Int.sub_zero]; rfl, f5.trans f6, hi0, Nat.zero_le _, rfl⟩ ?_
          clear f5 f6 hqs0 hr0 nr0
          rintro m σ' H7 ⟨i, rfl, f7, hi, hpi, rfl⟩
          have hbl := blk_len (c := c') (n := n') hch4 i
          have hps1 := pre_succ c' n' ls' i
          have h7 := f7.at0 hp4
          have hps7 := hps4.fr f7
          have hL7 := f7.at0 hL4
          walk_at "g"
          by_cases hcmp : cnt c' (n' - (1 + (i : Int))) (sh i ls') ≤ k' - (pre c' n' ls' i : Nat)
          · rw [if_pos (decide_eq_true hcmp)]
            refine w_whT ?_
            have hp2' : pre c' n' ls' (i + 1) ≤ k'.toNat := by omega
            have hnext : i + 1 < (n' - c').toNat := by
              rcases Nat.lt_or_ge (i + 1) (n' - c').toNat with z | z
              · exact z
              · rw [show (n' - c').toNat = i + 1 by omega] at hk4
                omega
            walk_at "g"
            rw [show 1 + (i : Int) + 1 = 1 + ((i + 1 : Nat) : Int) by omega]
            refine ⟨p', ps', ls', i + 1, rfl, h7, hps7, lp4, fun l hl => by have := hz4.p l hl; omega, by omega, fun r1 qs1 H8 f8 nr1 hr1 hqs1 => ?_⟩
            walk_at "g"
            refine ⟨r1, qs1, sh (i + 1) ls', c', n' - (1 + ((i + 1 : Nat) : Int)), rfl, hr1, hqs1, sh_chain (i + 1) hch4, (hz4.down (i := i + 1) (by omega)).sized, fun H9 f9 => ?_⟩
            walk_at "g"
            refine ⟨(n' - c').toNat - (i + 1), by omega, i + 1, ?_, (f7.trans f8).trans f9, hnext, hp2', rfl⟩
            rw [show k' - (pre c' n' ls' i : Nat) - cnt c' (n' - (1 + (i : Int))) (sh i ls') = k' - (pre c' n' ls' (i + 1) : Nat) by omega]
            rfl
          · rw [if_neg (by simpa using hcmp)]
            have hk2 : k'.toNat < pre c' n' ls' (i + 1) := by omega
            rw [fl_at hi hpi hk2] at hrest
            obtain ⟨rest', hrest', rfl⟩ := Option.map_eq_some_iff.mp hrest
            have f47 : Fr [L] H3 H7 := f4.then f7
            have h7' : upd H7 L (.lst ((fd ++ [1 + (i : Int)]).map V.int)) p' = some (.lst (ps'.map V.ref)) := (upd_ne hpL4).trans h7
            have hps7' : PairsAt (upd H7 L (.lst ((fd ++ [1 + (i : Int)]).map V.int))) ps' ls' := hps7.put hL7
            have f47' : Fr [L] H3 (upd H7 L (.lst ((fd ++ [1 + (i : Int)]).map V.int))) := f47.put (.inr (List.mem_singleton_self _))
            walk_at "g"
            refine ⟨p', ps', ls', i, rfl, h7', hps7', lp4, fun l hl => by have := hz4.p l hl; omega, by omega, fun r1 qs1 H8 f8 nr1 hr1 hqs1 => ?_⟩
            walk_at "g"
            have ec2 : M - (t + 1) = c' := by omega
            have hq1 : qs1.length ≤ 1000 := by
              rw [hqs1.1]
              unfold sh
              rw [List.length_map, ← hps4.1]
              exact lp4
            have hrl : L ≠ r1 := ne_of_none upd_same nr1
            refine ⟨n' - (1 + (i : Int)), d' + (1 + (i : Int)), k' - (pre c' n' ls' i : Nat), r1, qs1, sh i ls', fd ++ [1 + (i : Int)], rest', some (.int c'), some (.int (1 + (i : Int))), some (.int (cnt c' (n' - (1 + (i : Int))) (sh i ls'))), rfl, f47'.then f8, f8.at0 upd_same, len_snoc hfd, hrl.symm, hr1, hqs1, hq1, sh_chain i hch4, ?_, by omega, ?_, by simp⟩
            · rw [ec2]
              exact hz4.down (i := i) (by omega)
            · rw [ec2, show (k' - (pre c' n' ls' i : Nat)).toNat = k'.toNat - pre c' n' ls' i by omega]
              exact hrest'
        · rintro σ' H4 ⟨n', d', k', p', ps', ls', fd, rest, o5, o6, o7, rfl, f4, hL4, hfd, hpL4, hp4, hps4, lp4, hch4, hz4, k40, hrest, rfl⟩
          have eM : (M : Int).toNat = M := by omega
          rw [eM, Nat.sub_self] at hrest
          walk_at "g"
          obtain rfl : rest = [] := by
            have := books_len _ _ _ (List.mem_filter.mp (List.mem_of_getElem? hrest)).1
            exact List.eq_nil_of_length_eq_zero this
          rw [List.append_nil] at q2
          exact q2 L H4 (f03.loc (f03.free List.not_mem_nil nL) f4) (f03.free List.not_mem_nil nL) hL4
    · walk_at "g"
      exact w_raiseE ((e4 m0 n0 hv (fun z => k0 z.1)).at f2)
def spBooks (K : PySem.W.Frag) (d : Nat) : Sp := fun vs H Q _ => ∃ (c : Nat) (n : Int), vs = [.int c, .int n] ∧ c ≤ d ∧ d ≤ 5 ∧ -100 ≤ n ∧ n ≤ 16 ∧
  ∀ (p : Addr) (ps : List Addr) (H' : Hp), Fr [] H H' → H p = none → H' p = some (.lst (ps.map V.ref)) → ListsAt H' ps (books c n) → p ∉ ps → ps.length ≤ 16 ^ c → (∀ t ∈ ps, H t = none) → Q (.ref p) H'
def spFits (K : PySem.W.Frag) : Sp := fun vs H Q _ => ∃ (p b : Addr) (xs : List Int) (ps : List Addr) (ls : List (Int × Int)), vs = [.ref p, .ref b] ∧ H p = some (.lst (xs.map V.int)) ∧ H b = some (.lst (ps.map V.ref)) ∧ PairsAt H ps ls ∧ xs.length ≤ 50 ∧ ls.length ≤ 50 ∧ (∀ l ∈ ls, 0 < l.1 ∧ l.1 < 2 ^ 150) ∧ ∀ H', Fr [] H H' → Q (.bl (fitsB ls xs)) H'
theorem chain_pos' : ∀ {ls : List (Int × Int)} {u : Int}, 0 ≤ u → VChain u ls → ∀ l ∈ ls, 0 < l.1
  | [], _, _, _, l, hl => by cases hl
  | m :: rest, u, hu, ⟨h1, h2, h3⟩, l, hl => by
    rcases List.mem_cons.mp hl with rfl | hl
    · omega
    · exact chain_pos' (by omega) h3 l hl
theorem chain_pos {ls : List (Int × Int)} (h : VChain 0 ls) : ∀ l ∈ ls, 0 < l.1 := chain_pos' (Int.le_refl 0) h
def dDV : Option (Int × Int) → PyData
  | none => .none
  | some x => dP x
theorem DV.dpv {K : PySem.W.Frag} {H : Hp} {d : Option (Int × Int)} {v : V} (h : DV d v H) : Dp K H v (dDV d) := by
  rcases h with ⟨rfl, rfl⟩ | ⟨T, x, rfl, rfl, h⟩
  · exact .non
  · exact DV.dp h
theorem fine_two {d : Option (Int × Int)} (hb : ∀ x, d = some x → x.1.natAbs < 10 ^ 40 ∧ x.2.natAbs < 10 ^ 40) : Fine (.list [dDV d, dDV d]) := by
  cases d with
  | none => exact (FineAll.cons (d := .none) rfl rfl (by simp [PyData.depth]) rfl (.cons (d := .none) rfl rfl (by simp [PyData.depth]) rfl .nil)).fine (by simp [PyData.bulkAll, PyData.bulk])
  | some x =>
    have b := hb x rfl
    exact (FineAll.cons_pair b.1 b.2 (.cons_pair b.1 b.2 .nil)).fine (by simp [PyData.bulkAll, PyData.bulk, dP])
theorem dp_two {K : PySem.W.Frag} {H : Hp} {a : Addr} {d : Option (Int × Int)} {v u : V} (h : H a = some (.lst [v, u])) (h1 : DV d v H) (h2 : DV d u H) : Dp K H (.ref a) (.list [dDV d, dDV d]) := .lst (SqL.of h) (.cons h1.dpv (.cons h2.dpv .nil))
theorem w_iteB2 {b : Bool} {A B : Prop} (h1 : b = true → A) (h2 : b = false → B) : if b = true then A else B := by
  cases b
  · exact h2 rfl
  · exact h1 rfl
theorem books_mem : ∀ (c : Nat) (n : Int) (xs : List Int), xs ∈ books c n → ∀ x ∈ xs, 1 ≤ x ∧ x ≤ n
  | 0, n, xs, h => by
    have h : xs ∈ (if n = 0 then [[]] else ([] : List (List Int))) := h
    split at h
    · rw [List.mem_singleton.mp h]; simp
    · cases h
  | c + 1, n, xs, h => by
    have h : xs ∈ (List.range (n - c).toNat).flatMap fun i : Nat => (books c (n - (1 + (i : Int)))).map fun xs => (1 + (i : Int)) :: xs := h
    obtain ⟨i, hi0, hi⟩ := List.mem_flatMap.mp h
    obtain ⟨ys, hy, rfl⟩ := List.mem_map.mp hi
    have hi1 := List.mem_range.mp hi0
    intro x hx
    rcases List.mem_cons.mp hx with rfl | hx
    · omega
    · have := books_mem c _ ys hy x hx
      omega
theorem flat_snoc {α : Type} (f : Nat → List α) (i : Nat) : (List.range (i + 1)).flatMap f = (List.range i).flatMap f ++ f i := by
  rw [List.range_succ, List.flatMap_append]
  simp
set_option maxHeartbeats 4000000 in
theorem ok_law_books (T : Txt K mg c) : ∀ dp : Nat, DefAt P w K mg base "_law_books" s_law_books (1 + dp + 1) ["many", "total"] ((spBooks K) dp) := by
  intro dp
  induction dp with
  | zero =>
    have D_law_books : DefAt P w K mg base "_law_books" s_law_books 1 ["many", "total"] spNo := T.f_law_books.never (fun _ _ _ _ _ _ us hl => match us, hl with | [_, _], _ => rfl)
    refine T.f_law_books.ok sc_law_books (fun vs H Q E h => ?_) (fun _ _ _ _ _ _ us hl => match us, hl with | [_, _], _ => rfl) (fun f cdv A outer s H vs Q E hr h => ?_)
    · obtain ⟨c, n, rfl, hc, hd, n0, n1, q⟩ := h
      rfl
    · obtain ⟨c, n, rfl, hc, hd, n0, n1, q⟩ := h
      refine ⟨_, (pss_cons (ps_if (pt_cmpR op_eq (pv 0) pe_int (nomark _)) (pss_one (ps_ret (pe_ifExp (pt_cmpR op_eq (pv 1) pe_int (nomark _)) (pe_lst (pa_cons (pe_lst pa_nil) pa_nil)) (pe_lst pa_nil)))) pss_nil)
    (pss_cons (ps_set (i := 2) sc_law_books.nd rfl (Or.inl rfl) (pe_lst pa_nil))
    (pss_cons (ps_for PassesOwn.never rfl (pi_range2 (by rfl) T.n_range (pa_cons pe_int (pa_cons (pe_op op_add (pe_op op_sub (pv 1) (pv 0)) pe_int) pa_nil))) (pg_name (i := 3) sc_law_books.nd rfl (Or.inr rfl)) (pss_one (ps_expr (pe_bm PySem.F.plainAttrs_list PySem.F.slot_list_extend PySem.F.type_list_extend mt_extend (pv 2) (pa_cons (pe_lc (own := [("some", 4)]) (tt := tYes) rfl sc_law_books.nd (pi_list (pe_callD D_law_books (hr.mono (by omega)) (pa_cons (pe_op op_sub (pv 0) pe_int) (pa_cons (pe_op op_sub (pv 1) (pv 3)) pa_nil)))) (blkOk_by (N := sc_law_books_N) (sc := defScope s_law_books) (by decide +kernel)) (fun _ _ _ _ _ => (pg_name (i := 4) sc_law_books.nd rfl (Or.inl rfl))) (fun _ _ _ _ _ => pts_nil) (fun _ _ _ _ _ => (pe_op op_cat (pe_lst (pa_cons (pv 3) pa_nil)) (pv 4)))) pa_nil)))))
    (pss_one (ps_ret (pv 2)))))), ?_⟩
      refine w_start (σ' := [some (.int c), some (.int n), none, none, none]) rfl ?_
      walk_at "g"
      refine w_ite (fun hc0 => ?_) (fun hc0 => ?_)
      · have ec : c = 0 := by omega
        subst ec
        walk_at "g"
        refine w_ite (fun hn => ?_) (fun hn => ?_)
        · walk_at "g"
          rename_i e ne L nL
          have hLe : e ≠ L := ne_of_none upd_same nL
          have eb : books 0 n = [[]] := if_pos hn
          rw [eb] at q
          exact q L [e] _ ((Fr.refl.new ne).new nL) ((Fr.refl.new (S := []) ne).free List.not_mem_nil nL) upd_same (.one (xs := []) (at_upd upd_same nL)) (by simpa using hLe.symm) (by simp) (by simpa using ne)
        · walk_at "g"
          rename_i L nL
          have eb : books 0 n = [] := if_neg hn
          rw [eb] at q
          exact q L [] _ (Fr.refl.new nL) nL upd_same .nil (by simp) (by simp) (by simp)
      · exact absurd (show (c : Int) = 0 by omega) hc0
  | succ dp ih =>
    have D_law_books := ih
    refine T.f_law_books.ok sc_law_books (fun vs H Q E h => ?_) (fun _ _ _ _ _ _ us hl => match us, hl with | [_, _], _ => rfl) (fun f cdv A outer s H vs Q E hr h => ?_)
    · obtain ⟨c, n, rfl, hc, hd, n0, n1, q⟩ := h
      rfl
    · obtain ⟨c, n, rfl, hc, hd, n0, n1, q⟩ := h
      refine ⟨_, (pss_cons (ps_if (pt_cmpR op_eq (pv 0) pe_int (nomark _)) (pss_one (ps_ret (pe_ifExp (pt_cmpR op_eq (pv 1) pe_int (nomark _)) (pe_lst (pa_cons (pe_lst pa_nil) pa_nil)) (pe_lst pa_nil)))) pss_nil)
    (pss_cons (ps_set (i := 2) sc_law_books.nd rfl (Or.inl rfl) (pe_lst pa_nil))
    (pss_cons (ps_for PassesOwn.never rfl (pi_range2 (by rfl) T.n_range (pa_cons pe_int (pa_cons (pe_op op_add (pe_op op_sub (pv 1) (pv 0)) pe_int) pa_nil))) (pg_name (i := 3) sc_law_books.nd rfl (Or.inr rfl)) (pss_one (ps_expr (pe_bm PySem.F.plainAttrs_list PySem.F.slot_list_extend PySem.F.type_list_extend mt_extend (pv 2) (pa_cons (pe_lc (own := [("some", 4)]) (tt := tYes) rfl sc_law_books.nd (pi_list (pe_callD D_law_books (hr.mono (by omega)) (pa_cons (pe_op op_sub (pv 0) pe_int) (pa_cons (pe_op op_sub (pv 1) (pv 3)) pa_nil)))) (blkOk_by (N := sc_law_books_N) (sc := defScope s_law_books) (by decide +kernel)) (fun _ _ _ _ _ => (pg_name (i := 4) sc_law_books.nd rfl (Or.inl rfl))) (fun _ _ _ _ _ => pts_nil) (fun _ _ _ _ _ => (pe_op op_cat (pe_lst (pa_cons (pv 3) pa_nil)) (pv 4)))) pa_nil)))))
    (pss_one (ps_ret (pv 2)))))), ?_⟩
      refine w_start (σ' := [some (.int c), some (.int n), none, none, none]) rfl ?_
      walk_at "g"
      refine w_ite (fun hc0 => ?_) (fun hc0 => ?_)
      · have ec : c = 0 := by omega
        subst ec
        walk_at "g"
        refine w_ite (fun hn => ?_) (fun hn => ?_)
        · walk_at "g"
          rename_i e ne L nL
          have hLe : e ≠ L := ne_of_none upd_same nL
          have eb : books 0 n = [[]] := if_pos hn
          rw [eb] at q
          exact q L [e] _ ((Fr.refl.new ne).new nL) ((Fr.refl.new (S := []) ne).free List.not_mem_nil nL) upd_same (.one (xs := []) (at_upd upd_same nL)) (by simpa using hLe.symm) (by simp) (by simpa using ne)
        · walk_at "g"
          rename_i L nL
          have eb : books 0 n = [] := if_neg hn
          rw [eb] at q
          exact q L [] _ (Fr.refl.new nL) nL upd_same .nil (by simp) (by simp) (by simp)
      · obtain ⟨c', rfl⟩ : ∃ c', c = c' + 1 := ⟨c - 1, by omega⟩
        have hc3 : c' ≤ 4 := by omega
        have p30 : 16 ^ c' ≤ 65536 := Nat.le_trans (Nat.pow_le_pow_right (by decide) hc3) (by decide)
        walk_at "g"
        rename_i F nF
        have en : (n - ((c' + 1 : Nat) : Int) + 2 - 1).toNat = (n - c').toNat := by omega
        rw [en]
        refine f_range (fun i σ' H' => ∃ (o3 o4 : Option V) (ps : List Addr), σ' = [some (.int ((c' + 1 : Nat) : Int)), some (.int n), some (.ref F), o3, o4] ∧ Fr [F] (upd H F (.lst [])) H' ∧ H' F = some (.lst (ps.map V.ref)) ∧ ListsAt H' ps ((List.range i).flatMap fun j : Nat => (books c' (n - (1 + (j : Int)))).map fun xs => (1 + (j : Int)) :: xs) ∧ F ∉ ps ∧ ps.length ≤ i * 16 ^ c' ∧ ∀ t ∈ ps, H t = none) ⟨none, none, [], rfl, Fr.refl, upd_same, .nil, by simp, by simp, by simp⟩ ?_ ?_
        · rintro i σ' H1 hi ⟨o3, o4, ps, rfl, f1, h1F, hl1, hF1, lps, hfresh⟩
          have hi30 : i < 16 := by omega
          have fH : Fr [] H H1 := (Fr.refl (S := []) (H := H)).loc nF (fun b o z e => f1 b o z (at_upd e nF))
          have lps2 : ps.length ≤ 16 * 65536 := Nat.le_trans lps (Nat.mul_le_mul (by omega) p30)
          walk_at "g"
          refine ⟨c', n - (1 + (i : Int)), ?_, by omega, by omega, by omega, by omega, fun p1 ps1 H2 f2 n1 h2p hl2 hp1 lp1 _ => ?_⟩
          · rw [show ((c' + 1 : Nat) : Int) - 1 = c' by omega]
            rfl
          have h2F := f2.at0 h1F
          have hl12 := hl1.fr f2
          have hlen := hl2.len
          walk_at "g"
          refine l_list (ps1.map V.ref) (fun L j H' => ∃ qs : List Addr, Fr [] H2 H' ∧ H' L = some (.lst (qs.map V.ref)) ∧ ListsAt H' qs (((books c' (n - (1 + (i : Int)))).take j).map fun xs => (1 + (i : Int)) :: xs) ∧ L ∉ qs ∧ qs.length = j ∧ ∀ q ∈ qs, H2 q = none) (fun L hL => ⟨[], Fr.refl.new hL, upd_same, .nil, by simp, rfl, by simp⟩) (fun L j H' _ _ h => .of (h.choose_spec.1.at0 h2p)) (fun L j x H' hL hx h => ?_) (fun L H3 hL h => ?_)
          · obtain ⟨qs, g1, g2, g3, g4, g5, g6⟩ := h
            obtain ⟨t, ht, rfl⟩ := map_at' hx
            have hjl := (List.getElem?_eq_some_iff.mp ht).1
            obtain ⟨xs, hxs⟩ : ∃ xs, (books c' (n - (1 + (i : Int))))[j]? = some xs := ⟨_, List.getElem?_eq_getElem (by omega)⟩
            have hxl := books_len _ _ _ (List.mem_of_getElem? hxs)
            have htx := g1.at0 (hl2.at_ j t xs ht hxs)
            have lj : j ≤ 65536 := by omega
            refine w_gname ⟨rfl, ?_⟩
            walk_at "g"
            rename_i X2 nX Z nZ
            have hLZ : L ≠ Z := ne_of_none (at_upd g2 nX) nZ
            have hLq : L ∉ qs ++ [Z] := by simp [g4, hLZ]
            refine w_appER (at_upd (at_upd g2 nX) nZ) (by omega) ⟨qs ++ [Z], ((g1.new nX).new nZ).put (.inl hL), upd_same, ?_, hLq, len_snoc g5, mem_snoc g6 ((g1.new nX).free List.not_mem_nil nZ)⟩
            have et : (((books c' (n - (1 + (i : Int)))).take (j + 1)).map fun xs => (1 + (i : Int)) :: xs) = (((books c' (n - (1 + (i : Int)))).take j).map fun xs => (1 + (i : Int)) :: xs) ++ [(1 + (i : Int)) :: xs] := by
              rw [List.take_succ, hxs]
              simp
            rw [et]
            exact (((g3.fr (Fr.refl.new nX)).fr (Fr.refl.new nZ)).app (.one (xs := (1 + (i : Int)) :: xs) upd_same)).put hLq
          · obtain ⟨qs, g1, g2, g3, g4, g5, g6⟩ := h
            rw [List.length_map] at g5
            rw [List.length_map, hlen, List.take_length] at g3
            have h3F := g1.at0 h2F
            have hFq : F ∉ ps ++ qs := by
              intro hm
              rcases List.mem_append.mp hm with z | z
              · exact hF1 z
              · have := g6 F z
                rw [h2F] at this
                cases this
            walk_at "g"
            refine w_extendR h3F g2 (by omega) ⟨_, _, ps ++ qs, rfl, ((f1.then f2).then g1).put (.inr (by simp)), upd_same, ?_, hFq, ?_, fun t ht => ?_⟩
            · rw [flat_snoc]
              exact ((hl12.fr g1).app g3).put hFq
            · rw [List.length_append, g5, Nat.succ_mul]
              omega
            · rcases List.mem_append.mp ht with z | z
              · exact hfresh t z
              · exact (fH.then f2).free List.not_mem_nil (g6 t z)
        · rintro σ' H1 ⟨o3, o4, ps, rfl, f1, h1F, hl1, hF1, lps, hfresh⟩
          walk_at "g"
          refine q F ps H1 ?_ nF h1F hl1 hF1 ?_ hfresh
          · exact (Fr.refl (S := []) (H := H)).loc nF (fun b o z e => f1 b o z (at_upd e nF))
          · have h5 : (n - (c' : Int)).toNat * 16 ^ c' ≤ 16 * 16 ^ c' := Nat.mul_le_mul_right _ (by omega)
            rw [Nat.pow_succ, Nat.mul_comm]
            exact Nat.le_trans lps h5
set_option maxHeartbeats 4000000 in
theorem ok_law_fits (T : Txt K mg c) : DefAt P w K mg base "_law_fits" s_law_fits 2 ["some", "rows"] (spFits K) := by
  have D_law_counted := ok_law_counted (P := P) (w := w) (base := base) T
  refine T.f_law_fits.ok sc_law_fits (fun vs H Q E h => ?_) (fun _ _ _ _ _ _ us hl => match us, hl with | [_, _], _ => rfl) (fun f cdv A outer s H vs Q E hr h => ?_)
  · obtain ⟨p, b, xs, ps, ls, rfl, hp, hb, hps, lx, ll, hw, q⟩ := h
    rfl
  · obtain ⟨p, b, xs, ps, ls, rfl, hp, hb, hps, lx, ll, hw, q⟩ := h
    refine ⟨_, (pss_one (ps_ret (pe_cmpR (op_eqD hr.units) (pe_lc (own := [("wide", 2), ("seen", 3)])  rfl sc_law_fits.nd (pi_list (pv 1)) (blkOk_by (N := sc_law_fits_N) (sc := defScope s_law_fits) (by decide +kernel)) (fun _ _ _ _ _ => (kc_pg (K := K) (pg_tup (n := 2) rfl (pgs_cons (pg_name (i := 2) sc_law_fits.nd rfl (Or.inl rfl)) (pgs_cons (pg_name (i := 3) sc_law_fits.nd rfl (Or.inl rfl)) pgs_nil))) rfl)) (fun _ _ _ _ _ => (pts_one (pt_cmpR op_ne (pe_callD D_law_counted (hr.mono (by decide)) (pa_cons (pv 0) (pa_cons (pv 2) pa_nil))) (pv 3) (nomark _)))) (fun _ _ _ _ _ => pe_int)) (pe_lst pa_nil) (nomark _)))), ?_⟩
    refine w_start (σ' := [some (.ref p), some (.ref b), none, none]) rfl ?_
    walk_at "g"
    have hl := hps.1
    refine l_list (ps.map V.ref) (fun L i H' => ∃ m : Nat, Fr [] H H' ∧ H' L = some (.lst ((List.replicate m (1 : Int)).map V.int)) ∧ m ≤ i ∧ (m = 0 ↔ fitsB (ls.take i) xs = true)) (fun L hL => ⟨0, Fr.refl.new hL, upd_same, by omega, by simp [fitsB]⟩) (fun L i H' _ _ h => .of (h.choose_spec.1.at0 hb)) (fun L i x H' hL hx h => ?_) (fun L H' hL h => ?_)
    · obtain ⟨m, g1, g2, g3, g4⟩ := h
      obtain ⟨t, ht, rfl⟩ := map_at' hx
      have hil := (List.getElem?_eq_some_iff.mp ht).1
      obtain ⟨l, hl2⟩ : ∃ l, ls[i]? = some l := ⟨_, List.getElem?_eq_getElem (by omega)⟩
      have htup := g1.at0 (hps.2 i t l ht hl2)
      have hwl := hw l (List.mem_of_getElem? hl2)
      have tk : ls.take (i + 1) = ls.take i ++ [l] := by rw [List.take_succ, hl2]; rfl
      have ft : fitsB (ls.take (i + 1)) xs = (fitsB (ls.take i) xs && decide (ct xs l.1 = l.2)) := by
        rw [tk]
        simp [fitsB, List.all_append]
      have lr : (List.replicate m (1 : Int)).length ≤ 60 := by rw [List.length_replicate]; omega
      refine w_gTup (SqT.of htup) rfl ?_
      walk_at "g"
      refine ⟨rfl, ?_⟩
      walk_at "g"
      refine ⟨p, xs, l.1, rfl, g1.at0 hp, by omega, hwl.1, by omega, fun H2 f2 => ?_⟩
      have g22 := f2.at0 g2
      walk_at "g"
      refine w_iteN (fun hne => ?_) (fun he => ?_)
      · walk_at "g"
        refine ⟨m + 1, (g1.trans f2).put (.inl hL), ?_, by omega, ?_⟩
        · rw [upd_same, List.replicate_succ']
        · rw [ft, decide_eq_false hne, Bool.and_false]
          simp
      · refine ⟨m, g1.trans f2, g22, by omega, ?_⟩
        rw [ft, decide_eq_true he, Bool.and_true]
        exact g4
    · obtain ⟨m, g1, g2, g3, g4⟩ := h
      rw [List.length_map, hl, List.take_length] at g4
      walk_at "g"
      rename_i e ne
      have ef : decide (List.replicate m (1 : Int) = []) = fitsB ls xs := by
        rw [Bool.eq_iff_iff, decide_eq_true_iff, ← g4, List.replicate_eq_nil_iff]
      rw [ef]
      exact q _ (g1.new ne)
/-! ### the books in ascending order -/
theorem lex_same (x : Int) (xs ys : List Int) : HT.lexLt (x :: xs) (x :: ys) = HT.lexLt xs ys := by rw [HT.lexLt_cons, if_pos rfl]
theorem lex_head {x y : Int} (h : x < y) (xs ys : List Int) : HT.lexLt (x :: xs) (y :: ys) = true := by
  rw [HT.lexLt_cons, if_neg (by omega)]
  exact decide_eq_true h
theorem books_asc : ∀ (c : Nat) (n : Int), (books c n).Pairwise (fun x y => HT.lexLt x y = true)
  | 0, n => by
    show List.Pairwise _ (if n = 0 then [[]] else ([] : List (List Int)))
    split
    · exact List.pairwise_singleton _ _
    · exact List.Pairwise.nil
  | c + 1, n => by
    show List.Pairwise _ ((List.range (n - c).toNat).flatMap fun i : Nat => (books c (n - (1 + (i : Int)))).map fun xs => (1 + (i : Int)) :: xs)
    rw [List.pairwise_flatMap]
    refine ⟨fun i _ => ?_, ?_⟩
    · rw [List.pairwise_map]
      exact (books_asc c _).imp fun h => by rw [lex_same]; exact h
    · refine List.pairwise_lt_range.imp fun {i j} hij x hx y hy => ?_
      obtain ⟨xs, _, rfl⟩ := List.mem_map.mp hx
      obtain ⟨ys, _, rfl⟩ := List.mem_map.mp hy
      exact lex_head (by omega) _ _
theorem fl_asc (c : Nat) (n : Int) (ls : List (Int × Int)) : (fl c n ls).Pairwise (fun x y => HT.lexLt x y = true) := (books_asc c n).filter _
theorem pow_sum {N : Nat} {g : Nat → Nat} (h : ∀ i, i < N → g i ≤ 2 ^ (N - 1 - i)) : ∀ m, m ≤ N → ((List.range m).map g).sum + 2 ^ (N - m) ≤ 2 ^ N
  | 0, _ => by simp
  | m + 1, hm => by
    have ih := pow_sum h m (by omega)
    have h1 := h m (by omega)
    have e : 2 ^ (N - m) = 2 ^ (N - 1 - m) + 2 ^ (N - 1 - m) := by
      rw [show N - m = (N - 1 - m) + 1 by omega, Nat.pow_succ]
      omega
    rw [List.range_succ, List.map_append, List.sum_append, show N - (m + 1) = N - 1 - m by omega]
    simp only [List.map_cons, List.map_nil, List.sum_cons, List.sum_nil]
    omega
theorem books_few : ∀ (c : Nat) (n : Int), (books c n).length ≤ 2 ^ n.toNat
  | 0, n => by
    show (if n = 0 then [[]] else ([] : List (List Int))).length ≤ _
    have := Nat.two_pow_pos n.toNat
    split
    · exact this
    · exact Nat.zero_le _
  | c + 1, n => by
    show ((List.range (n - c).toNat).flatMap fun i : Nat => (books c (n - (1 + (i : Int)))).map fun xs => (1 + (i : Int)) :: xs).length ≤ _
    rw [List.length_flatMap]
    have := pow_sum (N := n.toNat) (g := fun i : Nat => ((books c (n - (1 + (i : Int)))).map fun xs => (1 + (i : Int)) :: xs).length) (fun i hi => by
      have h := books_few c (n - (1 + (i : Int)))
      rw [show (n - (1 + (i : Int))).toNat = n.toNat - 1 - i by omega] at h
      show ((books c (n - (1 + (i : Int)))).map fun xs => (1 + (i : Int)) :: xs).length ≤ _
      rw [List.length_map]
      exact h) (n - c).toNat (by omega)
    exact Nat.le_trans (Nat.le_add_right _ _) this
theorem fl_few (c : Nat) (n : Int) (ls : List (Int × Int)) : (fl c n ls).length ≤ 2 ^ n.toNat := Nat.le_trans (List.length_filter_le _ _) (books_few c n)
theorem books_sum : ∀ (c : Nat) (n : Int) (xs : List Int), xs ∈ books c n → xs.sum = n
  | 0, n, xs, h => by
    have h : xs ∈ (if n = 0 then [[]] else ([] : List (List Int))) := h
    split at h
    · rename_i e
      rw [List.mem_singleton.mp h, e]
      rfl
    · cases h
  | c + 1, n, xs, h => by
    have h : xs ∈ (List.range (n - c).toNat).flatMap fun i : Nat => (books c (n - (1 + (i : Int)))).map fun xs => (1 + (i : Int)) :: xs := h
    obtain ⟨i, _, hi⟩ := List.mem_flatMap.mp h
    obtain ⟨ys, hy, rfl⟩ := List.mem_map.mp hi
    rw [List.sum_cons, books_sum c _ ys hy]
    omega
theorem sum_len : ∀ {xs : List Int}, (∀ x ∈ xs, 1 ≤ x) → (xs.length : Int) ≤ xs.sum
  | [], _ => by simp
  | x :: xs, h => by
    have := sum_len fun y hy => h y (List.mem_cons_of_mem _ hy)
    have := h x List.mem_cons_self
    rw [List.sum_cons, List.length_cons]
    omega
theorem books_all : ∀ {xs : List Int}, (∀ x ∈ xs, 1 ≤ x) → xs ∈ books xs.length xs.sum
  | [], _ => by
    show [] ∈ (if (0 : Int) = 0 then [[]] else ([] : List (List Int)))
    simp
  | x :: xs, h => by
    have h1 := h x List.mem_cons_self
    have h2 : ∀ y ∈ xs, 1 ≤ y := fun y hy => h y (List.mem_cons_of_mem _ hy)
    have h3 := sum_len h2
    show x :: xs ∈ (List.range ((x :: xs).sum - xs.length).toNat).flatMap fun i : Nat => (books xs.length ((x :: xs).sum - (1 + (i : Int)))).map fun ys => (1 + (i : Int)) :: ys
    refine List.mem_flatMap.mpr ⟨(x - 1).toNat, List.mem_range.mpr ?_, List.mem_map.mpr ⟨xs, ?_, ?_⟩⟩
    · rw [List.sum_cons]
      omega
    · rw [List.sum_cons, show x + xs.sum - (1 + ((x - 1).toNat : Int)) = xs.sum by omega]
      exact books_all h2
    · rw [show 1 + ((x - 1).toNat : Int) = x by omega]
theorem fl_mem {c : Nat} {n : Int} {ls : List (Int × Int)} {xs : List Int} (h : xs ∈ fl c n ls) : xs.length = c ∧ xs.sum = n ∧ fitsB ls xs = true ∧ ∀ x ∈ xs, 1 ≤ x ∧ x ≤ n := by
  obtain ⟨h1, h2⟩ := List.mem_filter.mp h
  exact ⟨books_len _ _ _ h1, books_sum _ _ _ h1, h2, books_mem _ _ _ h1⟩
theorem fits_own (xs zs : List Int) : fitsB (zs.map fun z => (z, ct xs z)) xs = true := by
  unfold fitsB
  rw [List.all_map, List.all_eq_true]
  intro z _
  simp
theorem fl_pos {xs zs : List Int} (h : ∀ x ∈ xs, 1 ≤ x) : 0 < (fl xs.length xs.sum (zs.map fun z => (z, ct xs z))).length :=
  List.length_pos_of_mem (List.mem_filter.mpr ⟨books_all h, fits_own xs zs⟩)
/-- numbers and books ascend alike -/
theorem fl_lt {c : Nat} {n : Int} {ls : List (Int × Int)} {i j : Nat} {xs ys : List Int} (h1 : (fl c n ls)[i]? = some xs) (h2 : (fl c n ls)[j]? = some ys) : HT.lexLt xs ys = decide (i < j) := by
  obtain ⟨hi, e1⟩ := List.getElem?_eq_some_iff.mp h1
  obtain ⟨hj, e2⟩ := List.getElem?_eq_some_iff.mp h2
  have P := List.pairwise_iff_getElem.mp (fl_asc c n ls)
  by_cases h : i < j
  · have := P i j hi hj h
    rw [e1, e2] at this
    rw [this, decide_eq_true h]
  · rw [decide_eq_false h]
    by_cases e : i = j
    · subst e
      obtain rfl : xs = ys := by rw [← e1, ← e2]
      cases g : HT.lexLt xs xs with
      | false => rfl
      | true => exact g.symm.trans (lex_asym _ _ g)
    · have := P j i hj hi (by omega)
      rw [e1, e2] at this
      exact lex_asym _ _ this
def spRefused (K : PySem.W.Frag) : Sp := fun vs H Q _ => ∃ (p : Addr) (ps : List Addr) (ls : List (Int × Int)) (c : Nat) (n k : Int), vs = [.int c, .int n, .ref p, .int k] ∧ H p = some (.lst (ps.map V.ref)) ∧ PairsAt H ps ls ∧ VChain 0 ls ∧ SizedN c n 0 ls ∧ ¬(0 ≤ k ∧ k < cnt c n ls) ∧ k.natAbs < 10 ^ 40 ∧ ∀ H', Fr [] H H' → Q (.bl true) H'
def spListed (K : PySem.W.Frag) : Sp := fun vs H Q _ => ∃ (p : Addr) (ps : List Addr) (ls : List (Int × Int)) (c : Nat) (n : Int), vs = [.int c, .int n, .ref p] ∧ H p = some (.lst (ps.map V.ref)) ∧ PairsAt H ps ls ∧ VChain 0 ls ∧ c ≤ 5 ∧ 0 ≤ n ∧ n ≤ 16 ∧ ls.length ≤ 10 ∧ (∀ l ∈ ls, l.1 < 2 ^ 110 ∧ -(2 ^ 100) < l.2 ∧ l.2 < 2 ^ 100) ∧ ∀ H', Fr [] H H' → Q (.bl true) H'
def spDrawn (K : PySem.W.Frag) : Sp := fun vs H Q _ => ∃ (r p : Addr) (k : Int) (ps : List Addr) (ls : List (Int × Int)) (c : Nat) (n : Int), vs = [.ref r, .int c, .int n, .ref p] ∧ Rng H r k ∧ k < 2 ^ 38 ∧ H p = some (.lst (ps.map V.ref)) ∧ PairsAt H ps ls ∧ VChain 0 ls ∧ c ≤ 8 ∧ 0 ≤ n ∧ n ≤ 60 ∧ ls.length ≤ 10 ∧ (∀ l ∈ ls, l.1 < 2 ^ 110 ∧ -(2 ^ 100) < l.2 ∧ l.2 < 2 ^ 100) ∧ 0 < (fl c n ls).length ∧
  ∀ k' H', Rng H' r k' → k' ≤ k + 2 → Fr [r] H H' → Q (.bl true) H'
theorem nth_go {K : PySem.W.Frag} {c : Cs} {H : Hp} {Q : VK} {E : XK} {p : Addr} {ps : List Addr} {ls : List (Int × Int)} {m i : Nat} {n : Int} {xs : List Int} (hp : H p = some (.lst (ps.map V.ref))) (hps : PairsAt H ps ls) (hv : VChain 0 ls) (hz : SizedN m n 0 ls) (hx : (fl m n ls)[i]? = some xs)
    (q : ∀ (r : Addr) (H' : Hp), Fr [] H H' → H r = none → H' r = some (.lst (xs.map V.int)) → Q (.ref r) H') : spNthX K c [.int m, .int n, .ref p, .int i] H Q E := by
  refine ⟨p, ps, ls, m, n, i, rfl, hp, hps, by have := hps.1; have := hz.l; omega, fun _ _ _ => by rw [Int.toNat_natCast]; exact hz, fun _ _ _ k0 ys hys r H' f nr hr => ?_, ⟨fun h => absurd h (by omega), fun _ h => absurd h (by have := hz.n0; omega), fun _ _ j hj => ?_⟩, fun _ _ _ hno => ?_⟩
  · rw [Int.toNat_natCast, Int.toNat_natCast, hx] at hys
    cases hys
    exact q r H' f nr hr
  · rw [badC_none.mpr hv] at hj
    cases hj
  · have h1 := (List.getElem?_eq_some_iff.mp hx).1
    have h2 := fl_len (c := m) (n := n) hv.chain
    rw [Int.toNat_natCast] at hno
    exact absurd ⟨by omega, by omega⟩ hno
theorem cntf_go {K : PySem.W.Frag} {c : Cs} {H : Hp} {Q : VK} {E : XK} {p : Addr} {ps : List Addr} {ls : List (Int × Int)} {m : Nat} {n : Int} (hp : H p = some (.lst (ps.map V.ref))) (hps : PairsAt H ps ls) (hv : VChain 0 ls) (hz : SizedN m n 0 ls)
    (q : ∀ (H' : Hp), Fr [] H H' → Q (.int (fl m n ls).length) H') : spCountFX K c [.int m, .int n, .ref p] H Q E := by
  refine ⟨p, ps, ls, m, n, rfl, hp, hps, by have := hps.1; have := hz.l; omega, fun _ _ _ => by rw [Int.toNat_natCast]; exact hz.sized, fun _ _ _ H' f => ?_, fun h => absurd h (by omega), fun _ h => absurd h (by have := hz.n0; omega), fun _ _ j hj => ?_⟩
  · have h2 := fl_len (c := m) (n := n) hv.chain
    rw [Int.toNat_natCast, ← h2]
    exact q H' f
  · rw [badC_none.mpr hv] at hj
    cases hj
theorem w_eqLists {K : PySem.W.Frag} {H : Hp} {Q : VK} {a b : Addr} {ps qs : List Addr} {xss yss : List (List Int)} (ha : H a = some (.lst (ps.map V.ref))) (hb : H b = some (.lst (qs.map V.ref))) (h1 : ListsAt H ps xss) (h2 : ListsAt H qs yss) (k : Q (.bl (decide (xss = yss))) H) : rEqD K (.ref a) (.ref b) H Q :=
  ⟨_, _, .lst (SqL.of ha) (dpAll_lists h1), .lst (SqL.of hb) (dpAll_lists h2), shaped_lists _, shaped_lists _, by
    have e : PyData.eqv (.list (xss.map dI)) (.list (yss.map dI)) = decide (xss = yss) := by
      simp only [PyData.eqv]
      exact eqvAll_lists xss yss
    rw [e]
    exact k⟩
theorem fine_two2 {xs : List Int} (h : ∀ x ∈ xs, x.natAbs < 10 ^ 40) (hl : xs.length ≤ 1000) : Fine (.list [dI xs, dI xs]) :=
  (FineAll.cons_ints h (.cons_ints h .nil)).fine (by have := bulk_ints xs; simp only [PyData.bulkAll, PyData.bulk, dI]; omega)
set_option maxHeartbeats 4000000 in
theorem ok_law_refused (T : Txt K mg c) : DefAt P w K mg base "_law_refused" s_law_refused 5 ["many", "total", "rows", "spot"] (spRefused K) := by
  have D_nth_fitting := ok_nth_fitting (P := P) (w := w) (base := base) T
  refine T.f_law_refused.ok sc_law_refused (fun vs H Q E h => ?_) (fun _ _ _ _ _ _ us hl => match us, hl with | [_, _, _, _], _ => rfl) (fun f cdv A outer s H vs Q E hr h => ?_)
  · obtain ⟨p, ps, ls, m, n, k, rfl, hp, hps, hv, hz, hk, kb, q⟩ := h
    rfl
  · obtain ⟨p, ps, ls, m, n, k, rfl, hp, hps, hv, hz, hk, kb, q⟩ := h
    refine ⟨_, (pss_cons (ps_tryH (i := 4) rfl rfl rfl sc_law_refused.nd rfl rfl ⟨by rfl, by decide, Or.inl T.x_InvalidNumber.g⟩ takes0 (fun W pn xe tk ps => (pss_one (ps_expr (pe_callX D_nth_fitting (hr.mono (by decide)) tk (pa_cons (pv 0) (pa_cons (pv 1) (pa_cons (pv 2) (pa_cons (pv 3) pa_nil))))))))
    (fun a pn => (pss_one (ps_ret (pe_cmpR op_eq (pe_callB call_reprI (by rfl) T.n_repr (by decide +kernel) (pa_cons (kc_xfH (K := K) (pe_xfH (pv 4)) rfl) pa_nil)) (pe_callB call_reprI (by rfl) T.n_repr (by decide +kernel) (pa_cons (pv 3) pa_nil)) (nomark _))))))
    (pss_one (ps_ret pe_bl))), ?_⟩
    refine w_start (σ' := [some (.int m), some (.int n), some (.ref p), some (.int k), none]) rfl ?_
    walk_at "g"
    walk_at "g"
    refine ⟨p, ps, ls, m, n, k, rfl, hp, hps, by have := hps.1; have := hz.l; omega, fun _ _ _ => by rw [Int.toNat_natCast]; exact hz, fun _ _ _ k0 xs hxs => ?_, ⟨fun h => absurd h (by omega), fun _ h => absurd h (by have := hz.n0; omega), fun _ _ i hi => ?_⟩, fun _ _ _ _ d' H2 f2 nd hd2 => ?_⟩
    · have h1 := (List.getElem?_eq_some_iff.mp hxs).1
      rw [Int.toNat_natCast] at h1
      have h2 := fl_len (c := m) (n := n) hv.chain
      exact absurd ⟨k0, by omega⟩ hk
    · rw [badC_none.mpr hv] at hi
      cases hi
    · walk_at "g"
      rename_i ca nca
      show Q (.bl (decide (_ = _))) _
      rw [decide_eq_true rfl]
      exact q _ (f2.new nca)
set_option maxHeartbeats 4000000 in
theorem ok_law_listed_right (T : Txt K mg c) : GefAt P w K mg base "_law_listed_right" s_law_listed_right 8 ["many", "total", "rows"] (spListed K) := by
  have D_law_books := ok_law_books (P := P) (w := w) (base := base) T 5
  have D_law_fits := ok_law_fits (P := P) (w := w) (base := base) T
  have D_count_fitting := ok_count_fitting (P := P) (w := w) (base := base) T
  have D_nth_fitting := ok_nth_fitting (P := P) (w := w) (base := base) T
  have D_law_refused := ok_law_refused (P := P) (w := w) (base := base) T
  refine T.f_law_listed_right.okG sc_law_listed_right (fun vs H Q E h => ?_) (fun _ _ _ _ _ _ us hl => match us, hl with | [_, _, _], _ => rfl) (fun f cdv A outer s H vs Q E hr gds h => ?_)
  · obtain ⟨p, ps, ls, m, n, rfl, hp, hps, hvc, c5, n0, n16, l10, hlb, q⟩ := h
    rfl
  · obtain ⟨p, ps, ls, m, n, rfl, hp, hps, hvc, c5, n0, n16, l10, hlb, q⟩ := h
    refine ⟨_, (pss_cons (ps_par (i := 4) (j := 5) rfl sc_law_listed_right.nd rfl rfl (by decide) rfl rfl (pa_cons (pe_lc (own := [("some", 3)])  rfl sc_law_listed_right.nd (pi_list (pe_callD D_law_books (hr.mono (by decide)) (pa_cons (pv 0) (pa_cons (pv 1) pa_nil)))) (blkOk_by (N := sc_law_listed_right_N) (sc := defScope s_law_listed_right) (by decide +kernel)) (fun _ _ _ _ _ => (pg_name (i := 3) sc_law_listed_right.nd rfl (Or.inl rfl))) (fun _ _ _ _ _ => (pts_one (pt_val (pe_callD D_law_fits (hr.mono (by decide)) (pa_cons (pv 3) (pa_cons (pv 2) pa_nil)))))) (fun _ _ _ _ _ => (pv 3))) (pa_cons (pe_callB (call_reprD gds (gu_of hr)) (by rfl) T.n_repr (by decide +kernel) (pa_cons (pv 2) pa_nil)) pa_nil)) (by rfl))
    (pss_cons (ps_if (pt_cmpR op_ne (pe_callX D_count_fitting (hr.mono (by decide)) takes0 (pa_cons (pv 0) (pa_cons (pv 1) (pa_cons (pv 2) pa_nil)))) (pe_callB call_lenN (by rfl) T.n_len (by decide +kernel) (pa_cons (pv 4) pa_nil)) (nomark _)) (pss_one (ps_ret pe_bl)) pss_nil)
    (pss_cons (ps_for PassesOwn.never rfl (pi_enum (by rfl) T.n_enumerate (pa_cons (pv 4) pa_nil)) (pg_tup rfl (pgs_cons (pg_name (i := 6) sc_law_listed_right.nd rfl (Or.inl rfl)) (pgs_cons (pg_name (i := 3) sc_law_listed_right.nd rfl (Or.inl rfl)) pgs_nil))) (pss_cons (ps_set (i := 7) sc_law_listed_right.nd rfl (Or.inl rfl) (pe_callX D_nth_fitting (hr.mono (by decide)) takes0 (pa_cons (pv 0) (pa_cons (pv 1) (pa_cons (pv 2) (pa_cons (pv 6) pa_nil))))))
    (pss_cons (ps_set (i := 8) sc_law_listed_right.nd rfl (Or.inl rfl) (pe_callXK D_nth_fitting (hr.mono (by decide)) takes0 (pk_cons (pv 6) (pk_cons (pv 2) (pk_cons (pv 1) (pk_cons (pv 0) pk_nil)))) kb_nth_fitting_number_chain_lines_chapters))
    (pss_cons (ps_if (pt_cmpR op_ne (pe_callB (call_reprD gds (gu_of hr)) (by rfl) T.n_repr (by decide +kernel) (pa_cons (pe_lst (pa_cons (pv 7) (pa_cons (pv 8) pa_nil))) pa_nil)) (pe_callB (call_reprD gds (gu_of hr)) (by rfl) T.n_repr (by decide +kernel) (pa_cons (pe_lst (pa_cons (pv 3) (pa_cons (pv 3) pa_nil))) pa_nil)) (nomark _)) (pss_one (ps_ret pe_bl)) pss_nil)
    (pss_one (ps_expr (pe_bm PySem.F.plainAttrs_list PySem.F.slot_list_append PySem.F.type_list_append mt_append (pv 7) (pa_cons pe_int pa_nil))))))))
    (pss_cons (ps_for PassesOwn.never rfl (pi_list (pe_lst (pa_cons (pe_callB call_lenN (by rfl) T.n_len (by decide +kernel) (pa_cons (pv 4) pa_nil)) (pa_cons (pe_un un_neg pe_int) (pa_cons (pe_op op_add (pe_callB call_lenN (by rfl) T.n_len (by decide +kernel) (pa_cons (pv 4) pa_nil)) (pe_op op_powW pe_int pe_int)) pa_nil))))) (pg_name (i := 6) sc_law_listed_right.nd rfl (Or.inl rfl)) (pss_one (ps_if (pt_not (pt_val (pe_callD D_law_refused (hr.mono (by decide)) (pa_cons (pv 0) (pa_cons (pv 1) (pa_cons (pv 2) (pa_cons (pv 6) pa_nil))))))) (pss_one (ps_ret pe_bl)) pss_nil)))
    (pss_cons (ps_setLc (i := 9) (own := [("spot", 6)]) (tt := tYes) rfl sc_law_listed_right.nd rfl rfl (sw_true rfl rfl rfl (by decide +kernel)) (pi_range1 (by rfl) T.n_range (pa_cons (pe_callB call_lenN (by rfl) T.n_len (by decide +kernel) (pa_cons (pv 4) pa_nil)) pa_nil)) (blkOk_by (N := sc_law_listed_right_N) (sc := defScope s_law_listed_right) (by decide +kernel)) (fun _ _ _ _ _ => (pg_name (i := 6) sc_law_listed_right.nd rfl (Or.inl rfl))) (fun _ _ _ _ _ => pts_nil) (fun _ _ _ _ _ => (pe_callX D_nth_fitting (hr.mono (by decide)) takes0 (pa_cons (pv 0) (pa_cons (pv 1) (pa_cons (pv 2) (pa_cons (pv 6) pa_nil)))))))
    (pss_one (ps_ret (pe_and (pe_cmpR (op_eqD hr.units) (pv 9) (pv 4) (nomark _)) (pe_one (pe_cmpR op_eq (pe_callB (call_reprD gds (gu_of hr)) (by rfl) T.n_repr (by decide +kernel) (pa_cons (pv 2) pa_nil)) (pv 5) (nomark _))))))))))), ?_⟩
    refine w_start (σ' := [some (.int m), some (.int n), some (.ref p), none, none, none, none, none, none, none]) rfl ?_
    walk_at "g"
    have hl := hps.1
    have hch := hvc.chain
    have hpos : ∀ l ∈ ls, 0 < l.1 := chain_pos hvc
    have hz : SizedN m n 0 ls := ⟨by omega, n0, by omega, by omega, by omega, fun l hl2 => by have := hlb l hl2; have := hpos l hl2; omega⟩
    have hfine : Fine (.list (ls.map dP)) := fine_pairs (fun l hl2 => by have := hlb l hl2; have := hpos l hl2; omega) (by omega)
    have hfew := fl_few m n ls
    have hfew2 : (fl m n ls).length ≤ 65536 := Nat.le_trans hfew (Nat.le_trans (Nat.pow_le_pow_right (by decide) (show n.toNat ≤ 16 by omega)) (by decide))
    clear hfew
    refine ⟨m, n, rfl, c5, by decide, by omega, by omega, fun p1 ps1 H1 f1 n1 h1 hl1 hp1 lp1 _ => ?_⟩
    have h1p := f1.at0 hp
    have hps1 := hps.fr f1
    have lp2 : ps1.length ≤ 2000000 := Nat.le_trans lp1 (Nat.le_trans (Nat.pow_le_pow_right (by decide) c5) (by decide))
    have hlen := hl1.len
    walk_at "g"
    refine l_list (ps1.map V.ref) (fun L i H' => ∃ qs : List Addr, Fr [] H1 H' ∧ H' L = some (.lst (qs.map V.ref)) ∧ ListsAt H' qs (((books m n).take i).filter (fitsB ls)) ∧ L ∉ qs ∧ qs.length ≤ i ∧ ∀ t ∈ qs, t ∈ ps1) (fun L hL => ⟨[], Fr.refl.new hL, upd_same, .nil, by simp, by simp, by simp⟩) (fun L i H' _ _ h => .of (h.choose_spec.1.at0 h1)) (fun L i x H' hL hx h => ?_) (fun L H2 hL h => ?_)
    · obtain ⟨qs, g1, g2, g3, g4, g5, g6⟩ := h
      obtain ⟨t, ht, rfl⟩ := map_at' hx
      have hil := (List.getElem?_eq_some_iff.mp ht).1
      obtain ⟨xs, hxs⟩ : ∃ xs, (books m n)[i]? = some xs := ⟨_, List.getElem?_eq_getElem (by omega)⟩
      have hxl := books_len _ _ _ (List.mem_of_getElem? hxs)
      have htx1 := hl1.at_ i t xs ht hxs
      have htx := g1.at0 htx1
      have tk : (books m n).take (i + 1) = (books m n).take i ++ [xs] := by rw [List.take_succ, hxs]; rfl
      have htL : L ≠ t := fun e => by rw [e, htx1] at hL; cases hL
      refine w_gname ⟨rfl, ?_⟩
      walk_at "g"
      refine ⟨t, p, xs, ps, ls, rfl, htx, g1.at0 h1p, hps1.fr g1, by omega, by omega, fun l hl2 => ⟨hpos l hl2, by have := hlb l hl2; omega⟩, fun H3 f3 => ?_⟩
      have g22 := f3.at0 g2
      walk_at "g"
      refine w_iteB2 (fun hf => ?_) (fun hf => ?_)
      · walk_at "g"
        refine w_appER g22 (by omega) ⟨qs ++ [t], (g1.trans f3).put (.inl hL), upd_same, ?_, by simp [g4, htL], by rw [List.length_append, List.length_singleton]; omega, mem_snoc g6 (List.mem_of_getElem? ht)⟩
        rw [tk, List.filter_append, List.filter_cons_of_pos hf, List.filter_nil]
        exact (((g3.fr f3).app (.one (f3.at0 htx)))).put (by simp [g4, htL])
      · refine ⟨qs, g1.trans f3, g22, ?_, g4, by omega, g6⟩
        rw [tk, List.filter_append, List.filter_cons_of_neg (by rw [hf]; decide), List.filter_nil, List.append_nil]
        exact g3.fr f3
    · obtain ⟨qs, g1, g2, g3, g4, g5, g6⟩ := h
      rw [List.length_map, hlen, List.take_length] at g3
      have g3 : ListsAt H2 qs (fl m n ls) := g3
      have f02 := f1.trans g1
      have h2p := g1.at0 h1p
      have hps2 := hps1.fr g1
      clear g1 h1p hps1 h1 hl1 f1 hlen lp2 lp1 hp1 g5 g6 hL
      have lq := g3.len
      have hlen := fl_len (c := m) (n := n) hch
      obtain ⟨D, hD⟩ : ∃ D, D = fl m n ls := ⟨_, rfl⟩
      rw [← hD] at g3 lq hlen hfew2
      walk_at "g"
      refine w_reprD (.lst (SqL.of h2p) (dpAll_pairs hps2)) hfine ?_
      walk_at "g"
      have hz2 := hz
      refine cntf_go h2p hps2 hvc hz2 (fun H3 f3 => ?_)
      rw [← hD]
      have h3p := f3.at0 h2p
      have hps3 := hps2.fr f3
      have h3L := f3.at0 g2
      have hl3 := g3.fr f3
      have f03 := f02.trans f3
      clear h2p hps2 f3 g2 g3 f02
      have eL : (qs.map V.ref).length = D.length := by rw [List.length_map, lq]
      walk_at "g"
      rw [eL]
      walk_at "g"
      refine f_enum (qs.map V.ref) (fun i σ' H' => ∃ (o3 o6 o7 o8 : Option V), σ' = [some (.int m), some (.int n), some (.ref p), o3, some (.ref L), some (.str (PyData.list (ls.map dP)).shown), o6, o7, o8, none] ∧ Fr [] H3 H') ⟨_, _, _, _, rfl, Fr.refl⟩ ?_ ?_ ?_
      · rintro i σ' H' hi ⟨o3, o6, o7, o8, rfl, f4⟩
        exact SqL.of (f4.at0 h3L)
      · rintro i x U σ' H4 hx ⟨o3, o6, o7, o8, rfl, f4⟩ hU
        obtain ⟨t, ht, rfl⟩ := map_at' hx
        have hiq := (List.getElem?_eq_some_iff.mp ht).1
        obtain ⟨xs, hxs⟩ : ∃ xs, D[i]? = some xs := ⟨_, List.getElem?_eq_getElem (by omega)⟩
        have hxm := fl_mem (hD ▸ List.mem_of_getElem? hxs)
        have f5 := f4.new (o := .tup [.int i, .ref t]) hU
        have hft : Fine (.list [dI xs, dI xs]) := fine_two2 (fun x hx => by have := hxm.2.2.2 x hx; omega) (by omega)
        walk_at "g"
        rw [hD] at hxs
        refine nth_go (f5.at0 h3p) (hps3.fr f5) hvc hz2 hxs (fun r1 H6 f6 nr1 hr1 => ?_)
        have f56 := f5.trans f6
        walk_at "g"
        refine nth_go (f56.at0 h3p) (hps3.fr f56) hvc hz2 hxs (fun r2 H7 f7 nr2 hr2 => ?_)
        have f57 := f56.trans f7
        have hr17 := f7.at0 hr1
        have ht7 := f57.at0 (hl3.at_ i t xs ht (hD ▸ hxs))
        have nr13 := f5.free List.not_mem_nil nr1
        clear f4 f5 f6 f7 f56 hU hr1
        walk_at "g"
        rename_i d1 nd1
        refine w_reprD (.lst (SqL.of upd_same) (.cons (dp_ints (SqL.of (at_upd hr17 nd1))) (.cons (dp_ints (SqL.of (at_upd hr2 nd1))) .nil))) hft ?_
        walk_at "g"
        rename_i d2 nd2
        refine w_reprD (.lst (SqL.of upd_same) (.cons (dp_ints (SqL.of (at_upd (at_upd ht7 nd1) nd2))) (.cons (dp_ints (SqL.of (at_upd (at_upd ht7 nd1) nd2))) .nil))) hft ?_
        walk_at "g"
        exact ⟨_, _, _, _, rfl, ((f57.new nd1).new nd2).put (.inl nr13)⟩
      rintro σ' H4 ⟨o3, o6, o7, o8, rfl, f4⟩
      walk_at "g"
      rename_i p3 np3
      rw [eL]
      have f5 : Fr [] H3 (upd H4 p3 (.lst [.int D.length, .int (-1), .int (D.length + 100000000000000000000)])) := f4.new np3
      have h5 : upd H4 p3 (.lst [.int D.length, .int (-1), .int (D.length + 100000000000000000000)]) p3 = some (.lst [.int D.length, .int (-1), .int (D.length + 100000000000000000000)]) := upd_same
      generalize upd H4 p3 (.lst [.int D.length, .int (-1), .int (D.length + 100000000000000000000)]) = H5 at f5 h5 ⊢
      clear np3 f4
      refine f_list [.int D.length, .int (-1), .int (D.length + 100000000000000000000)] (fun i σ' H' => ∃ (o6 : Option V), σ' = [some (.int m), some (.int n), some (.ref p), o3, some (.ref L), some (.str (PyData.list (ls.map dP)).shown), o6, o7, o8, none] ∧ Fr [] H5 H') ⟨_, rfl, Fr.refl⟩ ?_ ?_ ?_
      · rintro i σ' H' hi ⟨o6, rfl, f6⟩
        exact SqL.of (f6.at0 h5)
      · rintro i x σ' H6 hx ⟨o6, rfl, f6⟩
        have f36 := f5.trans f6
        obtain ⟨k, rfl, hk, kb⟩ : ∃ k : Int, x = .int k ∧ ¬(0 ≤ k ∧ k < cnt m n ls) ∧ k.natAbs < 10 ^ 40 := by
          have e := List.mem_of_getElem? hx
          simp only [List.mem_cons, List.not_mem_nil, or_false] at e
          rcases e with rfl | rfl | rfl <;> exact ⟨_, rfl, by omega, by omega⟩
        walk_at "g"
        refine ⟨p, ps, ls, m, n, k, rfl, f36.at0 h3p, hps3.fr f36, hvc, hz2, hk, kb, fun H7 f7 => ?_⟩
        walk_at "g"
        exact ⟨_, rfl, f6.trans f7⟩
      rintro σ' H6 ⟨o6, rfl, f6⟩
      have f36 := f5.trans f6
      have h6p := f36.at0 h3p
      have hps6 := hps3.fr f36
      have h6L := f36.at0 h3L
      have hl6 := hl3.fr f36
      have f06 := f03.trans f36
      clear f5 h5 f6 h3p hps3 h3L hl3 f03 f36
      walk_at "g"
      rw [eL]
      walk_at "g"
      rw [Int.toNat_natCast]
      refine l_range (fun L2 i H' => ∃ rs : List Addr, Fr [] H6 H' ∧ H' L2 = some (.lst (rs.map V.ref)) ∧ ListsAt H' rs (D.take i) ∧ L2 ∉ rs ∧ rs.length = i) (fun L2 hL => ⟨[], Fr.refl.new hL, upd_same, .nil, by simp, rfl⟩) (fun L2 i H' hL hi h => ?_) (fun L2 H7 hL h => ?_)
      · obtain ⟨rs, g1, g2, g3, g4, g5⟩ := h
        obtain ⟨xs, hxs⟩ : ∃ xs, D[i]? = some xs := ⟨_, List.getElem?_eq_getElem (by omega)⟩
        have tk : D.take (i + 1) = D.take i ++ [xs] := by rw [List.take_succ, hxs]; rfl
        rw [Int.zero_add]
        refine w_gname ⟨rfl, ?_⟩
        walk_at "g"
        refine nth_go (g1.at0 h6p) (hps6.fr g1) hvc hz2 (hD ▸ hxs) (fun r1 H8 f8 nr1 hr1 => ?_)
        have g28 := f8.at0 g2
        have hne : L2 ≠ r1 := fun e => by rw [← e, g2] at nr1; cases nr1
        walk_at "g"
        refine w_appER g28 (by omega) ⟨rs ++ [r1], (g1.trans f8).put (.inl hL), upd_same, ?_, by simp [g4, hne], by rw [List.length_append, List.length_singleton]; omega⟩
        rw [tk]
        exact ((g3.fr f8).app (.one hr1)).put (by simp [g4, hne])
      · obtain ⟨rs, g1, g2, g3, g4, g5⟩ := h
        rw [List.take_length] at g3
        walk_at "g"
        refine w_eqLists g2 (g1.at0 h6L) g3 (hl6.fr g1) ?_
        rw [decide_eq_true rfl]
        walk_at "g"
        refine w_reprD (.lst (SqL.of (g1.at0 h6p)) (dpAll_pairs (hps6.fr g1))) hfine ?_
        walk_at "g"
        rw [decide_eq_true rfl]
        exact q _ (f06.trans g1)
set_option maxHeartbeats 4000000 in
theorem ok_law_drawn_right (T : Txt K mg c) : GefAt P w K mg base "_law_drawn_right" s_law_drawn_right 5 ["rng", "many", "total", "rows"] (spDrawn K) := by
  have D_count_fitting := ok_count_fitting (P := P) (w := w) (base := base) T
  have D_law_draw := ok_law_draw (P := P) (w := w) (base := base) T
  have D_nth_fitting := ok_nth_fitting (P := P) (w := w) (base := base) T
  have D_law_fits := ok_law_fits (P := P) (w := w) (base := base) T
  refine T.f_law_drawn_right.okG sc_law_drawn_right (fun vs H Q E h => ?_) (fun _ _ _ _ _ _ us hl => match us, hl with | [_, _, _, _], _ => rfl) (fun f cdv A outer s H vs Q E hr gds h => ?_)
  · obtain ⟨r, p, k, ps, ls, m, n, rfl, hP, hk, hp, hps, hvc, c8, n0, n60, l10, hlb, hfp, q⟩ := h
    rfl
  · obtain ⟨r, p, k, ps, ls, m, n, rfl, hP, hk, hp, hps, hvc, c8, n0, n60, l10, hlb, hfp, q⟩ := h
    refine ⟨_, (pss_cons (ps_set (i := 4) sc_law_drawn_right.nd rfl (Or.inl rfl) (pe_callX D_count_fitting (hr.mono (by decide)) takes0 (pa_cons (pv 1) (pa_cons (pv 2) (pa_cons (pv 3) pa_nil)))))
    (pss_cons (ps_set (i := 5) sc_law_drawn_right.nd rfl (Or.inl rfl) (pe_lst (pa_cons pe_int (pa_cons (pe_op op_sub (pv 4) pe_int) (pa_cons (pe_callD D_law_draw (hr.mono (by decide)) (pa_cons (pv 0) (pa_cons (pv 4) pa_nil))) (pa_cons (pe_callD D_law_draw (hr.mono (by decide)) (pa_cons (pv 0) (pa_cons (pv 4) pa_nil))) pa_nil))))))
    (pss_cons (ps_set (i := 5) sc_law_drawn_right.nd rfl (Or.inl rfl) (pe_callB cr_sortedI (by rfl) T.n_sorted (by decide +kernel) (pa_cons (pe_op op_cat (pv 5) (pe_lst (pa_cons (pe_callB (call_min2N rfl) (by rfl) T.n_min (by decide +kernel) (pa_cons (pe_op op_sub (pv 4) pe_int) (pa_cons (pe_op op_add (pe_ix ix_list (pv 5) pe_int (fun _ _ => rfl)) pe_int) pa_nil))) (pa_cons (pe_callB (call_max2N rfl) (by rfl) T.n_max (by decide +kernel) (pa_cons pe_int (pa_cons (pe_op op_sub (pe_ix ix_list (pv 5) pe_int (fun _ _ => rfl)) pe_int) pa_nil))) pa_nil)))) pa_nil)))
    (pss_cons (ps_setLc (i := 6) (own := [("spot", 11)]) (tt := tYes) rfl sc_law_drawn_right.nd rfl rfl (sw_true rfl rfl rfl (by decide +kernel)) (pi_list (pv 5)) (blkOk_by (N := sc_law_drawn_right_N) (sc := defScope s_law_drawn_right) (by decide +kernel)) (fun _ _ _ _ _ => (pg_name (i := 11) sc_law_drawn_right.nd rfl (Or.inl rfl))) (fun _ _ _ _ _ => pts_nil) (fun _ _ _ _ _ => (pe_callX D_nth_fitting (hr.mono (by decide)) takes0 (pa_cons (pv 1) (pa_cons (pv 2) (pa_cons (pv 3) (pa_cons (pv 11) pa_nil)))))))
    (pss_cons (ps_for PassesOwn.never rfl (pi_list (pv 6)) (pg_name (i := 7) sc_law_drawn_right.nd rfl (Or.inl rfl)) (pss_one (ps_if (PW.pt (pw_or (pt_cmpR op_ne (pe_callB call_lenN (by rfl) T.n_len (by decide +kernel) (pa_cons (pv 7) pa_nil)) (pv 1) (nomark _)) (pw_or (pt_cmpR op_ne (pe_callB (cr_sum rfl) (by rfl) T.n_sum (by decide +kernel) (pa_cons (pv 7) pa_nil)) (pv 2) (nomark _)) (pw_or1 (pt_not (pt_val (pe_callD D_law_fits (hr.mono (by decide)) (pa_cons (pv 7) (pa_cons (pv 3) pa_nil))))))))) (pss_one (ps_ret pe_bl)) pss_nil)))
    (pss_cons (ps_for PassesOwn.never rfl (pi_range1 (by rfl) T.n_range (pa_cons pe_int pa_nil)) (pg_name (i := 8) sc_law_drawn_right.nd rfl (Or.inl rfl)) (pss_cons (ps_set (i := 9) sc_law_drawn_right.nd rfl (Or.inl rfl) (pe_cmpR (op_ltL hr.units) (pe_ix ix_list (pv 6) (pv 8) (fun _ _ => rfl)) (pe_ix ix_list (pv 6) (pe_op op_add (pv 8) pe_int) (fun _ _ => rfl)) (nomark _)))
    (pss_one (ps_if (pt_cmpR op_ne (pv 9) (pe_cmpR op_lt (pe_ix ix_list (pv 5) (pv 8) (fun _ _ => rfl)) (pe_ix ix_list (pv 5) (pe_op op_add (pv 8) pe_int) (fun _ _ => rfl)) (nomark _)) (nomark _)) (pss_one (ps_ret pe_bl)) pss_nil))))
    (pss_cons (ps_setLc (i := 10) (own := [("some", 7)])  rfl sc_law_drawn_right.nd rfl rfl (sw_true rfl rfl rfl (by decide +kernel)) (pi_list (pv 6)) (blkOk_by (N := sc_law_drawn_right_N) (sc := defScope s_law_drawn_right) (by decide +kernel)) (fun _ _ _ _ _ => (pg_name (i := 7) sc_law_drawn_right.nd rfl (Or.inl rfl))) (fun _ _ _ _ _ => (pts_one (pt_cmpR op_lt (pe_callB (kc_call (K := K) (r := rMin) (cr_min rfl) rfl) (by rfl) T.n_min (by decide +kernel) (pa_cons (pe_op op_cat (pv 7) (pe_lst (pa_cons pe_int pa_nil))) pa_nil)) pe_int (nomark _)))) (fun _ _ _ _ _ => (pv 7)))
    (pss_one (ps_ret (pe_and (pe_cmpR (op_eqD hr.units) (pe_callB (cr_sortedL hr.units) (by rfl) T.n_sorted (by decide +kernel) (pa_cons (pv 6) pa_nil)) (pv 6) (nomark _)) (pe_one (pe_cmpR (op_eqD hr.units) (pv 10) (pe_lst pa_nil) (nomark _))))))))))))), ?_⟩
    refine w_start (σ' := [some (.ref r), some (.int m), some (.int n), some (.ref p), none, none, none, none, none, none, none, none]) rfl ?_
    walk_at "g"
    have hl := hps.1
    have hch := hvc.chain
    have hpos : ∀ l ∈ ls, 0 < l.1 := chain_pos hvc
    have hz : SizedN m n 0 ls := ⟨by omega, n0, by omega, by omega, by omega, fun l hl2 => by have := hlb l hl2; have := hpos l hl2; omega⟩
    have hpr : p ≠ r := fun e => by
      obtain ⟨d, m', t', h1, _⟩ := hP
      rw [← e, hp] at h1
      have h2 := congrArg (fun o => match o with | some (HO.lst xs) => xs | _ => []) h1
      have h2 : ps.map V.ref = [.int d, .int m', .int t'] := h2
      cases ps with
      | nil => cases h2
      | cons a b => cases h2
    have hfew := fl_few m n ls
    have hfew2 : (fl m n ls).length ≤ 2 ^ 60 := Nat.le_trans hfew (Nat.pow_le_pow_right (by decide) (show n.toNat ≤ 60 by omega))
    clear hfew
    refine cntf_go hp hps hvc hz (fun H1 f1 => ?_)
    obtain ⟨D, hD⟩ : ∃ D, D = fl m n ls := ⟨_, rfl⟩
    rw [← hD] at hfew2 hfp ⊢
    have hP1 := hP.fr f1 List.not_mem_nil
    have h1p := f1.at0 hp
    have hps1 := hps.fr f1
    walk_at "g"
    rename_i r1 k1 Ha r10 r11 hk1 hPa fa r2 k2 Hb r20 r21 hk2 hPb fb p4 np4 p5 np5 p6 np6 ss p7 hperm hord np7
    have hss : ss.length = 6 := hperm.length_eq
    have hsb : ∀ x ∈ ss, 0 ≤ x ∧ x < D.length := fun x hx => by
      have h := hperm.mem_iff.mp hx
      simp only [List.mem_append, List.mem_cons, List.not_mem_nil, or_false] at h
      rcases h with (h | h | h | h) | (h | h)
      · omega
      · omega
      · omega
      · omega
      · split at h <;> omega
      · split at h <;> omega
    have fc : Fr [r] H1 (upd (upd (upd (upd Hb p4 (.lst [.int 0, .int (D.length - 1), .int r1, .int r2])) p5 (.lst [.int (if r1 + 1 < D.length - 1 then r1 + 1 else D.length - 1), .int (if r2 - 1 > 0 then r2 - 1 else 0)])) p6 (.lst (([0, (D.length : Int) - 1, r1, r2] ++ [if r1 + 1 < (D.length : Int) - 1 then r1 + 1 else (D.length : Int) - 1, if r2 - 1 > 0 then r2 - 1 else 0]).map V.int))) p7 (.lst (ss.map V.int))) := ((((fa.trans fb).new np4).new np5).new np6).new np7
    have hPc := (((hPb.new np4).new np5).new np6).new (o := .lst (ss.map V.int)) np7
    have h7 : (upd (upd (upd (upd Hb p4 (.lst [.int 0, .int (D.length - 1), .int r1, .int r2])) p5 (.lst [.int (if r1 + 1 < D.length - 1 then r1 + 1 else D.length - 1), .int (if r2 - 1 > 0 then r2 - 1 else 0)])) p6 (.lst (([0, (D.length : Int) - 1, r1, r2] ++ [if r1 + 1 < (D.length : Int) - 1 then r1 + 1 else (D.length : Int) - 1, if r2 - 1 > 0 then r2 - 1 else 0]).map V.int))) p7 (.lst (ss.map V.int))) p7 = some (.lst (ss.map V.int)) := upd_same
    generalize (upd (upd (upd (upd Hb p4 (.lst [.int 0, .int (D.length - 1), .int r1, .int r2])) p5 (.lst [.int (if r1 + 1 < D.length - 1 then r1 + 1 else D.length - 1), .int (if r2 - 1 > 0 then r2 - 1 else 0)])) p6 (.lst (([0, (D.length : Int) - 1, r1, r2] ++ [if r1 + 1 < (D.length : Int) - 1 then r1 + 1 else (D.length : Int) - 1, if r2 - 1 > 0 then r2 - 1 else 0]).map V.int))) p7 (.lst (ss.map V.int))) = Hc at fc hPc h7 ⊢
    have hcp := fc.at (nn2 hpr) h1p
    have hpsc := hps1.frR hP1 fc
    have f0c : Fr [r] H Hc := f1.nil.trans fc
    clear np4 np5 np6 np7 fa fb hPa hPb hP1 h1p hps1 f1 fc hperm
    obtain ⟨G, hG⟩ : ∃ G, G = ss.map fun s => D.getD s.toNat [] := ⟨_, rfl⟩
    have hGl : G.length = 6 := by rw [hG, List.length_map, hss]
    have hGi : ∀ (i : Nat) (s : Int), ss[i]? = some s → ∃ xs, G[i]? = some xs ∧ D[s.toNat]? = some xs := fun i s hs => by
      have hb := hsb s (List.mem_of_getElem? hs)
      have h1 : D[s.toNat]? = some (D.getD s.toNat []) := by
        rw [List.getD_eq_getElem?_getD, List.getElem?_eq_getElem (by omega)]
        rfl
      exact ⟨_, by rw [hG, List.getElem?_map, hs]; rfl, h1⟩
    refine l_list (ss.map V.int) (fun L i H' => ∃ rs : List Addr, Fr [] Hc H' ∧ H' L = some (.lst (rs.map V.ref)) ∧ ListsAt H' rs (G.take i) ∧ L ∉ rs ∧ rs.length = i) (fun L hL => ⟨[], Fr.refl.new hL, upd_same, .nil, by simp, rfl⟩) (fun L i H' _ _ h => .of (h.choose_spec.1.at0 h7)) (fun L i x H' hL hx h => ?_) (fun L H8 hL h => ?_)
    · obtain ⟨rs, g1, g2, g3, g4, g5⟩ := h
      obtain ⟨s, hs, rfl⟩ := map_at hx
      have hsi := hsb s (List.mem_of_getElem? hs)
      have hil := (List.getElem?_eq_some_iff.mp hs).1
      obtain ⟨xs, hxs, hDs⟩ := hGi i s hs
      have tk : G.take (i + 1) = G.take i ++ [xs] := by rw [List.take_succ, hxs]; rfl
      refine w_gname ⟨rfl, ?_⟩
      walk_at "g"
      rw [← Int.toNat_of_nonneg hsi.1]
      refine nth_go (g1.at0 hcp) (hpsc.fr g1) hvc hz (hD ▸ hDs) (fun r1 H8 f8 nr1 hr1 => ?_)
      have g28 := f8.at0 g2
      have hne : L ≠ r1 := fun e => by rw [← e, g2] at nr1; cases nr1
      walk_at "g"
      refine w_appER g28 (by omega) ⟨rs ++ [r1], (g1.trans f8).put (.inl hL), upd_same, ?_, by simp [g4, hne], by rw [List.length_append, List.length_singleton]; omega⟩
      rw [tk]
      exact ((g3.fr f8).app (.one hr1)).put (by simp [g4, hne])
    obtain ⟨rs, g1, g2, g3, g4, g5⟩ := h
    rw [List.length_map] at g5
    rw [List.length_map, hss, ← hGl, List.take_length] at g3
    have h8p := g1.at0 hcp
    have hps8 := hpsc.fr g1
    have hP8 := hPc.fr g1 List.not_mem_nil
    have h87 := g1.at0 h7
    have f08 := f0c.then g1
    have hGm : ∀ xs ∈ G, xs.length = m ∧ xs.sum = n ∧ fitsB ls xs = true ∧ ∀ x ∈ xs, 1 ≤ x ∧ x ≤ n := fun xs hx => by
      obtain ⟨i, hi⟩ := List.mem_iff_getElem?.mp hx
      obtain ⟨s, hs⟩ : ∃ s, ss[i]? = some s := ⟨_, List.getElem?_eq_getElem (by have := (List.getElem?_eq_some_iff.mp hi).1; omega)⟩
      obtain ⟨ys, h1, h2⟩ := hGi i s hs
      obtain rfl : xs = ys := Option.some.inj (hi.symm.trans h1)
      exact fl_mem (hD ▸ List.mem_of_getElem? h2)
    clear g1 hcp hpsc hPc h7 f0c g4 hL
    walk_at "g"
    refine f_list (rs.map V.ref) (fun i σ' H' => ∃ (o7 : Option V), σ' = [some (.ref r), some (.int m), some (.int n), some (.ref p), some (.int D.length), some (.ref p7), some (.ref L), o7, none, none, none, none] ∧ Fr [] H8 H') ⟨_, rfl, Fr.refl⟩ ?_ ?_ ?_
    · rintro i σ' H' hi ⟨o7, rfl, f9⟩
      exact SqL.of (f9.at0 g2)
    · rintro i x σ' H9 hx ⟨o7, rfl, f9⟩
      obtain ⟨t, ht, rfl⟩ := map_at' hx
      have hil := (List.getElem?_eq_some_iff.mp ht).1
      obtain ⟨xs, hxs⟩ : ∃ xs, G[i]? = some xs := ⟨_, List.getElem?_eq_getElem (by omega)⟩
      obtain ⟨e1, e2, e3, e4⟩ := hGm xs (List.mem_of_getElem? hxs)
      have ht9 := f9.at0 (g3.at_ i t xs ht hxs)
      walk_at "g"
      refine w_iteN (fun h => absurd (by omega) h) (fun _ => ?_)
      walk_at "g"
      refine ⟨t, p, xs, ps, ls, rfl, ht9, f9.at0 h8p, hps8.fr f9, by omega, by omega, fun l hl2 => ⟨hpos l hl2, by have := hlb l hl2; omega⟩, fun H10 f10 => ?_⟩
      rw [e3]
      walk_at "g"
      exact ⟨_, rfl, f9.trans f10⟩
    rintro σ' H9 ⟨o7, rfl, f9⟩
    have h9p := f9.at0 h8p
    have hps9 := hps8.fr f9
    have hP9 := hP8.fr f9 List.not_mem_nil
    have h97 := f9.at0 h87
    have f09 := f08.then f9
    have g29 := f9.at0 g2
    have g39 := g3.fr f9
    clear h8p hps8 hP8 h87 f08 g2 g3 f9
    walk_at "g"
    refine f_range (fun i σ' H' => ∃ (o8 o9 : Option V), σ' = [some (.ref r), some (.int m), some (.int n), some (.ref p), some (.int D.length), some (.ref p7), some (.ref L), o7, o8, o9, none, none] ∧ H' = H9) ⟨_, _, rfl, rfl⟩ ?_ ?_
    · rintro i σ' H' hi ⟨o8, o9, rfl, rfl⟩
      obtain ⟨s1, hs1⟩ : ∃ s, ss[i]? = some s := ⟨_, List.getElem?_eq_getElem (by omega)⟩
      obtain ⟨s2, hs2⟩ : ∃ s, ss[i + 1]? = some s := ⟨_, List.getElem?_eq_getElem (by omega)⟩
      have hb1 := hsb s1 (List.mem_of_getElem? hs1)
      have hb2 := hsb s2 (List.mem_of_getElem? hs2)
      obtain ⟨x1, hx1, hD1⟩ := hGi i s1 hs1
      obtain ⟨x2, hx2, hD2⟩ := hGi (i + 1) s2 hs2
      walk_at "g"
      refine w_ixLR g29 (by omega) (by omega) (fun t1 ht1 => ?_)
      rw [show (0 + (i : Int)).toNat = i by omega] at ht1
      walk_at "g"
      refine w_ixLR g29 (by omega) (by omega) (fun t2 ht2 => ?_)
      rw [show (0 + (i : Int) + 1).toNat = i + 1 by omega] at ht2
      walk_at "g"
      refine w_ltL (g39.at_ i t1 x1 ht1 hx1) (g39.at_ (i + 1) t2 x2 ht2 hx2) ?_
      rw [fl_lt (hD ▸ hD1) (hD ▸ hD2)]
      walk_at "g"
      rename_i n1 hn1 n2 hn2
      rw [show (0 + (i : Int)).toNat = i by omega, hs1] at hn1
      rw [show (0 + (i : Int) + 1).toNat = i + 1 by omega, hs2] at hn2
      cases hn1
      cases hn2
      rw [bne_iff (show s1.toNat < s2.toNat ↔ s1 < s2 by omega)]
      walk_at "g"
      exact ⟨_, _, rfl, rfl⟩
    rintro σ' H' ⟨o8, o9, rfl, rfl⟩
    walk_at "g"
    refine l_list (rs.map V.ref) (fun L2 i H10 => Fr [] H' H10 ∧ H10 L2 = some (.lst [])) (fun L2 hL => ⟨Fr.refl.new hL, upd_same⟩) (fun L2 i H' _ _ h => .of (h.1.at0 g29)) (fun L2 i x H' hL hx h => ?_) (fun L2 H10 hL h => ?_)
    · obtain ⟨g1, g2⟩ := h
      obtain ⟨t, ht, rfl⟩ := map_at' hx
      have hil := (List.getElem?_eq_some_iff.mp ht).1
      obtain ⟨xs, hxs⟩ : ∃ xs, G[i]? = some xs := ⟨_, List.getElem?_eq_getElem (by omega)⟩
      obtain ⟨e1, e2, e3, e4⟩ := hGm xs (List.mem_of_getElem? hxs)
      have ht9 := g1.at0 (g39.at_ i t xs ht hxs)
      refine w_gname ⟨rfl, ?_⟩
      walk_at "g"
      rename_i p8 np8 p9 np9 y hy hle
      have hy1 : 1 ≤ y := by
        rcases List.mem_append.mp hy with z | z
        · exact (e4 y z).1
        · rw [List.mem_singleton.mp z]; exact Int.le_refl 1
      refine w_ite (fun h => absurd h (by omega)) (fun _ => ?_)
      exact ⟨(g1.new np8).new np9, at_upd (at_upd g2 np8) np9⟩
    · obtain ⟨g1, g2⟩ := h
      walk_at "g"
      have hasc : G.Pairwise (fun x y => HT.lexLt y x = false) := by
        rw [hG, List.pairwise_map]
        refine List.Pairwise.imp_of_mem (fun {a b} ha hb hab => ?_) hord
        obtain ⟨x1, _, hD1⟩ : ∃ xs, True ∧ D[a.toNat]? = some xs := ⟨_, trivial, List.getElem?_eq_getElem (by have := hsb a ha; omega)⟩
        obtain ⟨x2, _, hD2⟩ : ∃ xs, True ∧ D[b.toNat]? = some xs := ⟨_, trivial, List.getElem?_eq_getElem (by have := hsb b hb; omega)⟩
        rw [List.getD_eq_getElem?_getD, List.getD_eq_getElem?_getD, hD1, hD2]
        show HT.lexLt x2 x1 = false
        rw [fl_lt (hD ▸ hD2) (hD ▸ hD1)]
        have := hsb a ha
        have := hsb b hb
        exact decide_eq_false (by omega)
      refine w_sortedL (g1.at0 g29) (g39.fr g1) hasc (fun p8 np8 => ?_)
      walk_at "g"
      refine w_eqLists upd_same (at_upd (g1.at0 g29) np8) ((g39.fr g1).fr (Fr.refl.new np8)) ((g39.fr g1).fr (Fr.refl.new np8)) ?_
      rw [decide_eq_true rfl]
      walk_at "g"
      rename_i p9 np9
      refine w_eqNil (ns := []) (SqL.of (at_upd (at_upd g2 np8) np9)) (SqL.of upd_same) ?_
      rw [decide_eq_true rfl]
      exact q k2 _ (((hP9.fr g1 List.not_mem_nil).new np8).new np9) (by omega) (((f09.then g1).new np8).new np9)
set_option maxHeartbeats 4000000 in
theorem ok_law (T : Txt K mg c) : GefAt P w K mg base "law" s_law 9 ["script"] (spLaw K) := by
  have D_law_rng := ok_law_rng (P := P) (w := w) (base := base) T
  have D_law_draw := ok_law_draw (P := P) (w := w) (base := base) T
  have D_law_sizes := ok_law_sizes (P := P) (w := w) (base := base) T
  have D_law_counted := ok_law_counted (P := P) (w := w) (base := base) T
  have D_law_listed_right := ok_law_listed_right (P := P) (w := w) (base := base) T
  have D_law_drawn_right := ok_law_drawn_right (P := P) (w := w) (base := base) T
  have D_law_refused := ok_law_refused (P := P) (w := w) (base := base) T
  have D_nth_fitting := ok_nth_fitting (P := P) (w := w) (base := base) T
  refine T.f_law.okG sc_law (fun vs H Q E h => ?_) (fun _ _ _ _ _ _ us hl => match us, hl with | [_], _ => rfl) (fun f cdv A outer s H vs Q E hr gds h => ?_)
  · obtain ⟨a, ns, rfl, hS, hl, hbits, q⟩ := h
    rfl
  · obtain ⟨a, ns, rfl, hS, hl, hbits, q⟩ := h
    refine ⟨_, (pss_cons (ps_set (i := 1) sc_law.nd rfl (Or.inr rfl) (pe_callD D_law_rng (hr.mono (by decide)) (pa_cons (pv 0) pa_nil)))
    (pss_cons (ps_for PassesOwn.never rfl (pi_range1 (by rfl) T.n_range (pa_cons (pe_op op_add pe_int (pe_callB (call_min2N rfl) (by rfl) T.n_min (by decide +kernel) (pa_cons pe_int (pa_cons (pe_callB call_lenN (by rfl) T.n_len (by decide +kernel) (pa_cons (pv 0) pa_nil)) pa_nil)))) pa_nil)) (pg_name (i := 2) sc_law.nd rfl (Or.inl rfl)) (pss_cons (ps_set (i := 3) sc_law.nd rfl (Or.inr rfl) (pe_callD D_law_draw (hr.mono (by decide)) (pa_cons (pv 1) (pa_cons pe_int pa_nil))))
    (pss_cons (ps_set (i := 4) sc_law.nd rfl (Or.inr rfl) (pe_lc (own := [("turn", 8)]) (tt := tYes) rfl sc_law.nd (pi_range1 (by rfl) T.n_range (pa_cons (pv 3) pa_nil)) (blkOk_by (N := sc_law_N) (sc := defScope s_law) (by decide +kernel)) (fun _ _ _ _ _ => (pg_name (i := 8) sc_law.nd rfl (Or.inl rfl))) (fun _ _ _ _ _ => pts_nil) (fun _ _ _ _ _ => (pe_op op_add pe_int (pe_callD D_law_draw (hr.mono (by decide)) (pa_cons (pv 1) (pa_cons (pe_ix (kc_ix (K := K) (r := rIxL) ix_list rfl) (pe_lst (pa_cons pe_int (pa_cons pe_int (pa_cons pe_int pa_nil)))) (pe_callD D_law_draw (hr.mono (by decide)) (pa_cons (pv 1) (pa_cons pe_int pa_nil))) (fun _ _ => rfl)) pa_nil)))))))
    (pss_cons (ps_if (pt_cmpR op_lt (pe_callB (cr_sum rfl) (by rfl) T.n_sum (by decide +kernel) (pa_cons (pv 4) pa_nil)) pe_int (nomark _)) (pss_cons (ps_setLc (i := 5) (own := [("wide", 9)]) (tt := tYes) rfl sc_law.nd rfl rfl (sw_true rfl rfl rfl (by decide +kernel)) (pi_list (pe_callD D_law_sizes (hr.mono (by decide)) (pa_cons (pv 1) (pa_cons pe_int (pa_cons pe_int pa_nil))))) (blkOk_by (N := sc_law_N) (sc := defScope s_law) (by decide +kernel)) (fun _ _ _ _ _ => (pg_name (i := 9) sc_law.nd rfl (Or.inl rfl))) (fun _ _ _ _ _ => pts_nil) (fun _ _ _ _ _ => (pe_tup (pa_cons (pv 9) (pa_cons (pe_callD D_law_counted (hr.mono (by decide)) (pa_cons (pv 4) (pa_cons (pv 9) pa_nil))) pa_nil)))))
    (pss_cons (ps_if (pt_not (pt_val (pe_callG D_law_listed_right (hr.mono (by decide)) gds (pa_cons (pv 3) (pa_cons (pe_callB (cr_sum rfl) (by rfl) T.n_sum (by decide +kernel) (pa_cons (pv 4) pa_nil)) (pa_cons (pv 5) pa_nil)))))) (pss_one (ps_ret pe_bl)) pss_nil)
    (pss_cons (ps_par (i := 6) (j := 7) rfl sc_law.nd rfl rfl (by decide) rfl rfl (pa_cons (pe_callD D_law_draw (hr.mono (by decide)) (pa_cons (pv 1) (pa_cons (pe_callB (call_max2N rfl) (by rfl) T.n_max (by decide +kernel) (pa_cons pe_int (pa_cons (pe_callB call_lenN (by rfl) T.n_len (by decide +kernel) (pa_cons (pv 5) pa_nil)) pa_nil))) pa_nil))) (pa_cons (pe_callD D_law_draw (hr.mono (by decide)) (pa_cons (pv 1) (pa_cons pe_int pa_nil))) pa_nil)) (by rfl))
    (pss_cons (ps_if (pt_cmpR (op_neD hr.units) (pv 5) (pe_lst pa_nil) (nomark _)) (pss_one (ps_asg (pe_tup (pa_cons (pe_ix ix_tup (pe_ix ix_list (pv 5) (pv 6) (fun _ _ => rfl)) pe_int (fun _ _ => rfl)) (pa_cons (pe_op op_add (pe_ix ix_tup (pe_ix ix_list (pv 5) (pv 6) (fun _ _ => rfl)) pe_int (fun _ _ => rfl)) (pe_ix ix_list (pe_lst (pa_cons pe_int (pa_cons (pe_un un_neg pe_int) (pa_cons pe_int pa_nil)))) (pe_callD D_law_draw (hr.mono (by decide)) (pa_cons (pv 1) (pa_cons pe_int pa_nil))) (fun _ _ => rfl))) pa_nil))) (pg_sub (pv 5) (pv 6) set_list))) pss_nil)
    (pss_one (ps_if (pt_not (pt_val (pe_callG D_law_listed_right (hr.mono (by decide)) gds (pa_cons (pv 3) (pa_cons (pe_op op_add (pe_callB (cr_sum rfl) (by rfl) T.n_sum (by decide +kernel) (pa_cons (pv 4) pa_nil)) (pv 7)) (pa_cons (pv 5) pa_nil)))))) (pss_one (ps_ret pe_bl)) pss_nil)))))) pss_nil)
    (pss_cons (ps_set (i := 3) sc_law.nd rfl (Or.inr rfl) (pe_op op_add pe_int (pe_callD D_law_draw (hr.mono (by decide)) (pa_cons (pv 1) (pa_cons pe_int pa_nil)))))
    (pss_cons (ps_set (i := 4) sc_law.nd rfl (Or.inr rfl) (pe_lc (own := [("turn", 8)]) (tt := tYes) rfl sc_law.nd (pi_range1 (by rfl) T.n_range (pa_cons (pv 3) pa_nil)) (blkOk_by (N := sc_law_N) (sc := defScope s_law) (by decide +kernel)) (fun _ _ _ _ _ => (pg_name (i := 8) sc_law.nd rfl (Or.inl rfl))) (fun _ _ _ _ _ => pts_nil) (fun _ _ _ _ _ => (pe_op op_add pe_int (pe_callD D_law_draw (hr.mono (by decide)) (pa_cons (pv 1) (pa_cons (pe_ix (kc_ix (K := K) (r := rIxL) ix_list rfl) (pe_lst (pa_cons pe_int (pa_cons (pe_op op_fdivW pe_int (pv 3)) pa_nil))) (pe_callD D_law_draw (hr.mono (by decide)) (pa_cons (pv 1) (pa_cons pe_int pa_nil))) (fun _ _ => rfl)) pa_nil)))))))
    (pss_cons (ps_setLc (i := 5) (own := [("wide", 9)]) (tt := tYes) rfl sc_law.nd rfl rfl (sw_true rfl rfl rfl (by decide +kernel)) (pi_list (pe_callD D_law_sizes (hr.mono (by decide)) (pa_cons (pv 1) (pa_cons pe_int (pa_cons pe_int pa_nil))))) (blkOk_by (N := sc_law_N) (sc := defScope s_law) (by decide +kernel)) (fun _ _ _ _ _ => (pg_name (i := 9) sc_law.nd rfl (Or.inl rfl))) (fun _ _ _ _ _ => pts_nil) (fun _ _ _ _ _ => (pe_tup (pa_cons (pv 9) (pa_cons (pe_callD D_law_counted (hr.mono (by decide)) (pa_cons (pv 4) (pa_cons (pv 9) pa_nil))) pa_nil)))))
    (pss_one (ps_if (PW.pt (pw_and (pt_cmpR op_le (pe_callB (cr_sum rfl) (by rfl) T.n_sum (by decide +kernel) (pa_cons (pv 4) pa_nil)) pe_int (nomark _)) (pw_and1 (pt_not (pt_val (pe_callG D_law_drawn_right (hr.mono (by decide)) gds (pa_cons (pv 1) (pa_cons (pv 3) (pa_cons (pe_callB (cr_sum rfl) (by rfl) T.n_sum (by decide +kernel) (pa_cons (pv 4) pa_nil)) (pa_cons (pv 5) pa_nil)))))))))) (pss_one (ps_ret pe_bl)) pss_nil)))))))))
    (pss_cons (ps_if (PW.pt (pw_or (pt_not (pt_val (pe_callD D_law_refused (hr.mono (by decide)) (pa_cons pe_int (pa_cons pe_int (pa_cons (pe_lst (pa_cons (pe_tup (pa_cons pe_int (pa_cons pe_int pa_nil))) pa_nil)) (pa_cons pe_int pa_nil))))))) (pw_or (pt_not (pt_val (pe_callD D_law_refused (hr.mono (by decide)) (pa_cons pe_int (pa_cons pe_int (pa_cons (pe_lst pa_nil) (pa_cons pe_int pa_nil))))))) (pw_or1 (pt_not (pt_val (pe_callD D_law_refused (hr.mono (by decide)) (pa_cons pe_int (pa_cons pe_int (pa_cons (pe_lst (pa_cons (pe_tup (pa_cons pe_int (pa_cons pe_int pa_nil))) pa_nil)) (pa_cons pe_int pa_nil))))))))))) (pss_one (ps_ret pe_bl)) pss_nil)
    (pss_one (ps_ret (pe_and (pe_cmpR (op_eqD hr.units) (pe_callX D_nth_fitting (hr.mono (by decide)) takes0 (pa_cons pe_int (pa_cons pe_int (pa_cons (pe_lst (pa_cons (pe_tup (pa_cons pe_int (pa_cons pe_int pa_nil))) pa_nil)) (pa_cons pe_int pa_nil))))) (pe_lst (pa_cons pe_int (pa_cons pe_int pa_nil))) (nomark _)) (pe_one (pe_cmpR (op_eqD hr.units) (pe_callX D_nth_fitting (hr.mono (by decide)) takes0 (pa_cons pe_int (pa_cons pe_int (pa_cons (pe_lst pa_nil) (pa_cons pe_int pa_nil))))) (pe_lst pa_nil) (nomark _))))))))), ?_⟩
    refine w_start (σ' := [some (.ref a), none, none, none, none, none, none, none, none, none]) rfl ?_
    walk_at "g"
    refine ⟨a, ns, rfl, hS, hl, fun r H1 f1 nr hr1 => ?_⟩
    walk_at "g"
    refine w_lenI (f1.seqL List.not_mem_nil hS) ?_
    walk_at "g"
    refine f_range (fun i σ' H' => ∃ (o2 o3 o4 o5 o6 o7 : Option V) (k : Int), σ' = [some (.ref a), some (.ref r), o2, o3, o4, o5, o6, o7, none, none] ∧ Rng H' r k ∧ k ≤ 300 * i ∧ Fr [] H H') ⟨_, _, _, _, _, _, 0, rfl, hr1, by omega, f1⟩ ?_ ?_
    · rintro i σ' H2 hi ⟨o2, o3, o4, o5, o6, o7, k, rfl, hP2, hk2, f2⟩
      have hi2 : i < 100 := by split at hi <;> omega
      walk_at "g"
      rename_i rm k3 H3 rm0 rm1 hk3 hP3 f3
      obtain ⟨c, rfl⟩ : ∃ c : Nat, rm = c := ⟨rm.toNat, by omega⟩
      have c5 : c ≤ 5 := by omega
      have f03 := f2.loc nr f3
      clear f3 f2 hP2
      refine l_range (fun L i H' => ∃ (xs : List Int) (k' : Int), Rng H' r k' ∧ k' ≤ k3 + 2 * i ∧ Fr [r] H3 H' ∧ H' L = some (.lst (xs.map V.int)) ∧ xs.length = i ∧ ∀ x ∈ xs, 1 ≤ x ∧ x ≤ 9) (fun L hL => ⟨[], k3, hP3.new hL, by omega, Fr.refl.new hL, upd_same, rfl, by simp⟩) (fun L i H' hL hi h => ?_) (fun L H4 hL h => ?_)
      · obtain ⟨xs, k', g1, g2, g3, g4, g5, g6⟩ := h
        have Lr : L ≠ r := hP3.ne hL
        refine w_gname ⟨rfl, ?_⟩
        walk_at "g"
        rename_i p1 np1 y1 k1 H5 y10 y11 hk1 hP5 f5 n hn y2 k2 H6 y20 y21 hk2b hP6 f6
        exact ⟨xs ++ [1 + y2], k2, hP6.put Lr, by omega, ((g3.trans ((Fr.refl.new np1).trans f5)).trans f6).put (.inl hL), upd_same, by rw [List.length_append, g5]; rfl, mem_snoc g6 (by omega)⟩
      obtain ⟨xs, k4, hP4, hk4, f4, h4, lx, hx⟩ := h
      have Lr : L ≠ r := hP3.ne hL
      have nL : H L = none := f03.free List.not_mem_nil hL
      have f04 := f03.loc nr f4
      have lx5 : xs.length = c := by omega
      clear f4 f03 hP3 hL
      refine w_gname ?_
      dsimp only
      refine w_seq (w_cut (fun σ' H' => ∃ (o5 o6 o7 : Option V) (k' : Int), σ' = [some (.ref a), some (.ref r), some (.int (0 + ↑i)), some (.int c), some (.ref L), o5, o6, o7, none, none] ∧ Rng H' r k' ∧ k' ≤ k4 + 60 ∧ Fr [] H H') (fun nxt rest => ?_) ?_)
      · walk_at "g"
        refine w_ite (fun hs15 => ?_) (fun _ => ?_)
        · walk_at "g"
          refine ⟨r, k4, 4, 3, rfl, hP4, by omega, by omega, by omega, by omega, by omega, fun Z zs k5 H5 lz hsc hzb hk5 hP5 f5 nZ hZ => ?_⟩
          have hZr : Z ≠ r := hP4.ne nZ
          have h5 := f5.at (nn2 Lr) h4
          have f05 : Fr [] H H5 := f04.loc nr f5
          have hk5b : k5 ≤ k4 + 40 := by omega
          have lz5 : zs.length ≤ 5 := by omega
          clear f5 nZ lz hk5
          walk_at "g"
          refine l_list (zs.map V.int) (fun L2 j H' => ∃ ts : List Addr, Fr [] H5 H' ∧ H' L2 = some (.lst (ts.map V.ref)) ∧ PairsAt H' ts ((zs.take j).map fun w => (w, ct xs w)) ∧ ts.length = j) (fun L2 hL => ⟨[], Fr.refl.new hL, upd_same, .nil, rfl⟩) (fun L2 j H' _ _ h => .of (h.choose_spec.1.at0 hZ)) (fun L2 j x H' hL hx h => ?_) (fun R H6 hR h => ?_)
          · obtain ⟨ts, g1, g2, g3, g4⟩ := h
            obtain ⟨w', hw, rfl⟩ := map_at hx
            have hjl := (List.getElem?_eq_some_iff.mp hw).1
            have hwb := hzb w' (List.mem_of_getElem? hw)
            have tk : zs.take (j + 1) = zs.take j ++ [w'] := by rw [List.take_succ, hw]; rfl
            refine w_gname ⟨rfl, ?_⟩
            walk_at "g"
            refine ⟨L, xs, w', rfl, g1.at0 h5, by omega, by omega, by omega, fun H11 f11 => ?_⟩
            walk_at "g"
            rename_i T nT
            have g2' : upd H11 T (.tup [.int w', .int (ct xs w')]) L2 = some (.lst (ts.map V.ref)) := at_upd (f11.at0 g2) nT
            refine w_appER g2' (by omega) ⟨ts ++ [T], ((g1.trans f11).new nT).put (.inl hL), upd_same, ?_, len_snoc g4⟩
            have et : ((zs.take j ++ [w']).map fun w => (w, ct xs w)) = ((zs.take j).map fun w => (w, ct xs w)) ++ [(w', ct xs w')] := by simp
            rw [tk, et]
            exact (((g3.fr f11).fr (Fr.refl.new nT)).snoc (l := (w', ct xs w')) upd_same).put g2'
          obtain ⟨ps, f6, h6, hps6, g4⟩ := h
          rw [List.length_map] at g4
          rw [List.length_map, List.take_length] at hps6
          have hP6 : Rng H6 r k5 := hP5.fr f6 List.not_mem_nil
          have h6L := f6.at0 h5
          have f06 : Fr [] H H6 := f05.trans f6
          have hRr : R ≠ r := hP5.ne hR
          have nR : H R = none := f05.free List.not_mem_nil hR
          have RL : L ≠ R := ne_of_none h5 hR
          clear f6 f05 hP5 h5 hZ hR
          have hfp := fl_pos (zs := zs) (fun x hx' => (hx x hx').1)
          obtain ⟨ls, hls⟩ : ∃ ls, ls = zs.map fun w => (w, ct xs w) := ⟨_, rfl⟩
          rw [← hls] at hps6 hfp
          have lls : ls.length ≤ 5 := by rw [hls, List.length_map]; exact lz5
          have hsch : SChain 0 (ls.map Prod.fst) := by
            rw [hls, List.map_map]
            have : (Prod.fst ∘ fun w => (w, ct xs w)) = (id : Int → Int) := rfl
            rw [this, List.map_id]
            exact hsc
          have hvc : VChain 0 ls := hsch.v
          have hlb : ∀ l ∈ ls, l.1 < 2 ^ 110 ∧ -(2 ^ 98) < l.2 ∧ l.2 < 2 ^ 98 := by
            intro l hl
            rw [hls] at hl
            obtain ⟨w', hw', rfl⟩ := List.mem_map.mp hl
            have b1 := hzb w' hw'
            have b2 := ct_range b1.1 hx
            refine ⟨by show w' < 2 ^ 110; omega, ?_, ?_⟩
            · show -(2 ^ 98) < ct xs w'
              omega
            · show ct xs w' < 2 ^ 98
              omega
          clear hsc hzb g4 hls
          have hsl := sum_len (fun x hx' => (hx x hx').1)
          refine w_gname ?_
          dsimp only
          walk_at "g"
          refine ⟨R, ps, ls, c, xs.sum, rfl, h6, hps6, hvc, c5, by omega, by omega, by omega, fun l hl => by have := hlb l hl; omega, fun H7 f7 => ?_⟩
          have h7 := f7.at0 h6
          have hps7 := hps6.fr f7
          have hP7 := hP6.fr f7 List.not_mem_nil
          have h7L := f7.at0 h6L
          have f07 := f06.trans f7
          clear f7 f06 hP6 hps6 h6 h6L
          have lps := hps7.1
          have lmap : (ps.map V.ref).length = ps.length := List.length_map _
          walk_at "g"
          rename_i sp k8 H8 sp0 sp1 hk8 hP8 f8 mo k9 H9 mo0 mo1 hk9 hP9 f9 e1 ne1
          have f79 : Fr [r] H7 H9 := f8.trans f9
          have h9R := f79.at (nn2 hRr) h7
          have hps9 := hps7.frR hP7 f79
          have h9L := f79.at (nn2 Lr) h7L
          have f09 := f07.loc nr f79
          clear f8 f9 f79 hP8 f07 hP7 h7 hps7 h7L
          have h0R := at_upd (u := .lst []) h9R ne1
          have h0L := at_upd (u := .lst []) h9L ne1
          have hps0 := hps9.fr (Fr.refl.new (o := .lst []) ne1)
          have hP0 := hP9.new (o := .lst []) ne1
          have f00 := f09.new (o := .lst []) ne1
          refine w_neNilP h0R upd_same hps0 ?_
          generalize upd H9 e1 (.lst []) = H0 at h0R h0L hps0 hP0 f00 ⊢
          clear h9R h9L hps9 hP9 f09 ne1
          walk_at "g"
          refine w_iteN (fun hne => ?_) (fun heq => ?_)
          · have lpos : 0 < ls.length := List.length_pos_iff.mpr hne
            have sp2 : sp < ps.length := by rw [lmap] at sp1; split at sp1 <;> omega
            walk_at "g"
            refine w_ixLR h0R sp0 sp2 (fun t1 ht1 => ?_)
            obtain ⟨l, hl2⟩ : ∃ l, ls[sp.toNat]? = some l := ⟨_, List.getElem?_eq_getElem (by omega)⟩
            have htup := hps0.2 _ t1 l ht1 hl2
            have hlb1 := hlb l (List.mem_of_getElem? hl2)
            walk_at "g"
            refine w_ixLR h0R sp0 sp2 (fun t2 ht2 => ?_)
            have e12 : t1 = t2 := by rw [ht1] at ht2; exact Option.some.inj ht2
            subst e12
            walk_at "g"
            rename_i pg npg rg kg Hg rg0 rg1 hkg hpg fg far hfar T nT
            have fsg : Fr [r] H0 Hg := (Fr.refl.new npg).trans fg
            have hRg := fsg.at (nn2 hRr) h0R
            have hLg := fsg.at (nn2 Lr) h0L
            have hpsg := hps0.frR hP0 fsg
            have f0g := f00.loc nr fsg
            refine w_setLR (at_upd hRg nT) sp0 (by omega) ?_
            walk_at "g"
            refine ⟨R, ps.set sp.toNat T, ls.set sp.toNat (l.1, l.2 + far), c, xs.sum + mo, rfl, upd_same, ((hpsg.fr (Fr.refl.new nT)).set (l := (l.1, l.2 + far)) _ upd_same).put (at_upd hRg nT), SChain.v (by rw [map_set_fst hl2]; exact hsch), c5, by omega, by omega, by rw [List.length_set]; omega, fun m hm => ?_, fun H10 f10 => ?_⟩
            · rcases List.mem_or_eq_of_mem_set hm with z | rfl
              · have := hlb m z
                omega
              · refine ⟨hlb1.1, ?_, ?_⟩
                · show -(2 ^ 100) < l.2 + far
                  omega
                · show l.2 + far < 2 ^ 100
                  omega
            walk_at "g"
            exact rest _ _ ⟨_, _, _, kg, rfl, ((hpg.new nT).put hRr).fr f10 List.not_mem_nil, by omega, ((f0g.new nT).put (.inl nR)).trans f10⟩
          · walk_at "g"
            refine ⟨R, ps, ls, c, xs.sum + mo, rfl, h0R, hps0, hvc, c5, by omega, by omega, by omega, fun l hl => by have := hlb l hl; omega, fun H10 f10 => ?_⟩
            walk_at "g"
            exact rest _ _ ⟨_, _, _, k9, rfl, hP0.fr f10 List.not_mem_nil, by omega, f00.trans f10⟩
        · walk_at "g"
          exact rest _ _ ⟨_, _, _, k4, rfl, hP4, by omega, f04⟩
      rintro σ' H5 ⟨o5, o6, o7, k5, rfl, hP5, hk5, f05⟩
      dsimp only
      clear hx lx5 nL Lr h4 hP4 f04
      walk_at "g"
      rename_i rm k6 H6 rn0 rn1 hk6 hP6 f6
      obtain ⟨e, he⟩ : ∃ e : Nat, 1 + rm = e := ⟨(1 + rm).toNat, by omega⟩
      rw [he]
      have e1 : 1 ≤ e := by omega
      have e8 : e ≤ 8 := by omega
      have d7 : 7 ≤ 60 / (e : Int) := by
        rw [Int.le_ediv_iff_mul_le (by omega)]
        omega
      have d60 : 60 / (e : Int) ≤ 60 := Int.ediv_le_self _ (by omega)
      have f06 := f05.loc nr f6
      clear f6 f05 hP5
      refine l_range (fun L i H' => ∃ (xs : List Int) (k' : Int), Rng H' r k' ∧ k' ≤ k6 + 2 * i ∧ Fr [r] H6 H' ∧ H' L = some (.lst (xs.map V.int)) ∧ xs.length = i ∧ ∀ x ∈ xs, 1 ≤ x ∧ x ≤ 60) (fun L hL => ⟨[], k6, hP6.new hL, by omega, Fr.refl.new hL, upd_same, rfl, by simp⟩) (fun L i H' hL hi h => ?_) (fun L H7 hL h => ?_)
      · obtain ⟨xs, k', g1, g2, g3, g4, g5, g6⟩ := h
        have Lr : L ≠ r := hP6.ne hL
        refine w_gname ⟨rfl, ?_⟩
        walk_at "g"
        rename_i p1 np1 y1 k1 H8 y10 y11 hk1 hP8 f8 n hn y2 k2 H9 y20 y21 hk2b hP9 f9
        exact ⟨xs ++ [1 + y2], k2, hP9.put Lr, by omega, ((g3.trans ((Fr.refl.new np1).trans f8)).trans f9).put (.inl hL), upd_same, by rw [List.length_append, g5]; rfl, mem_snoc g6 (by omega)⟩
      obtain ⟨xs, k7, hP7, hk7, f7, h7, lx, hx⟩ := h
      have Lr : L ≠ r := hP6.ne hL
      have nL : H L = none := f06.free List.not_mem_nil hL
      have f07 := f06.loc nr f7
      have lx5 : xs.length = e := by omega
      clear f7 f06 hP6 hL
      refine w_gname ?_
      dsimp only
      walk_at "g"
      refine ⟨r, k7, 5, 4, rfl, hP7, by omega, by omega, by omega, by omega, by omega, fun Z zs k5 H5 lz hsc hzb hk5 hP5 f5 nZ hZ => ?_⟩
      have hZr : Z ≠ r := hP7.ne nZ
      have h5 := f5.at (nn2 Lr) h7
      have f05 : Fr [] H H5 := f07.loc nr f5
      have hk5b : k5 ≤ k7 + 40 := by omega
      have lz5 : zs.length ≤ 5 := by omega
      clear f5 nZ lz hk5
      walk_at "g"
      refine l_list (zs.map V.int) (fun L2 j H' => ∃ ts : List Addr, Fr [] H5 H' ∧ H' L2 = some (.lst (ts.map V.ref)) ∧ PairsAt H' ts ((zs.take j).map fun w => (w, ct xs w)) ∧ ts.length = j) (fun L2 hL => ⟨[], Fr.refl.new hL, upd_same, .nil, rfl⟩) (fun L2 j H' _ _ h => .of (h.choose_spec.1.at0 hZ)) (fun L2 j x H' hL hx h => ?_) (fun R H6 hR h => ?_)
      · obtain ⟨ts, g1, g2, g3, g4⟩ := h
        obtain ⟨w', hw, rfl⟩ := map_at hx
        have hjl := (List.getElem?_eq_some_iff.mp hw).1
        have hwb := hzb w' (List.mem_of_getElem? hw)
        have tk : zs.take (j + 1) = zs.take j ++ [w'] := by rw [List.take_succ, hw]; rfl
        refine w_gname ⟨rfl, ?_⟩
        walk_at "g"
        refine ⟨L, xs, w', rfl, g1.at0 h5, by omega, by omega, by omega, fun H11 f11 => ?_⟩
        walk_at "g"
        rename_i T nT
        have g2' : upd H11 T (.tup [.int w', .int (ct xs w')]) L2 = some (.lst (ts.map V.ref)) := at_upd (f11.at0 g2) nT
        refine w_appER g2' (by omega) ⟨ts ++ [T], ((g1.trans f11).new nT).put (.inl hL), upd_same, ?_, len_snoc g4⟩
        have et : ((zs.take j ++ [w']).map fun w => (w, ct xs w)) = ((zs.take j).map fun w => (w, ct xs w)) ++ [(w', ct xs w')] := by simp
        rw [tk, et]
        exact (((g3.fr f11).fr (Fr.refl.new nT)).snoc (l := (w', ct xs w')) upd_same).put g2'
      obtain ⟨ps, f6, h6, hps6, g4⟩ := h
      rw [List.length_map] at g4
      rw [List.length_map, List.take_length] at hps6
      have hP6 : Rng H6 r k5 := hP5.fr f6 List.not_mem_nil
      have h6L := f6.at0 h5
      have f06 : Fr [] H H6 := f05.trans f6
      have hRr : R ≠ r := hP5.ne hR
      have nR : H R = none := f05.free List.not_mem_nil hR
      have RL : L ≠ R := ne_of_none h5 hR
      clear f6 f05 hP5 h5 hZ hR
      have hfp := fl_pos (zs := zs) (fun x hx' => (hx x hx').1)
      obtain ⟨ls, hls⟩ : ∃ ls, ls = zs.map fun w => (w, ct xs w) := ⟨_, rfl⟩
      rw [← hls] at hps6 hfp
      have lls : ls.length ≤ 5 := by rw [hls, List.length_map]; exact lz5
      have hsch : SChain 0 (ls.map Prod.fst) := by
        rw [hls, List.map_map]
        have : (Prod.fst ∘ fun w => (w, ct xs w)) = (id : Int → Int) := rfl
        rw [this, List.map_id]
        exact hsc
      have hvc : VChain 0 ls := hsch.v
      have hlb : ∀ l ∈ ls, l.1 < 2 ^ 110 ∧ -(2 ^ 98) < l.2 ∧ l.2 < 2 ^ 98 := by
        intro l hl
        rw [hls] at hl
        obtain ⟨w', hw', rfl⟩ := List.mem_map.mp hl
        have b1 := hzb w' hw'
        have b2 := ct_range b1.1 hx
        refine ⟨by show w' < 2 ^ 110; omega, ?_, ?_⟩
        · show -(2 ^ 98) < ct xs w'
          omega
        · show ct xs w' < 2 ^ 98
          omega
      clear hsc hzb g4 hls
      have hsl := sum_len (fun x hx' => (hx x hx').1)
      refine w_gname ?_
      dsimp only
      walk_at "g"
      refine w_ite (fun h60 => ?_) (fun _ => ?_)
      · walk_at "g"
        refine ⟨r, R, k5, ps, ls, e, xs.sum, rfl, hP6, by omega, h6, hps6, hvc, e8, by omega, h60, by omega, fun l hl => by have := hlb l hl; omega, by rw [← lx5]; exact hfp, fun k8 H8 hP8 hk8 f8 => ?_⟩
        walk_at "g"
        exact ⟨_, _, _, _, _, _, k8, rfl, hP8, by omega, f06.loc nr f8⟩
      · walk_at "g"
        exact ⟨_, _, _, _, _, _, k5, rfl, hP6, by omega, f06⟩
    · rintro σ' H2 ⟨o2, o3, o4, o5, o6, o7, k, rfl, hP2, hk2, f2⟩
      walk_at "g"
      rename_i t1 nt1 l1 nl1
      have v1 : VChain 0 [((2 : Int), (5 : Int))] := ⟨by decide, fun z => absurd z (by decide), trivial⟩
      have c1 : cnt 2 4 [((2 : Int), (5 : Int))] = 0 := by rw [← fl_len v1.chain]; decide +kernel
      refine ⟨l1, [t1], [(2, 5)], 2, 4, 0, rfl, upd_same, (PairsAt.nil.snoc (l := (2, 5)) upd_same).fr (Fr.refl.new nl1), v1, ⟨by decide, by decide, by decide, by decide, by decide, by decide⟩, by rw [c1]; decide, by decide, fun H3 f3 => ?_⟩
      walk_at "g"
      rename_i l2 nl2
      have c2 : cnt 3 2 [] = 0 := by decide
      refine ⟨l2, [], [], 3, 2, 0, rfl, upd_same, .nil, trivial, ⟨by decide, by decide, by decide, by decide, by decide, by simp⟩, by rw [c2]; decide, by decide, fun H4 f4 => ?_⟩
      walk_at "g"
      rename_i t3 nt3 l3 nl3
      have v3 : VChain 0 [((1 : Int), (1 : Int))] := ⟨by decide, fun z => absurd z (by decide), trivial⟩
      have c3 : cnt 0 0 [((1 : Int), (1 : Int))] = 0 := by rw [← fl_len v3.chain]; decide +kernel
      refine ⟨l3, [t3], [(1, 1)], 0, 0, 0, rfl, upd_same, (PairsAt.nil.snoc (l := (1, 1)) upd_same).fr (Fr.refl.new nl3), v3, ⟨by decide, by decide, by decide, by decide, by decide, by decide⟩, by rw [c3]; decide, by decide, fun H5 f5 => ?_⟩
      walk_at "g"
      rename_i t4 nt4 l4 nl4
      have v4 : VChain 0 [((2 : Int), (3 : Int))] := ⟨by decide, fun z => absurd z (by decide), trivial⟩
      have e4 : (fl 2 4 [((2 : Int), (3 : Int))])[1]? = some [3, 1] := by decide +kernel
      refine nth_go (m := 2) (i := 1) (ls := [(2, 3)]) (ps := [t4]) upd_same ((PairsAt.nil.snoc (l := (2, 3)) upd_same).fr (Fr.refl.new nl4)) v4 ⟨by decide, by decide, by decide, by decide, by decide, by decide⟩ e4 (fun r6 H6 f6 nr6 hr6 => ?_)
      walk_at "g"
      rename_i l5 nl5
      refine w_eqLI (ns := [3, 1]) (ms := [3, 1]) (SqL.of (at_upd hr6 nl5)) (SqL.of upd_same) ?_
      rw [decide_eq_true rfl]
      walk_at "g"
      rename_i l6 nl6
      have e6 : (fl 0 0 [])[0]? = some [] := by decide +kernel
      refine nth_go (m := 0) (i := 0) (ls := []) (ps := []) upd_same .nil trivial ⟨by decide, by decide, by decide, by decide, by decide, by simp⟩ e6 (fun r7 H7 f7 nr7 hr7 => ?_)
      walk_at "g"
      rw [decide_eq_true rfl]
      exact q _
end
/-! ### the end -/
theorem all_mk {l : PySem.W.OpenLaw} {w : World} {K : PySem.W.Frag} {h : Heap} {mg : Str → Option Value} {fa : Addr} (X : K.In h) (G : h.Ns mainGlobals mg) (hfa : mg "law" = some (.ref fa))
    {C_InvalidChain : Addr}
    {C_InvalidNumber : Addr}
    {C_BookError : Addr}
    {f1 : Addr} {od1 an1 : Option Addr} {sl1 : Array (Option Value)} {oc1 kV1 dc1 pm1 cd1 ct1 : Value}
    {f2 : Addr} {od2 an2 : Option Addr} {sl2 : Array (Option Value)} {oc2 kV2 dc2 pm2 cd2 ct2 : Value}
    {f3 : Addr} {od3 an3 : Option Addr} {sl3 : Array (Option Value)} {oc3 kV3 dc3 pm3 cd3 ct3 : Value}
    {f4 : Addr} {od4 an4 : Option Addr} {sl4 : Array (Option Value)} {oc4 kV4 dc4 pm4 cd4 ct4 : Value}
    {f5 : Addr} {od5 an5 : Option Addr} {sl5 : Array (Option Value)} {oc5 kV5 dc5 pm5 cd5 ct5 : Value}
    {f6 : Addr} {od6 an6 : Option Addr} {sl6 : Array (Option Value)} {oc6 kV6 dc6 pm6 cd6 ct6 : Value}
    {f7 : Addr} {od7 an7 : Option Addr} {sl7 : Array (Option Value)} {oc7 kV7 dc7 pm7 cd7 ct7 : Value}
    {f8 : Addr} {od8 an8 : Option Addr} {sl8 : Array (Option Value)} {oc8 kV8 dc8 pm8 cd8 ct8 : Value}
    {f9 : Addr} {od9 an9 : Option Addr} {sl9 : Array (Option Value)} {oc9 kV9 dc9 pm9 cd9 ct9 : Value}
    {f10 : Addr} {od10 an10 : Option Addr} {sl10 : Array (Option Value)} {oc10 kV10 dc10 pm10 cd10 ct10 : Value}
    {f11 : Addr} {od11 an11 : Option Addr} {sl11 : Array (Option Value)} {oc11 kV11 dc11 pm11 cd11 ct11 : Value}
    {f12 : Addr} {od12 an12 : Option Addr} {sl12 : Array (Option Value)} {oc12 kV12 dc12 pm12 cd12 ct12 : Value}
    {f13 : Addr} {od13 an13 : Option Addr} {sl13 : Array (Option Value)} {oc13 kV13 dc13 pm13 cd13 ct13 : Value}
    {f14 : Addr} {od14 an14 : Option Addr} {sl14 : Array (Option Value)} {oc14 kV14 dc14 pm14 cd14 ct14 : Value}
    {f15 : Addr} {od15 an15 : Option Addr} {sl15 : Array (Option Value)} {oc15 kV15 dc15 pm15 cd15 ct15 : Value}
    {f16 : Addr} {od16 an16 : Option Addr} {sl16 : Array (Option Value)} {oc16 kV16 dc16 pm16 cd16 ct16 : Value}
    {f17 : Addr} {od17 an17 : Option Addr} {sl17 : Array (Option Value)} {oc17 kV17 dc17 pm17 cd17 ct17 : Value}
    {f18 : Addr} {od18 an18 : Option Addr} {sl18 : Array (Option Value)} {oc18 kV18 dc18 pm18 cd18 ct18 : Value}
    {f19 : Addr} {od19 an19 : Option Addr} {sl19 : Array (Option Value)} {oc19 kV19 dc19 pm19 cd19 ct19 : Value}
    {nm_InvalidChain q_InvalidChain : Str} {N_InvalidChain : Addr} {bs_InvalidChain : List Value} {sn_InvalidChain : List Str} {sub_InvalidChain : List Value} {ab_InvalidChain : Bool} {col_InvalidChain : Option Bool} {dd_InvalidChain : Option Addr} {k0_InvalidChain k1_InvalidChain k2_InvalidChain k3_InvalidChain k5_InvalidChain : Option Value}
    {nm_InvalidNumber q_InvalidNumber : Str} {N_InvalidNumber : Addr} {bs_InvalidNumber : List Value} {sn_InvalidNumber : List Str} {sub_InvalidNumber : List Value} {ab_InvalidNumber : Bool} {col_InvalidNumber : Option Bool} {dd_InvalidNumber : Option Addr} {k0_InvalidNumber k1_InvalidNumber k2_InvalidNumber k3_InvalidNumber k5_InvalidNumber : Option Value}
    (aC_InvalidChain : PySem.W.nsIn K mainGlobals "InvalidChain" = some (some (.ref C_InvalidChain)))
    (aC_InvalidNumber : PySem.W.nsIn K mainGlobals "InvalidNumber" = some (some (.ref C_InvalidNumber)))
    (aC_BookError : PySem.W.nsIn K mainGlobals "BookError" = some (some (.ref C_BookError)))
    (a1 : PySem.W.nsIn K mainGlobals "_law_rng" = some (some (.ref f1)))
    (l1 : K.lookup f1 = some ⟨oc1, od1, .func (PySem.W.fnOf "_law_rng" "_law_rng" (defArgs s_law_rng) (defBody s_law_rng) (defScope s_law_rng) .none kV1 dc1 pm1 an1 cd1 ct1), sl1⟩)
    (c1 : PySem.W.codeIn K cd1 "_law_rng" = true)
    (k1 : PySem.W.keepIn K (.ref f1) = true)
    (a2 : PySem.W.nsIn K mainGlobals "_law_draw" = some (some (.ref f2)))
    (l2 : K.lookup f2 = some ⟨oc2, od2, .func (PySem.W.fnOf "_law_draw" "_law_draw" (defArgs s_law_draw) (defBody s_law_draw) (defScope s_law_draw) .none kV2 dc2 pm2 an2 cd2 ct2), sl2⟩)
    (c2 : PySem.W.codeIn K cd2 "_law_draw" = true)
    (k2 : PySem.W.keepIn K (.ref f2) = true)
    (a3 : PySem.W.findIn K (.ref C_InvalidNumber) "__init__" = some (some (.ref f3)))
    (i3 : PySem.W.isFn K (.ref f3) = true)
    (l3 : K.lookup f3 = some ⟨oc3, od3, .func (PySem.W.fnOf "__init__" "InvalidNumber.__init__" (defArgs s_InvalidNumber___init__) (defBody s_InvalidNumber___init__) (defScope s_InvalidNumber___init__) .none kV3 dc3 pm3 an3 cd3 ct3), sl3⟩)
    (c3 : PySem.W.codeIn K cd3 "InvalidNumber.__init__" = true)
    (k3 : PySem.W.keepIn K (.ref f3) = true)
    (a4 : PySem.W.findIn K (.ref C_InvalidChain) "__init__" = some (some (.ref f4)))
    (i4 : PySem.W.isFn K (.ref f4) = true)
    (l4 : K.lookup f4 = some ⟨oc4, od4, .func (PySem.W.fnOf "__init__" "InvalidChain.__init__" (defArgs s_InvalidChain___init__) (defBody s_InvalidChain___init__) (defScope s_InvalidChain___init__) .none kV4 dc4 pm4 an4 cd4 ct4), sl4⟩)
    (c4 : PySem.W.codeIn K cd4 "InvalidChain.__init__" = true)
    (k4 : PySem.W.keepIn K (.ref f4) = true)
    (a5 : PySem.W.nsIn K mainGlobals "_law_counted" = some (some (.ref f5)))
    (l5 : K.lookup f5 = some ⟨oc5, od5, .func (PySem.W.fnOf "_law_counted" "_law_counted" (defArgs s_law_counted) (defBody s_law_counted) (defScope s_law_counted) .none kV5 dc5 pm5 an5 cd5 ct5), sl5⟩)
    (c5 : PySem.W.codeIn K cd5 "_law_counted" = true)
    (k5 : PySem.W.keepIn K (.ref f5) = true)
    (a6 : PySem.W.nsIn K mainGlobals "binomial" = some (some (.ref f6)))
    (l6 : K.lookup f6 = some ⟨oc6, od6, .func (PySem.W.fnOf "binomial" "binomial" (defArgs s_binomial) (defBody s_binomial) (defScope s_binomial) .none kV6 dc6 pm6 an6 cd6 ct6), sl6⟩)
    (c6 : PySem.W.codeIn K cd6 "binomial" = true)
    (k6 : PySem.W.keepIn K (.ref f6) = true)
    (a7 : PySem.W.nsIn K mainGlobals "sums_of_digits" = some (some (.ref f7)))
    (l7 : K.lookup f7 = some ⟨oc7, od7, .func (PySem.W.fnOf "sums_of_digits" "sums_of_digits" (defArgs s_sums_of_digits) (defBody s_sums_of_digits) (defScope s_sums_of_digits) .none kV7 dc7 pm7 an7 cd7 ct7), sl7⟩)
    (c7 : PySem.W.codeIn K cd7 "sums_of_digits" = true)
    (k7 : PySem.W.keepIn K (.ref f7) = true)
    (a8 : PySem.W.nsIn K mainGlobals "count_of" = some (some (.ref f8)))
    (l8 : K.lookup f8 = some ⟨oc8, od8, .func (PySem.W.fnOf "count_of" "count_of" (defArgs s_count_of) (defBody s_count_of) (defScope s_count_of) .none kV8 dc8 pm8 an8 cd8 ct8), sl8⟩)
    (c8 : PySem.W.codeIn K cd8 "count_of" = true)
    (k8 : PySem.W.keepIn K (.ref f8) = true)
    (a9 : PySem.W.nsIn K mainGlobals "_law_sizes" = some (some (.ref f9)))
    (l9 : K.lookup f9 = some ⟨oc9, od9, .func (PySem.W.fnOf "_law_sizes" "_law_sizes" (defArgs s_law_sizes) (defBody s_law_sizes) (defScope s_law_sizes) .none kV9 dc9 pm9 an9 cd9 ct9), sl9⟩)
    (c9 : PySem.W.codeIn K cd9 "_law_sizes" = true)
    (k9 : PySem.W.keepIn K (.ref f9) = true)
    (a10 : PySem.W.nsIn K mainGlobals "without" = some (some (.ref f10)))
    (l10 : K.lookup f10 = some ⟨oc10, od10, .func (PySem.W.fnOf "without" "without" (defArgs s_without) (defBody s_without) (defScope s_without) .none kV10 dc10 pm10 an10 cd10 ct10), sl10⟩)
    (c10 : PySem.W.codeIn K cd10 "without" = true)
    (k10 : PySem.W.keepIn K (.ref f10) = true)
    (a11 : PySem.W.nsIn K mainGlobals "check_fitting" = some (some (.ref f11)))
    (l11 : K.lookup f11 = some ⟨oc11, od11, .func (PySem.W.fnOf "check_fitting" "check_fitting" (defArgs s_check_fitting) (defBody s_check_fitting) (defScope s_check_fitting) .none kV11 dc11 pm11 an11 cd11 ct11), sl11⟩)
    (c11 : PySem.W.codeIn K cd11 "check_fitting" = true)
    (k11 : PySem.W.keepIn K (.ref f11) = true)
    (a12 : PySem.W.nsIn K mainGlobals "count_fitting" = some (some (.ref f12)))
    (l12 : K.lookup f12 = some ⟨oc12, od12, .func (PySem.W.fnOf "count_fitting" "count_fitting" (defArgs s_count_fitting) (defBody s_count_fitting) (defScope s_count_fitting) .none kV12 dc12 pm12 an12 cd12 ct12), sl12⟩)
    (c12 : PySem.W.codeIn K cd12 "count_fitting" = true)
    (k12 : PySem.W.keepIn K (.ref f12) = true)
    (a13 : PySem.W.nsIn K mainGlobals "nth_fitting" = some (some (.ref f13)))
    (l13 : K.lookup f13 = some ⟨oc13, od13, .func (PySem.W.fnOf "nth_fitting" "nth_fitting" (defArgs s_nth_fitting) (defBody s_nth_fitting) (defScope s_nth_fitting) .none kV13 dc13 pm13 an13 cd13 ct13), sl13⟩)
    (c13 : PySem.W.codeIn K cd13 "nth_fitting" = true)
    (k13 : PySem.W.keepIn K (.ref f13) = true)
    (a14 : PySem.W.nsIn K mainGlobals "_law_books" = some (some (.ref f14)))
    (l14 : K.lookup f14 = some ⟨oc14, od14, .func (PySem.W.fnOf "_law_books" "_law_books" (defArgs s_law_books) (defBody s_law_books) (defScope s_law_books) .none kV14 dc14 pm14 an14 cd14 ct14), sl14⟩)
    (c14 : PySem.W.codeIn K cd14 "_law_books" = true)
    (k14 : PySem.W.keepIn K (.ref f14) = true)
    (a15 : PySem.W.nsIn K mainGlobals "_law_fits" = some (some (.ref f15)))
    (l15 : K.lookup f15 = some ⟨oc15, od15, .func (PySem.W.fnOf "_law_fits" "_law_fits" (defArgs s_law_fits) (defBody s_law_fits) (defScope s_law_fits) .none kV15 dc15 pm15 an15 cd15 ct15), sl15⟩)
    (c15 : PySem.W.codeIn K cd15 "_law_fits" = true)
    (k15 : PySem.W.keepIn K (.ref f15) = true)
    (a16 : PySem.W.nsIn K mainGlobals "_law_refused" = some (some (.ref f16)))
    (l16 : K.lookup f16 = some ⟨oc16, od16, .func (PySem.W.fnOf "_law_refused" "_law_refused" (defArgs s_law_refused) (defBody s_law_refused) (defScope s_law_refused) .none kV16 dc16 pm16 an16 cd16 ct16), sl16⟩)
    (c16 : PySem.W.codeIn K cd16 "_law_refused" = true)
    (k16 : PySem.W.keepIn K (.ref f16) = true)
    (a17 : PySem.W.nsIn K mainGlobals "_law_listed_right" = some (some (.ref f17)))
    (l17 : K.lookup f17 = some ⟨oc17, od17, .func (PySem.W.fnOf "_law_listed_right" "_law_listed_right" (defArgs s_law_listed_right) (defBody s_law_listed_right) (defScope s_law_listed_right) .none kV17 dc17 pm17 an17 cd17 ct17), sl17⟩)
    (c17 : PySem.W.codeIn K cd17 "_law_listed_right" = true)
    (k17 : PySem.W.keepIn K (.ref f17) = true)
    (a18 : PySem.W.nsIn K mainGlobals "_law_drawn_right" = some (some (.ref f18)))
    (l18 : K.lookup f18 = some ⟨oc18, od18, .func (PySem.W.fnOf "_law_drawn_right" "_law_drawn_right" (defArgs s_law_drawn_right) (defBody s_law_drawn_right) (defScope s_law_drawn_right) .none kV18 dc18 pm18 an18 cd18 ct18), sl18⟩)
    (c18 : PySem.W.codeIn K cd18 "_law_drawn_right" = true)
    (k18 : PySem.W.keepIn K (.ref f18) = true)
    (a19 : PySem.W.nsIn K mainGlobals "law" = some (some (.ref f19)))
    (l19 : K.lookup f19 = some ⟨oc19, od19, .func (PySem.W.fnOf "law" "law" (defArgs s_law) (defBody s_law) (defScope s_law) .none kV19 dc19 pm19 an19 cd19 ct19), sl19⟩)
    (c19 : PySem.W.codeIn K cd19 "law" = true)
    (k19 : PySem.W.keepIn K (.ref f19) = true)
    (z_abs : PySem.W.nsIn K mainGlobals "abs" = some none)
    (z_all : PySem.W.nsIn K mainGlobals "all" = some none)
    (z_enumerate : PySem.W.nsIn K mainGlobals "enumerate" = some none)
    (z_int : PySem.W.nsIn K mainGlobals "int" = some none)
    (z_len : PySem.W.nsIn K mainGlobals "len" = some none)
    (z_max : PySem.W.nsIn K mainGlobals "max" = some none)
    (z_min : PySem.W.nsIn K mainGlobals "min" = some none)
    (z_range : PySem.W.nsIn K mainGlobals "range" = some none)
    (z_repr : PySem.W.nsIn K mainGlobals "repr" = some none)
    (z_reversed : PySem.W.nsIn K mainGlobals "reversed" = some none)
    (z_sorted : PySem.W.nsIn K mainGlobals "sorted" = some none)
    (z_sum : PySem.W.nsIn K mainGlobals "sum" = some none)
    (rd_B : PySem.W.readsIn K C_BookError (.type "type") = true)
    (ga_B : PySem.W.specialIn K (.ref C_BookError) "__getattribute__" = some (some (.builtin "type.__getattribute__")))
    (fi_B : PySem.W.findCls K (.ref C_BookError) (.type "type") "__init__" = some (.val (.builtin "ValueError.__init__")))
    (hd_B : PySem.W.hasDictIn K C_BookError = true)
    (ty_B : PySem.W.typeIn K (.ref C_BookError) = some (.type "type"))
    (xe_B : PySem.W.subIn K (.ref C_BookError) (.type "BaseException") = some true)
    (cn_B : PySem.W.specialIn K (.builtin "object.__class__") "__get__" = some (some (.builtin "getset_descriptor.__get__")))
    (ct_B : PySem.W.takesIn K (.builtin "object.__class__") = some true)
    (xl_InvalidChain : K.lookup C_InvalidChain = some (excClassObj nm_InvalidChain q_InvalidChain C_InvalidChain N_InvalidChain bs_InvalidChain [.ref C_BookError, .type "ValueError", .type "Exception", .type "BaseException", .type "object"] true sn_InvalidChain sub_InvalidChain ab_InvalidChain col_InvalidChain dd_InvalidChain k0_InvalidChain k1_InvalidChain k2_InvalidChain k3_InvalidChain k5_InvalidChain "ValueError.__new__"))
    (xkp_InvalidChain : PySem.W.keepIn K (.ref C_InvalidChain) = true)
    (xsa_InvalidChain : PySem.W.findIn K (.ref C_InvalidChain) "__setattr__" = some (some (.builtin "object.__setattr__")))
    (xex_InvalidChain : PySem.W.subIn K (.ref C_InvalidChain) (.type "BaseException") = some true)
    (xty_InvalidChain : PySem.W.typeIn K (.ref C_InvalidChain) = some (.type "type"))
    (xga_InvalidChain : PySem.W.findIn K (.ref C_InvalidChain) "__getattribute__" = some (some (.builtin "BaseException.__getattribute__")))
    (xgg_InvalidChain : PySem.W.findIn K (.ref C_InvalidChain) "__getattr__" = some none)
    (xhd_InvalidChain : PySem.W.hasDictIn K C_InvalidChain = true)
    (xcl_InvalidChain : PySem.W.findIn K (.ref C_InvalidChain) "__class__" = some (some (.builtin "object.__class__")))
    (xcm_InvalidChain : PySem.W.mroIn K C_InvalidChain (.type "object") = some true)
    (xno_InvalidChain : PySem.W.findIn K (.ref C_InvalidChain) "value" = some none)
    (xl_InvalidNumber : K.lookup C_InvalidNumber = some (excClassObj nm_InvalidNumber q_InvalidNumber C_InvalidNumber N_InvalidNumber bs_InvalidNumber [.ref C_BookError, .type "ValueError", .type "Exception", .type "BaseException", .type "object"] true sn_InvalidNumber sub_InvalidNumber ab_InvalidNumber col_InvalidNumber dd_InvalidNumber k0_InvalidNumber k1_InvalidNumber k2_InvalidNumber k3_InvalidNumber k5_InvalidNumber "ValueError.__new__"))
    (xkp_InvalidNumber : PySem.W.keepIn K (.ref C_InvalidNumber) = true)
    (xsa_InvalidNumber : PySem.W.findIn K (.ref C_InvalidNumber) "__setattr__" = some (some (.builtin "object.__setattr__")))
    (xex_InvalidNumber : PySem.W.subIn K (.ref C_InvalidNumber) (.type "BaseException") = some true)
    (xty_InvalidNumber : PySem.W.typeIn K (.ref C_InvalidNumber) = some (.type "type"))
    (xga_InvalidNumber : PySem.W.findIn K (.ref C_InvalidNumber) "__getattribute__" = some (some (.builtin "BaseException.__getattribute__")))
    (xgg_InvalidNumber : PySem.W.findIn K (.ref C_InvalidNumber) "__getattr__" = some none)
    (xhd_InvalidNumber : PySem.W.hasDictIn K C_InvalidNumber = true)
    (xcl_InvalidNumber : PySem.W.findIn K (.ref C_InvalidNumber) "__class__" = some (some (.builtin "object.__class__")))
    (xcm_InvalidNumber : PySem.W.mroIn K C_InvalidNumber (.type "object") = some true)
    (xno_InvalidNumber : PySem.W.findIn K (.ref C_InvalidNumber) "value" = some none)
    (sb_InvalidChain_InvalidChain : PySem.W.subIn K (.ref C_InvalidChain) (.ref C_InvalidChain) = some true)
    (sb_InvalidChain_InvalidNumber : PySem.W.subIn K (.ref C_InvalidChain) (.ref C_InvalidNumber) = some false)
    (sb_InvalidChain_BookError : PySem.W.subIn K (.ref C_InvalidChain) (.ref C_BookError) = some true)
    (sb_InvalidChain_ValueError : PySem.W.subIn K (.ref C_InvalidChain) (.type "ValueError") = some true)
    (sb_InvalidNumber_InvalidChain : PySem.W.subIn K (.ref C_InvalidNumber) (.ref C_InvalidChain) = some false)
    (sb_InvalidNumber_InvalidNumber : PySem.W.subIn K (.ref C_InvalidNumber) (.ref C_InvalidNumber) = some true)
    (sb_InvalidNumber_BookError : PySem.W.subIn K (.ref C_InvalidNumber) (.ref C_BookError) = some true)
    (sb_InvalidNumber_ValueError : PySem.W.subIn K (.ref C_InvalidNumber) (.type "ValueError") = some true) :
    ∃ fd : FuncData, (∀ (s : Shared) (v : Value), BindsTo s fd ⟨[v], []⟩ [("script", v)]) ∧ ∀ base : Heap, K.In base → base.Ns mainGlobals mg → FnG l.prog w K mg base 9 fa fd ["script"] (spLaw K) := by
  have T : Txt K mg ⟨C_InvalidChain, C_InvalidNumber, C_BookError, ()⟩ := ⟨trivial,
    PySem.W.mg_none_of X G z_abs,
    PySem.W.mg_none_of X G z_all,
    PySem.W.mg_none_of X G z_enumerate,
    PySem.W.mg_none_of X G z_int,
    PySem.W.mg_none_of X G z_len,
    PySem.W.mg_none_of X G z_max,
    PySem.W.mg_none_of X G z_min,
    PySem.W.mg_none_of X G z_range,
    PySem.W.mg_none_of X G z_repr,
    PySem.W.mg_none_of X G z_reversed,
    PySem.W.mg_none_of X G z_sorted,
    PySem.W.mg_none_of X G z_sum,
    ⟨PySem.W.mg_of X G aC_BookError, rd_B, ga_B, fi_B⟩,
    hd_B,
    ty_B,
    xe_B,
    ⟨PySem.W.mg_of X G aC_InvalidChain, xkp_InvalidChain, ⟨⟨_, _, _, _, _, _, _, _, _, _, _, _, _, _, _, xl_InvalidChain, by rfl⟩, xsa_InvalidChain, xex_InvalidChain, xty_InvalidChain, xkp_InvalidChain⟩, xga_InvalidChain, xgg_InvalidChain, xhd_InvalidChain, xcl_InvalidChain, cn_B, ct_B, xcm_InvalidChain, xno_InvalidChain⟩,
    ⟨PySem.W.mg_of X G aC_InvalidNumber, xkp_InvalidNumber, ⟨⟨_, _, _, _, _, _, _, _, _, _, _, _, _, _, _, xl_InvalidNumber, by rfl⟩, xsa_InvalidNumber, xex_InvalidNumber, xty_InvalidNumber, xkp_InvalidNumber⟩, xga_InvalidNumber, xgg_InvalidNumber, xhd_InvalidNumber, xcl_InvalidNumber, cn_B, ct_B, xcm_InvalidNumber, xno_InvalidNumber⟩,
    sb_InvalidChain_InvalidChain,
    sb_InvalidChain_InvalidNumber,
    sb_InvalidChain_BookError,
    sb_InvalidChain_ValueError,
    sb_InvalidNumber_InvalidChain,
    sb_InvalidNumber_InvalidNumber,
    sb_InvalidNumber_BookError,
    sb_InvalidNumber_ValueError,
    ⟨⟨_, _, PySem.W.mg_of X G a1, fun_mk (st := s_law_rng) l1 c1 k1⟩⟩,
    ⟨⟨_, _, PySem.W.mg_of X G a2, fun_mk (st := s_law_draw) l2 c2 k2⟩⟩,
    ⟨⟨_, _, ⟨a3, i3, k3⟩, fun_mk (st := s_InvalidNumber___init__) l3 c3 k3⟩⟩,
    ⟨⟨_, _, ⟨a4, i4, k4⟩, fun_mk (st := s_InvalidChain___init__) l4 c4 k4⟩⟩,
    ⟨⟨_, _, PySem.W.mg_of X G a5, fun_mk (st := s_law_counted) l5 c5 k5⟩⟩,
    ⟨⟨_, _, PySem.W.mg_of X G a6, fun_mk (st := s_binomial) l6 c6 k6⟩⟩,
    ⟨⟨_, _, PySem.W.mg_of X G a7, fun_mk (st := s_sums_of_digits) l7 c7 k7⟩⟩,
    ⟨⟨_, _, PySem.W.mg_of X G a8, fun_mk (st := s_count_of) l8 c8 k8⟩⟩,
    ⟨⟨_, _, PySem.W.mg_of X G a9, fun_mk (st := s_law_sizes) l9 c9 k9⟩⟩,
    ⟨⟨_, _, PySem.W.mg_of X G a10, fun_mk (st := s_without) l10 c10 k10⟩⟩,
    ⟨⟨_, _, PySem.W.mg_of X G a11, fun_mk (st := s_check_fitting) l11 c11 k11⟩⟩,
    ⟨⟨_, _, PySem.W.mg_of X G a12, fun_mk (st := s_count_fitting) l12 c12 k12⟩⟩,
    ⟨⟨_, _, PySem.W.mg_of X G a13, fun_mk (st := s_nth_fitting) l13 c13 k13⟩⟩,
    ⟨⟨_, _, PySem.W.mg_of X G a14, fun_mk (st := s_law_books) l14 c14 k14⟩⟩,
    ⟨⟨_, _, PySem.W.mg_of X G a15, fun_mk (st := s_law_fits) l15 c15 k15⟩⟩,
    ⟨⟨_, _, PySem.W.mg_of X G a16, fun_mk (st := s_law_refused) l16 c16 k16⟩⟩,
    ⟨⟨_, _, PySem.W.mg_of X G a17, fun_mk (st := s_law_listed_right) l17 c17 k17⟩⟩,
    ⟨⟨_, _, PySem.W.mg_of X G a18, fun_mk (st := s_law_drawn_right) l18 c18 k18⟩⟩,
    ⟨⟨_, _, PySem.W.mg_of X G a19, fun_mk (st := s_law) l19 c19 k19⟩⟩⟩
  have e := hfa.symm.trans (PySem.W.mg_of X G a19)
  cases e
  refine ⟨PySem.W.fnOf "law" "law" (defArgs s_law) (defBody s_law) (defScope s_law) .none kV19 dc19 pm19 an19 cd19 ct19, fun s v => .of_eq rfl, fun base _ _ => ?_⟩
  obtain ⟨f, fd, hm, F, O, B⟩ := (ok_law (P := l.prog) (w := w) (base := base) T).ex
  have e2 := hm.symm.trans (PySem.W.mg_of X G a19)
  cases e2
  obtain ⟨oc, od, kV, doc, pm, an, cdv, ct, osl, rfl, lk, hcd⟩ := F.ex
  have e3 := lk.symm.trans l19
  cases e3
  exact O
theorem walk {l : PySem.W.OpenLaw} {q : Program} {loose : List Str} {XP : (Str → Option Value) → Heap → Prop} {YP : World → Heap → Prop} {d : DefRec} {K : Params → PySem.W.Frag} (hn : l.most = some 63) (hdf : d.params.defaults = [])
    (hY : ∀ (w : World) (h : Heap), YP w h → (K w.params).In h)
    (F : ∀ (w : World) (mg : Str → Option Value) (fa : Addr) (h : Heap), (K w.params).In h → h.Ns mainGlobals mg → mg d.name = some (.ref fa) →
      ∃ fd : FuncData, (∀ (s : Shared) (u : Value), BindsTo s fd ⟨[u], []⟩ [("script", u)]) ∧ ∀ base : Heap, (K w.params).In base → base.Ns mainGlobals mg → FnG l.prog w (K w.params) mg base 9 fa fd ["script"] (spLaw (K w.params))) :
    PySem.W.WalkO q loose XP YP l.row.toRowW d [] (fun f vs => PySem.call f vs) :=
  walk_G (n := 63) (k := 9) (x := "script") (sp := fun w => spLaw (K w.params)) hn (by decide) hdf ⟨rfl, by decide, by decide⟩ hY F (fun _ _ a ns hl hz hS => ⟨a, ns, rfl, hS, hl, hz, fun _ => rfl⟩)
end K20
open PySem PySem.W PyProof.Rows
set_option maxRecDepth 100000 in
set_option maxHeartbeats 0 in
theorem PySem.Challenge.cw_pagecounts_k20_fitting_books_numbered_holds : PySem.Challenge.rw_pagecounts_k20_fitting_books_numbered.Holds := by
  w_on; o_law; k_head; (case hw => w_witness2)
  k_fill
  refine K20.walk (l := PySem.Challenge.rw_pagecounts_k20_fitting_books_numbered) rfl rfl (fun w h Y => PySem.W.kIn_of Y) ?F
  case F =>
    intro w mg fa h KX G hmg
    refine' K20.all_mk KX G hmg ?aC_InvalidChain ?aC_InvalidNumber ?aC_BookError ?a1 ?l1 ?c1 ?k1 ?a2 ?l2 ?c2 ?k2 ?a3 ?i3 ?l3 ?c3 ?k3 ?a4 ?i4 ?l4 ?c4 ?k4 ?a5 ?l5 ?c5 ?k5 ?a6 ?l6 ?c6 ?k6 ?a7 ?l7 ?c7 ?k7 ?a8 ?l8 ?c8 ?k8 ?a9 ?l9 ?c9 ?k9 ?a10 ?l10 ?c10 ?k10 ?a11 ?l11 ?c11 ?k11 ?a12 ?l12 ?c12 ?k12 ?a13 ?l13 ?c13 ?k13 ?a14 ?l14 ?c14 ?k14 ?a15 ?l15 ?c15 ?k15 ?a16 ?l16 ?c16 ?k16 ?a17 ?l17 ?c17 ?k17 ?a18 ?l18 ?c18 ?k18 ?a19 ?l19 ?c19 ?k19 ?z_abs ?z_all ?z_enumerate ?z_int ?z_len ?z_max ?z_min ?z_range ?z_repr ?z_reversed ?z_sorted ?z_sum ?rd_B ?ga_B ?fi_B ?hd_B ?ty_B ?xe_B ?cn_B ?ct_B ?xl_InvalidChain ?xkp_InvalidChain ?xsa_InvalidChain ?xex_InvalidChain ?xty_InvalidChain ?xga_InvalidChain ?xgg_InvalidChain ?xhd_InvalidChain ?xcl_InvalidChain ?xcm_InvalidChain ?xno_InvalidChain ?xl_InvalidNumber ?xkp_InvalidNumber ?xsa_InvalidNumber ?xex_InvalidNumber ?xty_InvalidNumber ?xga_InvalidNumber ?xgg_InvalidNumber ?xhd_InvalidNumber ?xcl_InvalidNumber ?xcm_InvalidNumber ?xno_InvalidNumber ?sb_InvalidChain_InvalidChain ?sb_InvalidChain_InvalidNumber ?sb_InvalidChain_BookError ?sb_InvalidChain_ValueError ?sb_InvalidNumber_InvalidChain ?sb_InvalidNumber_InvalidNumber ?sb_InvalidNumber_BookError ?sb_InvalidNumber_ValueError
    (case aC_InvalidChain => k_is)
    (case aC_InvalidNumber => k_is)
    (case aC_BookError => k_is)
    (case a1 => k_is)
    (case l1 => k_is)
    (case c1 => k_is)
    (case k1 => k_is)
    (case a2 => k_is)
    (case l2 => k_is)
    (case c2 => k_is)
    (case k2 => k_is)
    (case a3 => k_is)
    (case i3 => k_is)
    (case l3 => k_is)
    (case c3 => k_is)
    (case k3 => k_is)
    (case a4 => k_is)
    (case i4 => k_is)
    (case l4 => k_is)
    (case c4 => k_is)
    (case k4 => k_is)
    (case a5 => k_is)
    (case l5 => k_is)
    (case c5 => k_is)
    (case k5 => k_is)
    (case a6 => k_is)
    (case l6 => k_is)
    (case c6 => k_is)
    (case k6 => k_is)
    (case a7 => k_is)
    (case l7 => k_is)
    (case c7 => k_is)
    (case k7 => k_is)
    (case a8 => k_is)
    (case l8 => k_is)
    (case c8 => k_is)
    (case k8 => k_is)
    (case a9 => k_is)
    (case l9 => k_is)
    (case c9 => k_is)
    (case k9 => k_is)
    (case a10 => k_is)
    (case l10 => k_is)
    (case c10 => k_is)
    (case k10 => k_is)
    (case a11 => k_is)
    (case l11 => k_is)
    (case c11 => k_is)
    (case k11 => k_is)
    (case a12 => k_is)
    (case l12 => k_is)
    (case c12 => k_is)
    (case k12 => k_is)
    (case a13 => k_is)
    (case l13 => k_is)
    (case c13 => k_is)
    (case k13 => k_is)
    (case a14 => k_is)
    (case l14 => k_is)
    (case c14 => k_is)
    (case k14 => k_is)
    (case a15 => k_is)
    (case l15 => k_is)
    (case c15 => k_is)
    (case k15 => k_is)
    (case a16 => k_is)
    (case l16 => k_is)
    (case c16 => k_is)
    (case k16 => k_is)
    (case a17 => k_is)
    (case l17 => k_is)
    (case c17 => k_is)
    (case k17 => k_is)
    (case a18 => k_is)
    (case l18 => k_is)
    (case c18 => k_is)
    (case k18 => k_is)
    (case a19 => k_is)
    (case l19 => k_is)
    (case c19 => k_is)
    (case k19 => k_is)
    (case z_abs => k_is)
    (case z_all => k_is)
    (case z_enumerate => k_is)
    (case z_int => k_is)
    (case z_len => k_is)
    (case z_max => k_is)
    (case z_min => k_is)
    (case z_range => k_is)
    (case z_repr => k_is)
    (case z_reversed => k_is)
    (case z_sorted => k_is)
    (case z_sum => k_is)
    (case rd_B => k_is)
    (case ga_B => k_is)
    (case fi_B => k_is)
    (case hd_B => k_is)
    (case ty_B => k_is)
    (case xe_B => k_is)
    (case cn_B => k_is)
    (case ct_B => k_is)
    (case xl_InvalidChain => k_is)
    (case xkp_InvalidChain => k_is)
    (case xsa_InvalidChain => k_is)
    (case xex_InvalidChain => k_is)
    (case xty_InvalidChain => k_is)
    (case xga_InvalidChain => k_is)
    (case xgg_InvalidChain => k_is)
    (case xhd_InvalidChain => k_is)
    (case xcl_InvalidChain => k_is)
    (case xcm_InvalidChain => k_is)
    (case xno_InvalidChain => k_is)
    (case xl_InvalidNumber => k_is)
    (case xkp_InvalidNumber => k_is)
    (case xsa_InvalidNumber => k_is)
    (case xex_InvalidNumber => k_is)
    (case xty_InvalidNumber => k_is)
    (case xga_InvalidNumber => k_is)
    (case xgg_InvalidNumber => k_is)
    (case xhd_InvalidNumber => k_is)
    (case xcl_InvalidNumber => k_is)
    (case xcm_InvalidNumber => k_is)
    (case xno_InvalidNumber => k_is)
    (case sb_InvalidChain_InvalidChain => k_is)
    (case sb_InvalidChain_InvalidNumber => k_is)
    (case sb_InvalidChain_BookError => k_is)
    (case sb_InvalidChain_ValueError => k_is)
    (case sb_InvalidNumber_InvalidChain => k_is)
    (case sb_InvalidNumber_InvalidNumber => k_is)
    (case sb_InvalidNumber_BookError => k_is)
    (case sb_InvalidNumber_ValueError => k_is)
