import PyProof.Rows.All
import Wide.All
import OpenK.AllK
import Wide.FinOn
import HandS.ForMost
import HandS.Wide
import HandS.SortInts
import HandS.SortKw
import HandS.Property
import HandS.IsInst
import HandS.RevRange
import HandS.Style
import HandS.Flow
import HandS.Defaults
import HandS.MakeKwOnly
import HandS.TryOnly
import HandS.Zip
import HandS.RaiseMore
import HandS.EndBits
import HandS.SetFor
import HandS.Steps
import HandS.Iter
import HandS.GenList
import HandS.Walk
import HandS.ExcInit
import HandS.ExcField
import HandS.ClsMeth
import HandS.WordsExc
import HandS.ExcOwn
import KE.KExcIs
import HandS.ExcIs
import HandS.Star
import HandS.MethStar
import HandS.GenYield
import KE.GoesZip
import PySem.Challenge.RW_pagecounts_k26_live_books_copy
set_option Elab.async false
set_option linter.all false
set_option maxRecDepth 100000
set_option maxHeartbeats 4000000
namespace Pg
open PySem PySem.Spec PyProof.Rows L2

/-! ### powers of great ints -/
def CPowW (i j : Int) : Prop := 0 ≤ j ∧ (i.natAbs.log2 + 1 : Int) * j ≤ 1000000
theorem CPowW.of {i j : Int} (b : Nat) (h0 : 0 ≤ j) (h1 : i.natAbs < 2 ^ b) (hb : 0 < b) (h : (b : Int) * j ≤ 1000000) : CPowW i j := by
  refine ⟨h0, ?_⟩
  have x := PySem.Flt.log2_lt_of hb h1
  have y : ((i.natAbs.log2 + 1 : Nat) : Int) ≤ (b : Int) := by omega
  have z : ((i.natAbs.log2 + 1 : Nat) : Int) * j ≤ (b : Int) * j := Int.mul_le_mul_of_nonneg_right y h0
  have e : ((i.natAbs.log2 + 1 : Nat) : Int) = (i.natAbs.log2 : Int) + 1 := by omega
  rw [e] at z
  exact Int.le_trans z h
section
variable {X : Cx}
theorem op_powW : OpR X (binaryOp .Pow) (rI CPowW fun i j => .int (i ^ j.toNat)) := opI fun i j _ _ _ _ _ hc q => by
  refine pow_int hc.1 ?_ q
  have b : Builtin.Int.intBits i ≤ i.natAbs.log2 + 1 := by
    unfold Builtin.Int.intBits
    split <;> omega
  have b' : ((Builtin.Int.intBits i : Nat) : Int) ≤ (i.natAbs.log2 : Int) + 1 := by omega
  have z := Int.mul_le_mul_of_nonneg_right b' hc.1
  have h2 := hc.2
  have e : (1000000 : Int) ≤ 2 ^ 27 := by decide
  exact Int.le_trans z (Int.le_trans h2 e)
end

/-! ### a def where it stands -/
structure DefAt (P : Program) (w : World) (K : PySem.W.Frag) (mg : Str → Option Value) (base : Heap) (x : Str) (st : Stmt) (k : Nat) (ps : List Str) (sp : Sp) : Prop where
  ex : ∃ f fd, mg x = some (.ref f) ∧ Fun K x x st f fd ∧ FnOk P w K mg base CX0 k f fd ps sp ∧ Binds K fd ps []
/-- a def of the text that stands at the module's name -/
structure FunAt (K : PySem.W.Frag) (mg : Str → Option Value) (x : Str) (st : Stmt) : Prop where
  ex : ∃ f fd, mg x = some (.ref f) ∧ Fun K x x st f fd
/-- a class with its __init__ -/
structure ClsAt (K : PySem.W.Frag) (mg : Str → Option Value) (x : Str) (C : Addr) : Prop where
  g : mg x = some (.ref C)
  c : Cls K C
  mks : PySem.W.makesIn K C = true
  kp : PySem.W.keepIn K (.ref C) = true
/-- a method of a class, as the text has it -/
structure MethAt (K : PySem.W.Frag) (C : Addr) (m qual : Str) (st : Stmt) : Prop where
  ex : ∃ f fd, Meth K C m f ∧ Fun K m qual st f fd
structure MDefAt (P : Program) (w : World) (K : PySem.W.Frag) (mg : Str → Option Value) (base : Heap) (C : Addr) (m qual : Str) (st : Stmt) (k : Nat) (ps : List Str) (sp : Sp) : Prop where
  ex : ∃ f fd, Meth K C m f ∧ Fun K m qual st f fd ∧ FnOk P w K mg base CX0 k f fd ps sp ∧ Binds K fd ps []
/-- a property of a class -/
structure PropAt (K : PySem.W.Frag) (C : Addr) (m qual : Str) (st : Stmt) : Prop where
  ex : ∃ p f fd, PropOf K C m p f ∧ Fun K m qual st f fd
structure PDefAt (P : Program) (w : World) (K : PySem.W.Frag) (mg : Str → Option Value) (base : Heap) (C : Addr) (m qual : Str) (st : Stmt) (k : Nat) (sp : Sp) : Prop where
  ex : ∃ p f fd, PropOf K C m p f ∧ Fun K m qual st f fd ∧ FnOk P w K mg base CX0 k f fd ["self"] sp ∧ Binds K fd ["self"] []

section
variable {P : Program} {w : World} {K : PySem.W.Frag} {mg : Str → Option Value} {base : Heap} {x m qual : Str} {st : Stmt} {k : Nat} {ps N : List Str} {sp : Sp} {C : Addr}
theorem FunAt.ok (F : FunAt K mg x st) (S : FnScope N ps (defScope st)) (len : ∀ vs H Q E, sp vs H Q E → vs.length = ps.length)
    (hb : ∀ (kV doc pm : Value) (an : Option Addr) (cdv ct : Value) (us : List Value), us.length = ps.length → bindArgs (PySem.W.fnOf x x (defArgs st) (defBody st) (defScope st) .none kV doc pm an cdv ct) ⟨us, []⟩ = pure (ps.zip us))
    (hbody : ∀ (f : Addr) (cdv : Value) (A : Around) (outer : List Env) (s : Shared) (H : Hp) (vs : List V) (Q : VK) (E : XK), Room k (A.deeper (envOfC x (defScope st) s.heap.objs.size f cdv)) → sp vs H Q E →
      ∃ t, PSs (cxOf CX0 P w K mg base N x (defScope st) f cdv A outer s H E).nox (defBody st) t ∧ t { nx := fun _ H' => Q .non H', rt := Q } (start N vs) H) : DefAt P w K mg base x st (k + 1) ps sp := by
  obtain ⟨f, fd, hm, F⟩ := F.ex
  exact ⟨f, fd, hm, F, F.ok S len (fun cdv A outer s H vs Q E hr h => hbody f cdv A outer s H vs Q E hr h), F.binds hb⟩
theorem MethAt.ok (F : MethAt K C m qual st) (S : FnScope N ps (defScope st)) (len : ∀ vs H Q E, sp vs H Q E → vs.length = ps.length)
    (hb : ∀ (kV doc pm : Value) (an : Option Addr) (cdv ct : Value) (us : List Value), us.length = ps.length → bindArgs (PySem.W.fnOf m qual (defArgs st) (defBody st) (defScope st) .none kV doc pm an cdv ct) ⟨us, []⟩ = pure (ps.zip us))
    (hbody : ∀ (f : Addr) (cdv : Value) (A : Around) (outer : List Env) (s : Shared) (H : Hp) (vs : List V) (Q : VK) (E : XK), Room k (A.deeper (envOfC qual (defScope st) s.heap.objs.size f cdv)) → sp vs H Q E →
      ∃ t, PSs (cxOf CX0 P w K mg base N qual (defScope st) f cdv A outer s H E).nox (defBody st) t ∧ t { nx := fun _ H' => Q .non H', rt := Q } (start N vs) H) : MDefAt P w K mg base C m qual st (k + 1) ps sp := by
  obtain ⟨f, fd, hm, F⟩ := F.ex
  exact ⟨f, fd, hm, F, F.ok S len (fun cdv A outer s H vs Q E hr h => hbody f cdv A outer s H vs Q E hr h), F.binds hb⟩
theorem PropAt.ok (F : PropAt K C m qual st) (S : FnScope N ["self"] (defScope st)) (len : ∀ vs H Q E, sp vs H Q E → vs.length = 1)
    (hb : ∀ (kV doc pm : Value) (an : Option Addr) (cdv ct : Value) (us : List Value), us.length = (["self"] : List Str).length → bindArgs (PySem.W.fnOf m qual (defArgs st) (defBody st) (defScope st) .none kV doc pm an cdv ct) ⟨us, []⟩ = pure ((["self"] : List Str).zip us))
    (hbody : ∀ (f : Addr) (cdv : Value) (A : Around) (outer : List Env) (s : Shared) (H : Hp) (vs : List V) (Q : VK) (E : XK), Room k (A.deeper (envOfC qual (defScope st) s.heap.objs.size f cdv)) → sp vs H Q E →
      ∃ t, PSs (cxOf CX0 P w K mg base N qual (defScope st) f cdv A outer s H E).nox (defBody st) t ∧ t { nx := fun _ H' => Q .non H', rt := Q } (start N vs) H) : PDefAt P w K mg base C m qual st (k + 1) sp := by
  obtain ⟨p, f, fd, hm, F⟩ := F.ex
  exact ⟨p, f, fd, hm, F, F.ok S len (fun cdv A outer s H vs Q E hr h => hbody f cdv A outer s H vs Q E hr h), F.binds hb⟩
end

section
variable {X : Cx} {x m qual : Str} {st : Stmt} {k n : Nat} {ps ks : List Str} {sp : Sp} {C : Addr} {e o : Expr} {es : List Expr} {kws : List Keyword} {t tk : TA} {ta : TE} {p pos apos : Pos}
theorem pe_callD (D : DefAt X.prog X.w X.K X.mg X.base x st k ps sp) (hr : Room k X.A) (ha : PA X (e :: es) t) (hg : Gl X x := by rfl)
    (hdb : (x == ("__debug__" : Str)) = false := by decide) (he : starEach (e :: es) X.env = (false, eval e X.env) :: starEach es X.env := by rfl) (hpl : (backTo pos (starEach es X.env)).any (·.1) = false := by rfl) :
    PE X (.Call (.Name x p) (e :: es) [] pos) (tCall sp [] E0 t) := by
  obtain ⟨f, fd, hm, F, G, b⟩ := D.ex
  exact pe_call G hr hg hm F.kp b .nil pass0 ha hdb he hpl
theorem pe_methD {pl : Sem Bool} (he : PE X o ta) (T : Cls X.K C) (D : MDefAt X.prog X.w X.K X.mg X.base C m qual st k ps sp) (hr : Room k X.A) (ha : PA X (e :: es) t)
    (hst : starEach (e :: es) X.env = (false, eval e X.env) :: starEach es X.env := by rfl) (hpl : (backTo pos (starEach es X.env)).any (·.1) = false := by rfl)
    (ht : eval (.Call (.Attribute o m apos) (e :: es) [] pos) X.env = (do
      let ov ← eval o X.env
      standAt apos.atName
      let (f, first) ← holding [ov] (getMethod ov m pl)
      callWith pos f first (backTo pos (starEach (e :: es) X.env)) (backToKw pos (keywordEach [] X.env))) := by rfl) :
    PE X (.Call (.Attribute o m apos) (e :: es) [] pos) (tMeth C m sp [] E0 ta t) := by
  obtain ⟨f, fd, hm, F, G, b⟩ := D.ex
  exact pe_meth he T hm G hr b .nil pass0 ha hst hpl ht
theorem pe_methD0 {pl : Sem Bool} (he : PE X o ta) (T : Cls X.K C) (D : MDefAt X.prog X.w X.K X.mg X.base C m qual st k ps sp) (hr : Room k X.A)
    (ht : eval (.Call (.Attribute o m apos) [] [] pos) X.env = (do
      let ov ← eval o X.env
      standAt apos.atName
      let (f, first) ← holding [ov] (getMethod ov m pl)
      callWith pos f first (backTo pos (starEach [] X.env)) (backToKw pos (keywordEach [] X.env))) := by rfl) :
    PE X (.Call (.Attribute o m apos) [] [] pos) (tMeth C m sp [] E0 ta tNil) := by
  obtain ⟨f, fd, hm, F, G, b⟩ := D.ex
  exact pe_meth0 he T hm G hr b .nil pass0 ht
theorem pe_makeD (T : ClsAt X.K X.mg x C) (D : MDefAt X.prog X.w X.K X.mg X.base C "__init__" qual st k ps sp) (hr : Room (k + 1) X.A) (ha : PA X (e :: es) t) (hg : Gl X x := by rfl)
    (hdb : (x == ("__debug__" : Str)) = false := by decide) (he : starEach (e :: es) X.env = (false, eval e X.env) :: starEach es X.env := by rfl) (hpl : (backTo pos (starEach es X.env)).any (·.1) = false := by rfl) :
    PE X (.Call (.Name x p) (e :: es) [] pos) (tMake C sp [] E0 t) := by
  obtain ⟨f, fd, hm, F, G, b⟩ := D.ex
  exact pe_make ⟨T.mks, hm.at_, hm.fn, T.kp⟩ G hr hg T.g b .nil pass0 ha hdb he hpl
theorem passE0 : Passes CX0 X E0 := fun _ _ _ _ _ _ _ h => h.elim
theorem pe_propD (he : PE X e ta) (c : Cls X.K C) (D : PDefAt X.prog X.w X.K X.mg X.base C m qual st k sp) (hr : Room (k + 1) X.A)
    (hab : attributeBase e m X.env (eval e X.env) = eval e X.env := by rfl) : PE X (.Attribute e m pos) (tProp C sp [] E0 ta) := by
  obtain ⟨pp, f, fd, hm, F, G, b⟩ := D.ex
  exact pe_prop he c hm G hr b .nil passE0 hab
theorem pe_gcls {u : Addr} (hm : X.mg x = some (.ref u)) (hg : Gl X x := by rfl) (hd : (x == ("__debug__" : Str)) = false := by decide) : PE X (.Name x pos) (tC (.ref u)) := pe_glob hg hm rfl hd
end

section
variable {X : Cx} {x : Str} {p : Pos}
theorem pe_gint {i : Int} (hm : ∃ t, X.mg x = some (.int i t)) (hg : Gl X x := by rfl) (hd : (x == ("__debug__" : Str)) = false := by decide) : PE X (.Name x p) (tC (.int i)) := by
  obtain ⟨t, hm⟩ := hm
  exact pe_glob hg hm ⟨t, rfl⟩ hd
theorem pe_gstr {i : Str} (hm : ∃ t, X.mg x = some (.str i t)) (hg : Gl X x := by rfl) (hd : (x == ("__debug__" : Str)) = false := by decide) : PE X (.Name x p) (tC (.str i)) := by
  obtain ⟨t, hm⟩ := hm
  exact pe_glob hg hm ⟨t, rfl⟩ hd
end
/-! ### readings by names -/
def rLen (K : PySem.W.Frag) : List V → Hp → VK → Prop := fun xs H Q => ∃ x n, xs = [x] ∧ LenV K x H n ∧ Q (.int n) H
theorem call_lenN {X : Cx} : CallR X (.builtin "len") (rLen X.K) := call_len
def rAbs : List V → Hp → VK → Prop := fun xs H Q => ∃ i, xs = [.int i] ∧ Q (.int (if i < 0 then -i else i)) H
theorem call_absN {X : Cx} : CallR X (.builtin "abs") rAbs := call_abs
def rMax2 : List V → Hp → VK → Prop := fun xs H Q => ∃ i j, xs = [.int i, .int j] ∧ Q (.int (if j > i then j else i)) H
theorem call_max2N {X : Cx} (hc : X.calm = true) : CallR X (.builtin "max") rMax2 := call_max2 hc
def rMin2 : List V → Hp → VK → Prop := fun xs H Q => ∃ i j, xs = [.int i, .int j] ∧ Q (.int (if j < i then j else i)) H
theorem call_min2N {X : Cx} (hc : X.calm = true) : CallR X (.builtin "min") rMin2 := call_min2 hc
def rInt1 : List V → Hp → VK → Prop := fun xs H Q => (∃ i, xs = [.int i] ∧ Q (.int i) H) ∨ ∃ k, xs = [.bl k] ∧ Q (.int (if k then 1 else 0)) H
theorem call_int1N {X : Cx} : CallR X (.type "int") rInt1 := call_int1
def rStrI : List V → Hp → VK → Prop := fun xs H Q => ∃ i, xs = [.int i] ∧ i.natAbs.log2 < 1920 ∧ Q (.str (toString i)) H
theorem call_strN {X : Cx} : CallR X (.type "str") rStrI := call_str_int
def rListOf (K : PySem.W.Frag) : List V → Hp → VK → Prop := fun xs H Q => ∃ p ys, xs = [.ref p] ∧ (SqL K H p ys ∨ SqT K H p ys) ∧ ∀ l, H l = none → Q (.ref l) (upd H l (.lst ys))
theorem call_listN {X : Cx} : CallR X (.type "list") (rListOf X.K) := call_list_of

/-! ### calls by keywords alone -/
def pick {α : Type} (ix : List Nat) (l : List α) : List α := ix.filterMap fun i => l[i]?
theorem pick_vals {zs : List V} {ws : List Value} (r : Vals zs ws) : ∀ ix : List Nat, Vals (pick ix zs) (pick ix ws)
  | [] => .nil
  | i :: ix => by
    have ih := pick_vals r ix
    unfold pick at ih ⊢
    rw [List.filterMap_cons, List.filterMap_cons]
    cases e : zs[i]? with
    | none =>
      rw [Vals.none_of r e]
      exact ih
    | some v =>
      obtain ⟨u, e', rv⟩ := Vals.get r e
      rw [e']
      exact .cons rv ih
/-- how a call binds keywords alone: parameter i takes the keyword at ix[i] -/
def KB0 (x qual : Str) (st : Stmt) (ps ks : List Str) (pre : Nat) (ix : List Nat) : Prop :=
  ∀ (kV doc pm : Value) (an : Option Addr) (cdv ct : Value) (us ws : List Value), us.length = pre → ws.length = ks.length → bindArgs (PySem.W.fnOf x qual (defArgs st) (defBody st) (defScope st) .none kV doc pm an cdv ct) ⟨us, ks.zip ws⟩ = pure (ps.zip (us ++ pick ix ws))
theorem KB0.kbn {K : PySem.W.Frag} {x qual : Str} {st : Stmt} {f : Addr} {fd : FuncData} {ps ks : List Str} {pre : Nat} {ix : List Nat} (B : KB0 x qual st ps ks pre ix) (F : Fun K x qual st f fd) : KBn K fd ps pre ks (fun us ws => us ++ pick ix ws) (fun vs zs => vs ++ pick ix zs) := by
  obtain ⟨oc, od, kV, doc, pm, an, cdv, ct, osl, rfl, lk, hcd⟩ := F.ex
  exact ⟨fun s us ws _ hu hw => .of_eq (B kV doc pm an cdv ct us ws hu hw), fun r1 r2 => r1.append (pick_vals r2 ix)⟩
def tCallK0 (n : Nat) (ix : List Nat) (sp : Sp) (tk : TA) : TE := fun σ H Q => tk σ H fun zs H2 => zs.length = n ∧ sp (pick ix zs) H2 Q E0
section
variable {X : Cx} {x m qual : Str} {st : Stmt} {k n : Nat} {ps ks : List Str} {sp : Sp} {C : Addr} {e o : Expr} {es : List Expr} {kws : List Keyword} {t tk : TA} {ta : TE} {p pos apos : Pos} {ix : List Nat}
theorem pe_callKD (D : DefAt X.prog X.w X.K X.mg X.base x st k ps sp) (hr : Room k X.A) (hkw : PK X kws tk) (B : KB0 x x st ps ks 0 ix) (hg : Gl X x := by rfl)
    (hall : (backToKw pos (keywordEach kws X.env)).all (·.1.isSome) = true := by rfl) (hks : (backToKw pos (keywordEach kws X.env)).filterMap (·.1) = ks := by rfl) (hdb : (x == ("__debug__" : Str)) = false := by decide)
    (hpl : ((backTo pos (starEach [] X.env)).any (·.1) || (backToKw pos (keywordEach kws X.env)).any (·.1.isNone)) = false := by rfl) :
    PE X (.Call (.Name x p) [] kws pos) (tCallK0 ks.length ix sp tk) := by
  obtain ⟨f, fd, hm, F, G, b⟩ := D.ex
  refine ⟨fun pins s σ H Q I h => ?_⟩
  refine wpAny_Call_Name_kw (ld_glob I hg hm ?_ hdb)
  refine PySem.W.callWith_KW0 (h₀ := X.base) I.ok.mod.kin F.kp hall ?_ hpl
  refine thn (hkw.run pos pins s σ H _ I h) fun ws s2 ⟨zs, H2, I2, rz, l2, q2⟩ => ⟨I2.kIn, ?_⟩
  rw [hks]
  exact run_fnN (us := []) (vs := []) G hr (B.kbn F) pass0 I2 .nil rz rfl l2 q2
/-- o.m(k = v, ..) -/
def tMethK0 (C : Addr) (m : Str) (n : Nat) (ix : List Nat) (sp : Sp) (ta : TE) (tk : TA) : TE := fun σ H Q => ta σ H fun x H1 => ∃ a dx fs, x = .ref a ∧ H1 a = some (.ins C dx fs) ∧ fs.lookup m = none ∧
  tk σ H1 fun zs H2 => zs.length = n ∧ sp (x :: pick ix zs) H2 Q E0
theorem pe_makeKD (T : ClsAt X.K X.mg x C) (D : MDefAt X.prog X.w X.K X.mg X.base C "__init__" qual st k ps sp) (hr : Room (k + 1) X.A) (hkw : PK X kws tk) (B : KB0 "__init__" qual st ps ks 1 ix) (hg : Gl X x := by rfl)
    (hall : (backToKw pos (keywordEach kws X.env)).all (·.1.isSome) = true := by rfl) (hks : (backToKw pos (keywordEach kws X.env)).filterMap (·.1) = ks := by rfl) (hdb : (x == ("__debug__" : Str)) = false := by decide)
    (hpl : ((backTo pos (starEach [] X.env)).any (·.1) || (backToKw pos (keywordEach kws X.env)).any (·.1.isNone)) = false := by rfl) :
    PE X (.Call (.Name x p) [] kws pos) (tMakeK C 0 ks.length sp (fun vs zs => vs ++ pick ix zs) E0 tNil tk) := by
  obtain ⟨f, fd, hm, F, G, b⟩ := D.ex
  exact pe_makeK0 (p := p) (pos := pos) ⟨T.mks, hm.at_, hm.fn, T.kp⟩ G hr hg T.g (B.kbn F) pass0 hkw hall hks hdb hpl
end

/-! ### what is kept -/
/-- all that was tracked is as it was, but the addresses of S -/
def Fr (S : List Addr) (H H' : Hp) : Prop := ∀ b o, b ∉ S → H b = some o → H' b = some o
section
variable {S S' : List Addr} {H H1 H2 H' : Hp} {a b p : Addr} {o u : HO} {K : PySem.W.Frag} {xs : List V}
theorem Fr.refl : Fr S H H := fun _ _ _ h => h
theorem Fr.trans (h : Fr S H H1) (h' : Fr S H1 H2) : Fr S H H2 := fun b o n e => h' b o n (h b o n e)
theorem Fr.mono (h : Fr S H H1) (hs : ∀ b ∈ S, b ∈ S') : Fr S' H H1 := fun b o n e => h b o (fun z => n (hs b z)) e
theorem Fr.nil (h : Fr [] H H1) : Fr S H H1 := h.mono fun b z => absurd z (by simp)
theorem Fr.then (h : Fr S H H1) (h' : Fr [] H1 H2) : Fr S H H2 := h.trans h'.nil
theorem Fr.new (h : Fr S H H1) (n : H1 p = none) : Fr S H (upd H1 p o) := fun b u z e => by
  rw [upd_ne (ne_of_none (h b u z e) n)]
  exact h b u z e
/-- an object that was made behind H, or one of S, may change -/
theorem Fr.put (h : Fr S H H1) (n : H p = none ∨ p ∈ S) : Fr S H (upd H1 p o) := fun b u z e => by
  have hb : b ≠ p := by
    intro q
    subst q
    rcases n with n | n
    · rw [n] at e
      cases e
    · exact z n
  rw [upd_ne hb]
  exact h b u z e
theorem Fr.at (h : Fr S H H') (n : b ∉ S) (e : H b = some o) : H' b = some o := h b o n e
theorem Fr.at0 (h : Fr [] H H') (e : H b = some o) : H' b = some o := h b o (by simp) e
theorem Fr.rd (h : Fr S H H') (n : b ∉ S) (e : Rd H b o) : Rd H' b o := by
  rcases e with e | ⟨x, e⟩
  · exact .inl (h b _ n e)
  · exact .inr ⟨x, h b _ n e⟩
theorem Fr.seqL (h : Fr S H H') (n : b ∉ S) (e : SqL K H b xs) : SqL K H' b xs := by
  rcases e with e | e
  · exact .inl (h.rd n e)
  · exact .inr e
theorem Fr.free (h : Fr S H H') (n : p ∉ S) (e : H' p = none) : H p = none := by
  cases q : H p with
  | none => rfl
  | some o =>
    rw [h p o n q] at e
    cases e
/-- what changes one object that was made behind H -/
theorem Fr.loc (h : Fr S H H1) (n : H p = none) (h' : Fr [p] H1 H2) : Fr S H H2 := fun b o z e => by
  refine h' b o ?_ (h b o z e)
  intro q
  rw [List.mem_singleton.mp q, n] at e
  cases e
theorem same_fr (h : Same H H') : Fr S H H' := fun b o _ e => h b o e
theorem Fr.same (h : Fr [] H H') : Same H H' := fun b o e => h b o (by simp) e
theorem at_upd (h : H a = some o) (n : H p = none) : upd H p u a = some o := by
  rw [upd_ne (ne_of_none h n)]
  exact h
theorem at_make {dx : Addr} {v : HO} (h : H a = some o) (n1 : H dx = none) (n2 : H p = none) : upd (upd H dx u) p v a = some o := by
  rw [upd_ne (ne_of_none h n2), upd_ne (ne_of_none h n1)]
  exact h
theorem Fr.make {dx : Addr} {v : HO} (h : Fr S H H1) (n1 : H1 dx = none) (n2 : H1 p = none) : Fr S H (upd (upd H1 dx u) p v) := fun b w z e => at_make (h b w z e) n1 n2
theorem hx_of {v : HO} (h : H a = some o) (e : o = v) : H a = some v := e ▸ h
theorem nn2 (h1 : b ≠ a) : b ∉ [a] := by simpa using h1
end

/-! ### kinds of objects differ -/
theorem ho_lst_tup {v1 : List V} {v2 : List V} : ((.lst v1) : HO) ≠ (.tup v2) := fun z => nomatch z
theorem ho_lst_own {v1 : List V} {v2 : Addr} : ((.lst v1) : HO) ≠ (.own v2) := fun z => nomatch z
theorem ho_lst_xd {v1 : List V} {v2 : List (Str × V)} : ((.lst v1) : HO) ≠ (.xd v2) := fun z => nomatch z
theorem ho_lst_dK {v1 : List V} {v2 : List (Key × V)} : ((.lst v1) : HO) ≠ (.dK v2) := fun z => nomatch z
theorem ho_lst_ins {v1 : List V} {C2 dx2 : Addr} {fs2 : List (Str × V)} : ((.lst v1) : HO) ≠ (.ins C2 dx2 fs2) := fun z => nomatch z
theorem ho_tup_lst {v1 : List V} {v2 : List V} : ((.tup v1) : HO) ≠ (.lst v2) := fun z => nomatch z
theorem ho_tup_own {v1 : List V} {v2 : Addr} : ((.tup v1) : HO) ≠ (.own v2) := fun z => nomatch z
theorem ho_tup_xd {v1 : List V} {v2 : List (Str × V)} : ((.tup v1) : HO) ≠ (.xd v2) := fun z => nomatch z
theorem ho_tup_dK {v1 : List V} {v2 : List (Key × V)} : ((.tup v1) : HO) ≠ (.dK v2) := fun z => nomatch z
theorem ho_tup_ins {v1 : List V} {C2 dx2 : Addr} {fs2 : List (Str × V)} : ((.tup v1) : HO) ≠ (.ins C2 dx2 fs2) := fun z => nomatch z
theorem ho_own_lst {v1 : Addr} {v2 : List V} : ((.own v1) : HO) ≠ (.lst v2) := fun z => nomatch z
theorem ho_own_tup {v1 : Addr} {v2 : List V} : ((.own v1) : HO) ≠ (.tup v2) := fun z => nomatch z
theorem ho_own_xd {v1 : Addr} {v2 : List (Str × V)} : ((.own v1) : HO) ≠ (.xd v2) := fun z => nomatch z
theorem ho_own_dK {v1 : Addr} {v2 : List (Key × V)} : ((.own v1) : HO) ≠ (.dK v2) := fun z => nomatch z
theorem ho_own_ins {v1 : Addr} {C2 dx2 : Addr} {fs2 : List (Str × V)} : ((.own v1) : HO) ≠ (.ins C2 dx2 fs2) := fun z => nomatch z
theorem ho_xd_lst {v1 : List (Str × V)} {v2 : List V} : ((.xd v1) : HO) ≠ (.lst v2) := fun z => nomatch z
theorem ho_xd_tup {v1 : List (Str × V)} {v2 : List V} : ((.xd v1) : HO) ≠ (.tup v2) := fun z => nomatch z
theorem ho_xd_own {v1 : List (Str × V)} {v2 : Addr} : ((.xd v1) : HO) ≠ (.own v2) := fun z => nomatch z
theorem ho_xd_dK {v1 : List (Str × V)} {v2 : List (Key × V)} : ((.xd v1) : HO) ≠ (.dK v2) := fun z => nomatch z
theorem ho_xd_ins {v1 : List (Str × V)} {C2 dx2 : Addr} {fs2 : List (Str × V)} : ((.xd v1) : HO) ≠ (.ins C2 dx2 fs2) := fun z => nomatch z
theorem ho_dK_lst {v1 : List (Key × V)} {v2 : List V} : ((.dK v1) : HO) ≠ (.lst v2) := fun z => nomatch z
theorem ho_dK_tup {v1 : List (Key × V)} {v2 : List V} : ((.dK v1) : HO) ≠ (.tup v2) := fun z => nomatch z
theorem ho_dK_own {v1 : List (Key × V)} {v2 : Addr} : ((.dK v1) : HO) ≠ (.own v2) := fun z => nomatch z
theorem ho_dK_xd {v1 : List (Key × V)} {v2 : List (Str × V)} : ((.dK v1) : HO) ≠ (.xd v2) := fun z => nomatch z
theorem ho_dK_ins {v1 : List (Key × V)} {C2 dx2 : Addr} {fs2 : List (Str × V)} : ((.dK v1) : HO) ≠ (.ins C2 dx2 fs2) := fun z => nomatch z
theorem ho_ins_lst {C1 dx1 : Addr} {fs1 : List (Str × V)} {v2 : List V} : ((.ins C1 dx1 fs1) : HO) ≠ (.lst v2) := fun z => nomatch z
theorem ho_ins_tup {C1 dx1 : Addr} {fs1 : List (Str × V)} {v2 : List V} : ((.ins C1 dx1 fs1) : HO) ≠ (.tup v2) := fun z => nomatch z
theorem ho_ins_own {C1 dx1 : Addr} {fs1 : List (Str × V)} {v2 : Addr} : ((.ins C1 dx1 fs1) : HO) ≠ (.own v2) := fun z => nomatch z
theorem ho_ins_xd {C1 dx1 : Addr} {fs1 : List (Str × V)} {v2 : List (Str × V)} : ((.ins C1 dx1 fs1) : HO) ≠ (.xd v2) := fun z => nomatch z
theorem ho_ins_dK {C1 dx1 : Addr} {fs1 : List (Str × V)} {v2 : List (Key × V)} : ((.ins C1 dx1 fs1) : HO) ≠ (.dK v2) := fun z => nomatch z
/-! ### len(set(ints)) -/
/-- the different ints of a list -/
def distinct (ns : List Int) : List Int := PyProof.Rows.firstMet (fun i => ns.getD i 0) ns.length
theorem firstMet_mem (f : Nat → Int) : ∀ (i : Nat) (x : Int), x ∈ PyProof.Rows.firstMet f i ↔ ∃ j, j < i ∧ f j = x
  | 0, x => by simp [PyProof.Rows.firstMet_zero]
  | i + 1, x => by
    rw [PyProof.Rows.firstMet_succ]
    have ih := firstMet_mem f i
    unfold PyProof.Rows.step_dedup
    split
    · rename_i h
      obtain ⟨y, hy, e⟩ := List.any_eq_true.mp h
      have e := eq_of_beq e
      subst e
      rw [ih]
      constructor
      · rintro ⟨j, h1, h2⟩
        exact ⟨j, by omega, h2⟩
      · rintro ⟨j, h1, h2⟩
        by_cases hj : j < i
        · exact ⟨j, hj, h2⟩
        · have : j = i := by omega
          subst this
          rw [← h2]
          exact (ih _).mp hy
    · rw [List.mem_append, ih, List.mem_singleton]
      constructor
      · rintro (⟨j, h1, h2⟩ | h)
        · exact ⟨j, by omega, h2⟩
        · exact ⟨i, by omega, h.symm⟩
      · rintro ⟨j, h1, h2⟩
        by_cases hj : j < i
        · exact .inl ⟨j, hj, h2⟩
        · have : j = i := by omega
          subst this
          exact .inr h2.symm
theorem distinct_mem {ns : List Int} {x : Int} : x ∈ distinct ns ↔ x ∈ ns := by
  unfold distinct
  rw [firstMet_mem]
  constructor
  · rintro ⟨j, h1, h2⟩
    rw [List.getD_eq_getElem?_getD, List.getElem?_eq_getElem h1] at h2
    have h2 : ns[j] = x := h2
    rw [← h2]
    exact List.getElem_mem h1
  · intro h
    obtain ⟨j, h1, h2⟩ := List.getElem_of_mem h
    refine ⟨j, h1, ?_⟩
    rw [List.getD_eq_getElem?_getD, List.getElem?_eq_getElem h1]
    exact h2
theorem distinct_le (ns : List Int) : (distinct ns).length ≤ ns.length := PyProof.Rows.firstMet_length_le _ _
/-- a list without repetition within another one is no longer -/
theorem nodup_le : ∀ {ds ns : List Int}, ds.Nodup → (∀ x ∈ ds, x ∈ ns) → ds.length ≤ ns.length
  | [], _, _, _ => Nat.zero_le _
  | d :: ds, ns, h, hs => by
    obtain ⟨h1, h2⟩ := List.nodup_cons.mp h
    have hd : d ∈ ns := hs d List.mem_cons_self
    have ih := nodup_le (ds := ds) (ns := ns.erase d) h2 fun x hx => by
      have hne : x ≠ d := fun e => h1 (e ▸ hx)
      exact (List.mem_erase_of_ne hne).mpr (hs x (List.mem_cons_of_mem _ hx))
    have e := List.length_erase_of_mem hd
    have pos : 0 < ns.length := List.length_pos_of_mem hd
    simp only [List.length_cons]
    omega
def tLenSetJ (K : PySem.W.Frag) (ta : TE) : TE := fun σ H Q => ta σ H fun x H1 => ∃ (l : Addr) (ns : List Int), x = .ref l ∧ SqL K H1 l (ns.map V.int) ∧ ns.length ≤ 4000 ∧ Q (.int ((distinct ns).length : Nat)) H1
theorem pe_lenSetJ {X : Cx} {a : Expr} {ta : TE} {p p2 q pos : Pos} (hg : Gl X "len") (hm : X.mg "len" = none) (hg2 : Gl X "set") (hm2 : X.mg "set" = none) (ha : PE X a ta) (hc : X.calm = true := by rfl)
    (na : starEach [a] X.env = (false, eval a X.env) :: starEach [] X.env := by rfl) : PE X (.Call (.Name "len" p) [.Call (.Name "set" p2) [a] [] q] [] pos) (tLenSetJ X.K ta) := by
  refine ⟨fun pins s σ H Q I h => ?_⟩
  refine Call_ (ld_blt I hg hm boot_len ?_)
  refine PyProof.Rows.callWith_builtin1 (PyProof.Rows.args_cons ?_ rfl) rfl rfl
  refine Call_ (ld_blt I hg2 hm2 boot_set ?_)
  refine PyProof.Rows.callWith_type1 (PyProof.Rows.args_cons (thn (ha.run pins s σ H _ I h) fun v s1 ⟨x, H1, I1, r1, q1⟩ => PyProof.Rows.args_nil ?_) na) na rfl
  obtain ⟨l, ns, rfl, hq, hl, q1⟩ := q1
  cases r1
  obtain ⟨its, r, pl, hz⟩ := I1.list hq
  have hlen : its.toArray.size = ns.length := by rw [List.size_toArray, ← r.length, List.length_map]
  refine call_set_list (I1.ok.hd hc) pl.isList (by simpa using RZ.intsAre_vals r) (by rw [hlen]; unfold scanBound; omega) fun h' tk hS hk => ?_
  refine PyProof.Rows.args_nil ?_
  rw [hlen] at hS
  have hlt : (PyProof.Rows.firstMet (fun i => ns.getD i 0) ns.length).length ≤ ns.length := PyProof.Rows.firstMet_length_le _ _
  obtain ⟨o, es, ep, t, ho, hex, hd, _, _, _, hf, hn⟩ := hS
  have I2 : Inv X pins σ H1 { s1 with heap := h', toks := tk } := I1.kept fun b o e => hk b o (Heap.lt_size e) e
  exact call_len_set ho hex hd hf (by rw [hn] <;> omega) ⟨.int (distinct ns).length, H1, I2.tok _, ⟨_, by rw [hn]; rfl⟩, q1⟩
/-! ### the same rules at a named part K -/
section
variable {X : Cx} {K : PySem.W.Frag}
theorem kc_call {r : PySem.W.Frag → List V → Hp → VK → Prop} {v : Value} (h : CallR X v (r X.K)) (e : X.K = K) : CallR X v (r K) := e ▸ h
theorem kc_mt {r : PySem.W.Frag → V → List V → Hp → VK → Prop} {id : String} (h : MtR X id (r X.K)) (e : X.K = K) : MtR X id (r K) := e ▸ h
theorem kc_op {r : PySem.W.Frag → R2} {f : Value → Value → Sem Value} (h : OpR X f (r X.K)) (e : X.K = K) : OpR X f (r K) := e ▸ h
theorem kc_ix {r : PySem.W.Frag → R2} (h : IxR X (r X.K)) (e : X.K = K) : IxR X (r K) := e ▸ h
theorem kc_sl {r : PySem.W.Frag → V → Option Int → Option Int → Hp → VK → Prop} (h : SlR X (r X.K)) (e : X.K = K) : SlR X (r K) := e ▸ h
theorem kc_bm {e : Expr} {T : String} {r : V → List V → Hp → VK → Prop} {to : TE} {t : TA} (h : PE X e (tBM X.K T r to t)) (q : X.K = K) : PE X e (tBM K T r to t) := q ▸ h
theorem kc_bm0 {e : Expr} {T : String} {r : V → List V → Hp → VK → Prop} {to : TE} (h : PE X e (tBM0 X.K T r to)) (q : X.K = K) : PE X e (tBM0 K T r to) := q ▸ h
end
/-! ### slices with a step -/
def pickSl {α : Type} (xs : List α) (lo st : Option Int) : List α := (sliceRange (sliceBounds lo none st xs.length).1 (sliceBounds lo none st xs.length).2.1 (sliceBounds lo none st xs.length).2.2).filterMap fun i => xs[i]?
def tSlStep (K : PySem.W.Frag) (te : TE) (tl ts : TO) : TE := fun σ H Q => te σ H fun x H1 => tl σ H1 fun lo H2 => ts σ H2 fun st H3 => ∃ a xs, x = .ref a ∧ SqL K H3 a xs ∧ st ≠ some 0 ∧ (pickSl xs lo st).length ≤ sizeLine ∧ ∀ p, H3 p = none → Q (.ref p) (upd H3 p (.lst (pickSl xs lo st)))
theorem pe_slStep {X : Cx} {e st : Expr} {te : TE} {lo : Option Expr} {tl ts : TO} {p2 pos : Pos} (he : PE X e te) (hl : PO X lo tl) (hs : PO X (some st) ts) : PE X (.Subscript e (.Slice lo none (some st) p2) pos) (tSlStep X.K te tl ts) := by
  refine ⟨fun pins s σ H Q I h => ?_⟩
  refine Subscript_ (thn (he.run pins s σ H _ I h) fun v s1 ⟨x, H1, I1, r1, q1⟩ => ?_)
  refine wpAny_Slice (thn (hl.run pins s1 σ H1 _ I1 q1) fun vl s2 ⟨l, H2, I2, pl, q2⟩ => ?_)
  refine thn (po_none.run pins s2 σ H2 (fun o H3 => o = none ∧ H3 = H2) I2 ⟨rfl, rfl⟩) fun vu s3 ⟨u, H3, I3, pu, eu, e3⟩ => ?_
  subst eu e3
  refine thn (hs.run pins s3 σ H3 _ I3 q2) fun vs s4 ⟨o, H4, I4, ps, a, xs, ex, hx, h0, hz2, q4⟩ => ?_
  subst ex
  cases r1
  have I5 : Inv X pins σ H4 { s4 with heap := s4.heap.push { cls := .type "slice", data := .fields #[vl, vu, vs] } } := I4.kept (t' := s4.toks) fun b ob q => Heap.get?_push_of_some _ q
  obtain ⟨its, r, ht, hz⟩ := I5.list hx
  have hlen := r.length
  refine tail_any (ops := [.ref a, .ref s4.heap.objs.size]) ht.isList.typeIs (PySem.slot_list_getitem.lookup) ?_ (by with_unfolding_all rfl)
  refine wpAny_getItem_list_slice ht.isList (Heap.IsSliceOf.new _ vl vu vs) pl pu ps h0 ?_ (by rw [List.size_toArray]; omega)
  have hp : slicePick its.toArray l none o = (pickSl its l o).toArray := by
    unfold slicePick pickSl
    simp
  have rv : Vals (pickSl xs l o) (pickSl its l o) := by
    unfold pickSl
    rw [hlen]
    exact pick_vals r _
  rw [hp]
  refine ⟨.ref _, _, I5.laid (t' := s4.toks) (o := .lst (pickSl xs l o)) (fun b ob q => Heap.get?_push_of_some _ q) (Nat.le_refl _) ?_, rfl, q4 _ (I5.hok.fresh (Nat.le_refl _))⟩
  exact ⟨hz2, _, 0, rv, Heap.get?_push_size _ rfl⟩
end Pg

namespace Pg
open PySem PySem.Spec PyProof.Rows L2
theorem szle {n : Nat} (h : Nat.ble n 16777216 = true) : n ≤ sizeLine := by
  rw [sizeLine_eq]
  exact Nat.le_of_ble_eq_true h
theorem szle' {n : Nat} (h : n ≤ 16777216) : n ≤ sizeLine := by
  rw [sizeLine_eq]
  exact h
theorem szlt {n : Nat} (h : n < 16777216) : n < sizeLine := by
  rw [sizeLine_eq]
  exact h
def ParE (i j : Nat) (R : L2.St → Hp → Prop) (σ : L2.St) : List V → Hp → Prop := fun vs H1 => ∃ v w, vs = [v, w] ∧ R ((σ.set i (some v)).set j (some w)) H1
theorem perm_sum {ns ms : List Int} (h : ns.Perm ms) : ns.sum = ms.sum := by
  induction h with
  | nil => rfl
  | cons x _ ih => simp [ih]
  | swap x y l => simp; omega
  | trans _ _ h1 h2 => exact h1.trans h2
/-- a wish, wrapped, so that nothing else takes it -/
structure Wr (R : Prop) : Prop where
  r : R
/-- fields of instances -/
def FldP (K : PySem.W.Frag) (f : Str) (y : V) (R : Hp → Prop) : V → Hp → Prop := fun x H2 => ∃ a C dx fs, x = .ref a ∧ H2 a = some (.ins C dx fs) ∧ Cls K C ∧ NoAttr K C f ∧ fs.length < 1000 ∧ R (upd H2 a (.ins C dx (putF f y fs)))
def FldG (K : PySem.W.Frag) (f : Str) (Q : VK) : V → Hp → Prop := fun x H1 => ∃ a C dx fs v, x = .ref a ∧ H1 a = some (.ins C dx fs) ∧ Cls K C ∧ NoAttr K C f ∧ fs.lookup f = some v ∧ Q v H1
def FldQ (C a : Addr) (f : Str) (z : V) (R : Hp → Prop) : Hp → Prop := fun H3 => ∃ dx' fs', H3 a = some (.ins C dx' fs') ∧ fs'.length < 1000 ∧ R (upd H3 a (.ins C dx' (putF f z fs')))
def FldA (K : PySem.W.Frag) (tv : TE) (rd : V → V → Hp → VK → Prop) (f : Str) (R : Hp → Prop) (σ : L2.St) : V → Hp → Prop := fun x H1 => ∃ a C dx fs v, x = .ref a ∧ H1 a = some (.ins C dx fs) ∧ Cls K C ∧ NoAttr K C f ∧ fs.lookup f = some v ∧
  tv σ H1 fun y H2 => rd v y H2 fun z H3 => FldQ C a f z R H3
def MethE (C : Addr) (m : Str) (sp : Sp) (dvs : List V) (E : XK) (t : TA) (σ : L2.St) (Q : VK) : V → Hp → Prop := fun x H1 => ∃ a dx fs, x = .ref a ∧ H1 a = some (.ins C dx fs) ∧ fs.lookup m = none ∧ t σ H1 fun vs H2 => sp (x :: (vs ++ dvs)) H2 Q E
def PropE (C : Addr) (sp : Sp) (dvs : List V) (E : XK) (Q : VK) : V → Hp → Prop := fun x H1 => ∃ a dx fs, x = .ref a ∧ H1 a = some (.ins C dx fs) ∧ sp (.ref a :: dvs) H1 Q E
theorem putF_eq {f : Str} {v x : V} {r : List (Str × V)} : putF f v ((f, x) :: r) = (f, v) :: r := by
  show (if f = f then _ else _) = _
  rw [if_pos rfl]
theorem putF_ne {f g : Str} {v x : V} {r : List (Str × V)} (h : ¬ g = f) : putF f v ((g, x) :: r) = (g, x) :: putF f v r := by
  show (if g = f then _ else _) = _
  rw [if_neg h]
theorem lk_eq {f : Str} {v : V} {r : List (Str × V)} : List.lookup f ((f, v) :: r) = some v := by simp [List.lookup]
theorem lk_ne {f g : Str} {v : V} {r : List (Str × V)} (h : ¬ f = g) : List.lookup f ((g, v) :: r) = List.lookup f r := by
  have e : (f == g) = false := by simpa using h
  simp [List.lookup, e]
/-- a method's receiver is of the type, and the rest -/
def TyAnd (K : PySem.W.Frag) (T : String) (x : V) (H : Hp) (R : Prop) : Prop := tyV K T x H ∧ R
section
variable {K : PySem.W.Frag} {σ : L2.St} {H H' : Hp} {D : Ends} {i : Nat} {x y v : V} {Q : VK} {ta tb te : TE} {c t u : TT} {t1 t2 ts : TS} {r : R2} {g : TG} {tA tr : TA} {R : List V → Hp → Prop} {a p C dx : Addr} {xs : List V} {f : Str} {fs : List (Str × V)} {m n : Int} {B : Bool → Hp → Prop}
/-! statements -/
theorem w_share {R A : Prop} (h1 : Wr R → A) (h2 : R) : A := h1 ⟨h2⟩
theorem w_start {N : List Str} {vs : List V} {σ' : L2.St} (e : L2.start N vs = σ') (h : ts D σ' H) : ts D (L2.start N vs) H := e ▸ h
theorem w_seq (h : t1 { D with nx := t2 D } σ H) : tSeq t1 t2 D σ H := h
theorem w_next (h : D.nx σ H) : tNext D σ H := h
theorem w_asg (h : te σ H fun x H1 => g x σ H1 D.nx) : tAsg te g D σ H := h
theorem w_gname {Q : L2.St → Hp → Prop} (h : Q (σ.set i (some v)) H) : gName i v σ H Q := h
theorem w_ret (h : te σ H D.rt) : tRet te D σ H := h
theorem w_retN (h : D.rt .non H) : tRetN D σ H := h
theorem w_drop (h : te σ H fun _ H1 => D.nx σ H1) : tDrop te D σ H := h
theorem w_ifS (h : c σ H fun b H1 => if b = true then t1 D σ H1 else t2 D σ H1) : tIfS c t1 t2 D σ H := h
theorem w_par {j : Nat} (h : tA σ H (ParE i j (D.nx) σ)) : tPar i j tA D σ H := h
theorem w_parE {j : Nat} {R : L2.St → Hp → Prop} (q : R ((σ.set i (some x)).set j (some y)) H) : ParE i j R σ [x, y] H := ⟨x, y, rfl, q⟩
theorem w_aug {ti : TIp} (e : σ[i]? = some (some x)) (h : te σ H fun y H1 => ti x y H1 fun z H2 => D.nx (σ.set i (some z)) H2) : tAug i te ti D σ H := ⟨x, e, h⟩
theorem w_ipI {f : Int → Int → Int} (h : Q (.int (f m n)) H) : ipI f (.int m) (.int n) H Q := ⟨m, n, rfl, rfl, h⟩
theorem w_fld (h : te σ H fun y H1 => ta σ H1 (FldP K f y (D.nx σ))) : sFld K ta te f D σ H := h
theorem w_fldP {R : Hp → Prop} {fs' : List (Str × V)} (h : H a = some (.ins C dx fs)) (c : Cls K C) (n : NoAttr K C f) (hl : fs.length < 1000) (e : putF f y fs = fs') (q : R (upd H a (.ins C dx fs'))) : FldP K f y R (.ref a) H := ⟨a, C, dx, fs, rfl, h, c, n, hl, by rw [e]; exact q⟩
theorem w_fldaug {rd : V → V → Hp → VK → Prop} (h : ta σ H fun x H1 => FldA K te rd f (D.nx σ) σ x H1) : sFldAug K ta te rd f D σ H := h
theorem w_fldA {rd : V → V → Hp → VK → Prop} {R : Hp → Prop} (h : H a = some (.ins C dx fs)) (c : Cls K C) (n : NoAttr K C f) (e : fs.lookup f = some v) (q : te σ H fun y H2 => rd v y H2 fun z H3 => FldQ C a f z R H3) : FldA K te rd f R σ (.ref a) H := ⟨a, C, dx, fs, v, rfl, h, c, n, e, q⟩
theorem w_fldQ {R : Hp → Prop} {fs' : List (Str × V)} {z : V} (h : H a = some (.ins C dx fs)) (hl : fs.length < 1000) (e : putF f z fs = fs') (q : R (upd H a (.ins C dx fs'))) : FldQ C a f z R H := ⟨dx, fs, h, hl, by rw [e]; exact q⟩
theorem w_rAdd (q : Q (.int (m + n)) H) : L2.rAdd (.int m) (.int n) H Q := ⟨m, n, rfl, rfl, q⟩
theorem w_rSub (q : Q (.int (m - n)) H) : L2.rSub (.int m) (.int n) H Q := ⟨m, n, rfl, rfl, q⟩
/-! expressions -/
theorem w_var (e : σ[i]? = some (some v)) (h : Q v H) : tVar i σ H Q := ⟨v, e, h⟩
theorem w_c (h : Q v H) : tC v σ H Q := h
theorem w_op (h : ta σ H fun x H1 => tb σ H1 fun y H2 => r x y H2 Q) : tOp r ta tb σ H Q := h
theorem w_un {r : V → Hp → VK → Prop} (h : ta σ H fun x H1 => r x H1 Q) : tUn r ta σ H Q := h
theorem w_I0 {g : Int → Int → V} (h : Q (g m n) H) : rI0 g (.int m) (.int n) H Q := ⟨m, n, rfl, rfl, h⟩
theorem w_I {P : Int → Int → Prop} {g : Int → Int → V} (c : P m n) (h : Q (g m n) H) : rI P g (.int m) (.int n) H Q := ⟨m, n, rfl, rfl, c, h⟩
theorem w_powW (c : CPowW m n) (h : Q (.int (m ^ n.toNat)) H) : rI CPowW (fun i j => .int (i ^ j.toNat)) (.int m) (.int n) H Q := ⟨m, n, rfl, rfl, c, h⟩
theorem w_U {g : Int → V} (h : Q (g m) H) : rU g (.int m) H Q := ⟨m, rfl, h⟩
theorem w_eq (c : scal x y = true) (h : Q (.bl (decide (x = y))) H) : rEq x y H Q := ⟨c, h⟩
theorem w_eqI (h : Q (.bl (decide (m = n))) H) : rEq (.int m) (.int n) H Q := ⟨rfl, by
  have e : decide (V.int m = V.int n) = decide (m = n) := by
    by_cases z : m = n
    · subst z
      rw [decide_eq_true rfl, decide_eq_true rfl]
    · rw [decide_eq_false z, decide_eq_false fun q => z (V.int.inj q)]
  rw [e]
  exact h⟩
theorem w_neI (h : Q (.bl (!decide (m = n))) H) : rNe (.int m) (.int n) H Q := ⟨rfl, by
  have e : decide (V.int m = V.int n) = decide (m = n) := by
    by_cases z : m = n
    · subst z
      rw [decide_eq_true rfl, decide_eq_true rfl]
    · rw [decide_eq_false z, decide_eq_false fun q => z (V.int.inj q)]
  rw [e]
  exact h⟩
theorem w_ne (c : scal x y = true) (h : Q (.bl (!decide (x = y))) H) : rNe x y H Q := ⟨c, h⟩
theorem w_ixL (h : SqL K H p xs) (ha : atI xs m = some v) (q : Q v H) : rIxL K (.ref p) (.int m) H Q := ⟨p, xs, m, v, rfl, rfl, h, ha, q⟩
theorem w_ixT (h : SqT K H p xs) (ha : atI xs m = some v) (q : Q v H) : rIxT K (.ref p) (.int m) H Q := ⟨p, xs, m, v, rfl, rfl, h, ha, q⟩
theorem w_sub {to ti : TE} {tq : TSet} {Q : L2.St → Hp → Prop} (h : to σ H fun o H1 => ti σ H1 fun i H2 => tq o i v H2 fun H3 => Q σ H3) : gSub to ti tq v σ H Q := h
theorem w_setL {j : Nat} {Q : Hp → Prop} (h : H p = some (.lst xs)) (e : ixN xs.length m = some j) (q : Q (upd H p (.lst (xs.set j v)))) : rSetL (.ref p) (.int m) v H Q := ⟨p, xs, m, j, rfl, rfl, h, e, q⟩
theorem w_nil (h : R [] H) : tNil σ H R := h
theorem w_cons (h : te σ H fun x H1 => tr σ H1 fun xs H2 => R (x :: xs) H2) : tCons te tr σ H R := h
theorem w_call {sp : Sp} {dvs : List V} {E : XK} (h : tA σ H fun vs H1 => sp (vs ++ dvs) H1 Q E) : tCall sp dvs E tA σ H Q := h
theorem w_CB {r : List V → Hp → VK → Prop} (h : tA σ H fun vs H1 => r vs H1 Q) : tCB r tA σ H Q := h
theorem w_lst (h : tA σ H fun xs H1 => xs.length ≤ sizeLine ∧ ∀ p, H1 p = none → Q (.ref p) (upd H1 p (.lst xs))) : tLst tA σ H Q := h
theorem w_tup (h : tA σ H fun xs H1 => xs.length ≤ sizeLine ∧ ∀ p, H1 p = none → Q (.ref p) (upd H1 p (.tup xs))) : tTup tA σ H Q := h
theorem w_tfld (h : ta σ H (FldG K f Q)) : tFld K ta f σ H Q := h
theorem w_fldG (h : H a = some (.ins C dx fs)) (c : Cls K C) (n : NoAttr K C f) (e : fs.lookup f = some v) (q : Q v H) : FldG K f Q (.ref a) H := ⟨a, C, dx, fs, v, rfl, h, c, n, e, q⟩
theorem w_meth {sp : Sp} {dvs : List V} {E : XK} (h : ta σ H (MethE C f sp dvs E tA σ Q)) : tMeth C f sp dvs E ta tA σ H Q := h
theorem w_methE {sp : Sp} {dvs : List V} {E : XK} (h : H a = some (.ins C dx fs)) (e : fs.lookup f = none) (q : tA σ H fun vs H2 => sp (.ref a :: (vs ++ dvs)) H2 Q E) : MethE C f sp dvs E tA σ Q (.ref a) H := ⟨a, dx, fs, rfl, h, e, q⟩
theorem w_prop {sp : Sp} {dvs : List V} {E : XK} (h : ta σ H (PropE C sp dvs E Q)) : tProp C sp dvs E ta σ H Q := h
theorem w_propE {sp : Sp} {dvs : List V} {E : XK} (h : H a = some (.ins C dx fs)) (q : sp (.ref a :: dvs) H Q E) : PropE C sp dvs E Q (.ref a) H := ⟨a, dx, fs, rfl, h, q⟩
theorem w_make {sp : Sp} {dvs : List V} {E : XK} (h : tA σ H fun vs H1 => ∀ x dx, H1 x = none → H1 dx = none → dx ≠ x → sp (.ref x :: (vs ++ dvs)) (upd (upd H1 dx (.own x)) x (.ins C dx [])) (fun v H2 => v = .non ∧ Q (.ref x) H2) E) : tMake C sp dvs E tA σ H Q := h
theorem w_if (h : c σ H fun b H1 => if b = true then ta σ H1 Q else tb σ H1 Q) : tIf c ta tb σ H Q := h
theorem w_bm {T : String} {r : V → List V → Hp → VK → Prop} (h : ta σ H fun x H1 => TyAnd K T x H1 (tA σ H1 fun xs H2 => r x xs H2 Q)) : tBM K T r ta tA σ H Q := h
theorem w_bm0 {T : String} {r : V → List V → Hp → VK → Prop} (h : ta σ H fun x H1 => TyAnd K T x H1 (r x [] H1 Q)) : tBM0 K T r ta σ H Q := h
theorem w_chain {r r' : R2} {tc : TE} (h : ta σ H fun x H1 => tb σ H1 fun y H2 => r x y H2 fun z H3 => ∃ k, z = .bl k ∧ (if k = true then tc σ H3 fun w' H4 => r' y w' H4 Q else Q (.bl false) H3)) : tChain r r' ta tb tc σ H Q := h
/-! tests -/
theorem w_test (h : te σ H fun x H' => ∃ k, x = .bl k ∧ B k H') : tTest te σ H B := h
theorem w_tB (h : te σ H fun x H' => ∃ k, x = .bl k ∧ B k H') : tB te σ H B := h
theorem w_exbl {b : Bool} {P : Bool → Prop} (h : P b) : ∃ k, V.bl b = V.bl k ∧ P k := ⟨b, rfl, h⟩
theorem w_not (h : t σ H fun b H' => B (!b) H') : tNot t σ H B := h
theorem w_and (h : t σ H fun b H1 => if b = true then u σ H1 B else B false H1) : tAnd t u σ H B := h
theorem w_or (h : t σ H fun b H1 => if b = true then B true H1 else u σ H1 B) : tOr t u σ H B := h
theorem w_ite {c A B : Prop} [Decidable c] (h1 : c → A) (h2 : ¬ c → B) : if decide c = true then A else B := by
  by_cases h : c
  · rw [if_pos (decide_eq_true h)]
    exact h1 h
  · rw [if_neg (by rw [decide_eq_false h]; decide)]
    exact h2 h
theorem w_iteN {c A B : Prop} [Decidable c] (h1 : ¬ c → A) (h2 : c → B) : if (!decide c) = true then A else B := by
  by_cases h : c
  · rw [if_neg (by rw [decide_eq_true h]; decide)]
    exact h2 h
  · rw [if_pos (by rw [decide_eq_false h]; rfl)]
    exact h1 h
theorem w_iteT {A B : Prop} (h : A) : if true = true then A else B := by rw [if_pos rfl]; exact h
theorem w_iteF {A B : Prop} (h : B) : if false = true then A else B := by rw [if_neg Bool.false_ne_true]; exact h
theorem w_iteNT {A B : Prop} (h : B) : if (!true) = true then A else B := by rw [if_neg (by decide)]; exact h
theorem w_iteNF {A B : Prop} (h : A) : if (!false) = true then A else B := by rw [if_pos (by decide)]; exact h
theorem w_iteP {c A B : Prop} [Decidable c] (hc : c) (h : A) : if decide c = true then A else B := w_ite (fun _ => h) fun n => absurd hc n
theorem w_iteQ {c A B : Prop} [Decidable c] (hc : ¬ c) (h : B) : if decide c = true then A else B := w_ite (fun n => absurd n hc) fun _ => h
theorem w_iteNP {c A B : Prop} [Decidable c] (hc : c) (h : B) : if (!decide c) = true then A else B := w_iteN (fun n => absurd hc n) fun _ => h
theorem w_iteNQ {c A B : Prop} [Decidable c] (hc : ¬ c) (h : A) : if (!decide c) = true then A else B := w_iteN (fun _ => h) fun n => absurd n hc
theorem w_iteB {b : Bool} {A B : Prop} (h1 : b = true → A) (h2 : b = false → B) : if b = true then A else B := by
  cases b with
  | true => exact w_iteT (h1 rfl)
  | false => exact w_iteF (h2 rfl)
end

/-! ### reads of lists -/
theorem atI_lt {α : Type} {xs : List α} {r : Int} (h0 : 0 ≤ r) (h1 : r < xs.length) : ∃ v, v ∈ xs ∧ atI xs r = some v ∧ xs[r.toNat]? = some v := by
  have hl : r.toNat < xs.length := by omega
  have e : xs[r.toNat]? = some xs[r.toNat] := List.getElem?_eq_getElem hl
  refine ⟨xs[r.toNat], List.getElem_mem hl, ?_, e⟩
  have q := atI_nat e
  have z : ((r.toNat : Nat) : Int) = r := Int.toNat_of_nonneg h0
  rw [z] at q
  exact q
theorem atI_ints {ns : List Int} {r : Int} (h0 : 0 ≤ r) (h1 : r < ns.length) : ∃ n, n ∈ ns ∧ atI (ns.map V.int) r = some (.int n) ∧ ns[r.toNat]? = some n := by
  obtain ⟨v, hv, e, e2⟩ := atI_lt (xs := ns.map V.int) h0 (by rw [List.length_map]; exact h1)
  rw [List.getElem?_map] at e2
  cases q : ns[r.toNat]? with
  | none =>
    rw [q] at e2
    cases e2
  | some n =>
    rw [q] at e2
    cases e2
    exact ⟨n, List.mem_of_getElem? q, e, rfl⟩
theorem map_at {ns : List Int} {i : Nat} {x : V} (h : (ns.map V.int)[i]? = some x) : ∃ n, ns[i]? = some n ∧ x = .int n := by
  rw [List.getElem?_map] at h
  cases e : ns[i]? with
  | none =>
    rw [e] at h
    cases h
  | some n =>
    rw [e] at h
    exact ⟨n, rfl, (Option.some.inj h).symm⟩
theorem map_at' {α : Type} {f : α → V} {ns : List α} {i : Nat} {x : V} (h : (ns.map f)[i]? = some x) : ∃ n, ns[i]? = some n ∧ x = f n := by
  rw [List.getElem?_map] at h
  cases e : ns[i]? with
  | none =>
    rw [e] at h
    cases h
  | some n =>
    rw [e] at h
    exact ⟨n, rfl, (Option.some.inj h).symm⟩
theorem map_snoc (f : Int → V) (ns : List Int) (n : Int) : ns.map f ++ [f n] = (ns ++ [n]).map f := by simp

/-- the ints of written items -/
def unV : List V → List Int
  | [] => []
  | .int i :: r => i :: unV r
  | _ :: r => unV r
section
variable {K : PySem.W.Frag} {H : Hp} {p : Addr} {xs : List V} {m : Int} {Q : VK} {ns : List Int}
theorem w_ixLi (h : SqL K H p xs) (e : xs = (unV xs).map V.int) (h0 : 0 ≤ m) (h1 : m < (unV xs).length) (q : ∀ n, n ∈ unV xs → Q (.int n) H) : rIxL K (.ref p) (.int m) H Q := by
  obtain ⟨n, hn, e2, _⟩ := atI_ints h0 h1
  rw [← e] at e2
  exact w_ixL h e2 (q n hn)
theorem w_ixTi (h : SqT K H p xs) (e : xs = (unV xs).map V.int) (h0 : 0 ≤ m) (h1 : m < (unV xs).length) (q : ∀ n, n ∈ unV xs → Q (.int n) H) : rIxT K (.ref p) (.int m) H Q := by
  obtain ⟨n, hn, e2, _⟩ := atI_ints h0 h1
  rw [← e] at e2
  exact w_ixT h e2 (q n hn)
theorem w_ixLm (h : SqL K H p (ns.map V.int)) (h0 : 0 ≤ m) (h1 : m < ns.length) (q : ∀ n, ns[m.toNat]? = some n → Q (.int n) H) : rIxL K (.ref p) (.int m) H Q := by
  obtain ⟨n, hn, e2, e3⟩ := atI_ints h0 h1
  exact w_ixL h e2 (q n e3)
theorem w_ixLast (h : SqL K H p (ns.map V.int)) (hne : ns ≠ []) (q : ∀ init x, ns = init ++ [x] → Q (.int x) H) : rIxL K (.ref p) (.int (-1)) H Q := by
  obtain ⟨init, x, e⟩ : ∃ init x, ns = init ++ [x] := by
    exact ⟨ns.dropLast, ns.getLast hne, (List.dropLast_concat_getLast hne).symm⟩
  subst e
  refine w_ixL h ?_ (q _ _ rfl)
  rw [List.map_append]
  exact atI_last _ _
theorem w_len {r : List V} (h : SqL K H p r) (q : Q (.int r.length) H) : rLen K [.ref p] H Q := ⟨_, _, rfl, .inl ⟨r, h, rfl⟩, q⟩
theorem w_lenI (h : SqL K H p (ns.map V.int)) (q : Q (.int ns.length) H) : rLen K [.ref p] H Q := w_len h (by rw [List.length_map]; exact q)
theorem w_append {y : V} (h : H p = some (.lst xs)) (hz : xs.length < sizeLine) (q : Q .non (upd H p (.lst (xs ++ [y])))) : rAppend (.ref p) [y] H Q := ⟨p, xs, y, rfl, rfl, h, hz, q⟩
theorem w_appendI {y : Int} (h : H p = some (.lst (ns.map V.int))) (hz : ns.length < 16777216) (q : Q .non (upd H p (.lst ((ns ++ [y]).map V.int)))) : rAppend (.ref p) [.int y] H Q :=
  ⟨p, _, _, rfl, rfl, h, szlt (by rw [List.length_map]; exact hz), by rw [map_snoc]; exact q⟩
theorem w_tyL {R : Prop} (h : H p = some (.lst xs)) (q : R) : TyAnd K "list" (.ref p) H R := ⟨.inl ⟨rfl, _, SqL.of h⟩, q⟩
theorem w_max2 {i j : Int} (q : Q (.int (if j > i then j else i)) H) : rMax2 [.int i, .int j] H Q := ⟨i, j, rfl, q⟩
theorem w_min2 {i j : Int} (q : Q (.int (if j < i then j else i)) H) : rMin2 [.int i, .int j] H Q := ⟨i, j, rfl, q⟩
theorem w_abs {i : Int} (q : Q (.int (if i < 0 then -i else i)) H) : rAbs [.int i] H Q := ⟨i, rfl, q⟩
theorem w_sum (h : SqL K H p (ns.map V.int)) (q : Q (.int ns.sum) H) : rSum K [.ref p] H Q := ⟨p, ns, rfl, h, q⟩
theorem w_maxL (h : SqL K H p (ns.map V.int)) (h0 : 0 < ns.length) (q : ∀ m, m ∈ ns → (∀ y, y ∈ ns → y ≤ m) → Q (.int m) H) : rMax K [.ref p] H Q := ⟨p, ns, rfl, h, h0, q⟩
theorem w_minL (h : SqL K H p (ns.map V.int)) (h0 : 0 < ns.length) (q : ∀ m, m ∈ ns → (∀ y, y ∈ ns → m ≤ y) → Q (.int m) H) : rMin K [.ref p] H Q := ⟨p, ns, rfl, h, h0, q⟩
theorem w_catI {q : Addr} {ms : List Int} (h1 : H p = some (.lst (ns.map V.int))) (h2 : H q = some (.lst (ms.map V.int))) (hz : ns.length + ms.length ≤ 16777216) (k : ∀ r, H r = none → Q (.ref r) (upd H r (.lst ((ns ++ ms).map V.int)))) : rCat (.ref p) (.ref q) H Q :=
  ⟨p, q, _, _, rfl, rfl, h1, h2, szle' (by rw [List.length_map, List.length_map]; exact hz), fun r hr => by rw [← List.map_append]; exact k r hr⟩
theorem w_ixAny (h : SqL K H p xs) (h0 : 0 ≤ m) (h1 : m < xs.length) (q : ∀ v, v ∈ xs → Q v H) : rIxL K (.ref p) (.int m) H Q := by
  obtain ⟨v, hv, e, _⟩ := atI_lt h0 h1
  exact w_ixL h e (q v hv)
theorem w_catIL {q : Addr} {ys : List V} (h1 : H p = some (.lst (ns.map V.int))) (h2 : H q = some (.lst ys)) (e : ys = (unV ys).map V.int) (hz : ns.length + (unV ys).length ≤ 16777216) (k : ∀ r, H r = none → Q (.ref r) (upd H r (.lst ((ns ++ unV ys).map V.int)))) : rCat (.ref p) (.ref q) H Q :=
  w_catI h1 (by rw [← e]; exact h2) hz k
theorem w_catLI {q : Addr} {ys : List V} (h1 : H p = some (.lst ys)) (h2 : H q = some (.lst (ns.map V.int))) (e : ys = (unV ys).map V.int) (hz : (unV ys).length + ns.length ≤ 16777216) (k : ∀ r, H r = none → Q (.ref r) (upd H r (.lst ((unV ys ++ ns).map V.int)))) : rCat (.ref p) (.ref q) H Q :=
  w_catI (by rw [← e]; exact h1) h2 hz k
theorem w_repI {k : Int} (h : H p = some (.lst (ns.map V.int))) (k1 : -(2 ^ 63) ≤ k) (k2 : k < 2 ^ 63) (hz : ns.length * k.toNat ≤ 16777216) (q : ∀ r, H r = none → Q (.ref r) (upd H r (.lst ((List.replicate k.toNat (ns.map V.int)).flatten)))) : rRep (.ref p) (.int k) H Q :=
  ⟨p, k, _, rfl, rfl, h, k1, k2, szle' (by rw [List.length_map]; exact hz), fun r hr => q r hr⟩
theorem w_intI {i : Int} (q : Q (.int i) H) : rInt1 [.int i] H Q := .inl ⟨i, rfl, q⟩
theorem w_intB {k : Bool} (q : Q (.int (if k then 1 else 0)) H) : rInt1 [.bl k] H Q := .inr ⟨k, rfl, q⟩
theorem w_strI {i : Int} (h : i.natAbs.log2 < 1920) (q : Q (.str (toString i)) H) : rStrI [.int i] H Q := ⟨i, rfl, h, q⟩
theorem w_listof (h : SqL K H p xs) (q : ∀ l, H l = none → Q (.ref l) (upd H l (.lst xs))) : rListOf K [.ref p] H Q := ⟨p, xs, rfl, .inl h, q⟩
end

theorem mem_snoc {α : Type} {P : α → Prop} {xs : List α} {y : α} (h : ∀ x ∈ xs, P x) (hy : P y) : ∀ x ∈ xs ++ [y], P x := fun x hx => by
  rcases List.mem_append.mp hx with z | z
  · exact h x z
  · rw [List.mem_singleton.mp z]
    exact hy
theorem len_snoc {α : Type} {xs : List α} {y : α} {i : Nat} (h : xs.length = i) : (xs ++ [y]).length = i + 1 := by simp [h]

/-! ### data -/
section
variable {K : PySem.W.Frag} {H : Hp}
theorem dpAll_ints : ∀ ns : List Int, DpAll K H (ns.map V.int) (ns.map PyData.int)
  | [] => .nil
  | n :: ns => .cons (.int n) (dpAll_ints ns)
theorem canLay_ints : ∀ ns : List Int, PyData.canLayAll0 (ns.map PyData.int) = true
  | [] => rfl
  | n :: ns => by
    have ih := canLay_ints ns
    simp only [List.map_cons, PyData.canLayAll0, PyData.canLay0, ih, Bool.and_self]
theorem depth_ints : ∀ ns : List Int, PyData.depthAll (ns.map PyData.int) ≤ 1
  | [] => by simp [PyData.depthAll]
  | n :: ns => by
    have ih := depth_ints ns
    simp only [List.map_cons, PyData.depthAll, PyData.depth]
    omega
theorem shaped_ints (ns : List Int) : SeqAt.shaped (.list (ns.map PyData.int)) = true := by
  unfold SeqAt.shaped
  have h1 : PyData.canLay0 (.list (ns.map PyData.int)) = true := by simp only [PyData.canLay0]; exact canLay_ints ns
  have h2 : PyData.depth (.list (ns.map PyData.int)) ≤ 64 := by
    have := depth_ints ns
    simp only [PyData.depth]
    omega
  rw [h1, decide_eq_true h2]
  rfl
theorem eqvAll_ints : ∀ ns ms : List Int, PyData.eqvAll (ns.map PyData.int) (ms.map PyData.int) = decide (ns = ms)
  | [], [] => by simp [PyData.eqvAll]
  | [], m :: ms => by simp [PyData.eqvAll]
  | n :: ns, [] => by simp [PyData.eqvAll]
  | n :: ns, m :: ms => by
    simp only [List.map_cons, PyData.eqvAll, PyData.eqv, eqvAll_ints ns ms]
    by_cases h : n = m
    · subst h
      by_cases h2 : ns = ms <;> simp [h2]
    · simp [h]
theorem eqv_ints (ns ms : List Int) : PyData.eqv (.list (ns.map PyData.int)) (.list (ms.map PyData.int)) = decide (ns = ms) := by
  simp only [PyData.eqv]
  exact eqvAll_ints ns ms
theorem dp_ints {p : Addr} {ns : List Int} (h : SqL K H p (ns.map V.int)) : Dp K H (.ref p) (.list (ns.map PyData.int)) := .lst h (dpAll_ints ns)
variable {p q : Addr} {ns ms : List Int} {Q : VK}
theorem w_eqLI (h1 : SqL K H p (ns.map V.int)) (h2 : SqL K H q (ms.map V.int)) (k : Q (.bl (decide (ns = ms))) H) : rEqD K (.ref p) (.ref q) H Q :=
  ⟨_, _, dp_ints h1, dp_ints h2, shaped_ints _, shaped_ints _, by rw [eqv_ints]; exact k⟩
theorem w_neLI (h1 : SqL K H p (ns.map V.int)) (h2 : SqL K H q (ms.map V.int)) (k : Q (.bl (!decide (ns = ms))) H) : rNeD K (.ref p) (.ref q) H Q :=
  ⟨_, _, dp_ints h1, dp_ints h2, shaped_ints _, shaped_ints _, by rw [eqv_ints]; exact k⟩
theorem w_eqNil (h1 : SqL K H p (ns.map V.int)) (h2 : SqL K H q []) (k : Q (.bl (decide (ns = []))) H) : rEqD K (.ref p) (.ref q) H Q := w_eqLI (ms := []) h1 h2 k
theorem w_neNil (h1 : SqL K H p (ns.map V.int)) (h2 : SqL K H q []) (k : Q (.bl (!decide (ns = []))) H) : rNeD K (.ref p) (.ref q) H Q := w_neLI (ms := []) h1 h2 k
end

/-! ### loops -/
def ForB (g : TG) (tb : TS) (D : Ends) (σ : L2.St) : It → Hp → Prop := fun J H1 => ∃ W : Nat → Nat → L2.St → Hp → Prop, (∃ m, W 0 m σ H1) ∧ ∀ i m σ H, W i m σ H →
  (J.stop i H ∧ D.nx σ H) ∨ (J.go i H ∧ ∃ N : L2.St → Hp → Prop, (∀ σ' H', N σ' H' → ∃ m', m' < m ∧ W (i + 1) m' σ' H') ∧ ∀ x H', J.yld i H x H' → g x σ H' fun σ2 H2 => tb { D with nx := N, ct := N, bk := D.nx } σ2 H2)
/-- y is appended to the new list at L, then N -/
def AppE (L : Addr) (N : Hp → Prop) : V → Hp → Prop := fun y H4 => ∃ acc, H4 L = some (.lst acc) ∧ acc.length < sizeLine ∧ N (upd H4 L (.lst (acc ++ [y])))
def LcB (g : TG) (tt : TT) (te : TE) (vs : List Nat) (σ : L2.St) (Q : VK) : It → Hp → Prop := fun J H1 => ∀ D, H1 D = none → ∃ W : Nat → Nat → Hp → Prop, (∃ m, W 0 m (upd H1 D (.lst []))) ∧ ∀ i m H, W i m H →
  (J.stop i H ∧ Q (.ref D) H) ∨ (J.go i H ∧ ∃ Nx : Hp → Prop, (∀ H', Nx H' → ∃ m', m' < m ∧ W (i + 1) m' H') ∧ ∀ x H', J.yld i H x H' → g x (wipe σ vs) H' fun σ2 H2 => wipe σ2 vs = wipe σ vs ∧ tt σ2 H2 fun b H3 =>
    if b = true then te σ2 H3 (AppE D Nx) else Nx H3)
section
variable {K : PySem.W.Frag} {σ : L2.St} {H : Hp} {D : Ends} {wi : TI} {g : TG} {tb : TS} {tt : TT} {te tl : TE} {ta : TA} {vs : List Nat} {Q : VK} {R : It → Hp → Prop} {a : Addr} {xs : List V} {lo j : Int} {n : Nat}
theorem w_for (h : wi σ H (ForB g tb D σ)) : tFor wi g tb D σ H := h
theorem w_lc (h : wi σ H (LcB g tt te vs σ Q)) : tLc wi g tt te vs σ H Q := h
def LstE (K : PySem.W.Frag) (R : It → Hp → Prop) : V → Hp → Prop := fun x H1 => ∃ a, x = .ref a ∧ (∃ xs, SqL K H1 a xs) ∧ R (Itl K a) H1
def Rng1E (R : It → Hp → Prop) : List V → Hp → Prop := fun vs H1 => ∃ j : Int, vs = [.int j] ∧ -(2 ^ 62) ≤ j ∧ j < 2 ^ 62 ∧ R (Itr 0 j.toNat) H1
def Rng2E (R : It → Hp → Prop) : List V → Hp → Prop := fun vs H1 => ∃ i j : Int, vs = [.int i, .int j] ∧ (-(2 ^ 62) ≤ i ∧ i < 2 ^ 62 ∧ -(2 ^ 62) ≤ j ∧ j < 2 ^ 62) ∧ R (Itr i (j - i).toNat) H1
theorem w_iList (h : tl σ H (LstE K R)) : iList K tl σ H R := h
theorem w_iListE (h : SqL K H a xs) (q : R (Itl K a) H) : LstE K R (.ref a) H := ⟨a, rfl, ⟨xs, h⟩, q⟩
theorem w_rng1 (h : ta σ H (Rng1E R)) : iRng1 ta σ H R := h
theorem w_rng1E (h1 : -(2 ^ 62) ≤ j) (h2 : j < 2 ^ 62) (q : R (Itr 0 j.toNat) H) : Rng1E R [.int j] H := ⟨j, rfl, h1, h2, q⟩
theorem w_rng2 (h : ta σ H (Rng2E R)) : iRng2 ta σ H R := h
theorem w_rng2E (h1 : -(2 ^ 62) ≤ lo ∧ lo < 2 ^ 62 ∧ -(2 ^ 62) ≤ j ∧ j < 2 ^ 62) (q : R (Itr lo (j - lo).toNat) H) : Rng2E R [.int lo, .int j] H := ⟨lo, j, rfl, h1, q⟩
theorem f_range (Pv : Nat → L2.St → Hp → Prop) (h0 : Pv 0 σ H) (hs : ∀ i σ H, i < n → Pv i σ H → g (.int (lo + i)) σ H fun σ2 H2 => tb { D with nx := Pv (i + 1), ct := Pv (i + 1), bk := D.nx } σ2 H2) (hd : ∀ σ H, Pv n σ H → D.nx σ H) :
    ForB g tb D σ (Itr lo n) H := for_range Pv h0 hs hd
theorem f_list (xs : List V) (Pv : Nat → L2.St → Hp → Prop) (h0 : Pv 0 σ H) (hl : ∀ i σ H, i ≤ xs.length → Pv i σ H → SqL K H a xs) (hs : ∀ i x σ H, xs[i]? = some x → Pv i σ H → g x σ H fun σ2 H2 => tb { D with nx := Pv (i + 1), ct := Pv (i + 1), bk := D.nx } σ2 H2) (hd : ∀ σ H, Pv xs.length σ H → D.nx σ H) :
    ForB g tb D σ (Itl K a) H := for_list Pv h0 hl hs hd
theorem f_tup (xs : List V) (Pv : Nat → L2.St → Hp → Prop) (h0 : Pv 0 σ H) (hl : ∀ i σ H, i ≤ xs.length → Pv i σ H → SqT K H a xs) (hs : ∀ i x σ H, xs[i]? = some x → Pv i σ H → g x σ H fun σ2 H2 => tb { D with nx := Pv (i + 1), ct := Pv (i + 1), bk := D.nx } σ2 H2) (hd : ∀ σ H, Pv xs.length σ H → D.nx σ H) :
    ForB g tb D σ (Itt K a) H := for_tup Pv h0 hl hs hd
/-- enumerate: each turn a new pair -/
theorem f_enum (xs : List V) (Pv : Nat → L2.St → Hp → Prop) (h0 : Pv 0 σ H) (hl : ∀ i σ H, i ≤ xs.length → Pv i σ H → SqL K H a xs)
    (hs : ∀ (i : Nat) (x : V) (T : Addr) (σ : L2.St) (H : Hp), xs[i]? = some x → Pv i σ H → H T = none → g (.ref T) σ (upd H T (.tup [.int (i : Nat), x])) fun σ2 H2 => tb { D with nx := Pv (i + 1), ct := Pv (i + 1), bk := D.nx } σ2 H2) (hd : ∀ σ H, Pv xs.length σ H → D.nx σ H) :
    ForB g tb D σ (Ite K a) H := by
  refine ⟨fun i m σ H => m = xs.length - i ∧ i ≤ xs.length ∧ Pv i σ H, ⟨xs.length, by simp, Nat.zero_le _, h0⟩, ?_⟩
  rintro i m σ H ⟨rfl, hi, p⟩
  have q := hl i σ H hi p
  by_cases hlt : i < xs.length
  · refine .inr ⟨⟨xs, xs[i], q, by simp [hlt]⟩, Pv (i + 1), fun σ' H' p' => ⟨xs.length - (i + 1), by omega, rfl, hlt, p'⟩, fun x H' y => ?_⟩
    obtain ⟨T, x', rfl, hT, rfl, f1⟩ := y
    exact hs i x' T σ H (f1 xs q) p hT
  · have e : i = xs.length := by omega
    subst e
    exact .inl ⟨⟨xs, q, Nat.le_refl _⟩, hd σ H p⟩
theorem f_zip {b : Addr} (xs ys : List V) (hl : xs.length = ys.length) (Pv : Nat → L2.St → Hp → Prop) (h0 : Pv 0 σ H) (hq : ∀ i σ H, Pv i σ H → SqL K H a xs ∧ SqL K H b ys)
    (hs : ∀ (i : Nat) (x y : V) (T : Addr) (σ : L2.St) (H : Hp), xs[i]? = some x → ys[i]? = some y → Pv i σ H → H T = none → g (.ref T) σ (upd H T (.tup [x, y])) fun σ2 H2 => tb { D with nx := Pv (i + 1), ct := Pv (i + 1), bk := D.nx } σ2 H2) (hd : ∀ σ H, Pv xs.length σ H → D.nx σ H) :
    ForB g tb D σ (Itz K a b) H := by
  refine ⟨fun i m σ H => m = xs.length - i ∧ i ≤ xs.length ∧ Pv i σ H, ⟨xs.length, rfl, Nat.zero_le _, h0⟩, ?_⟩
  rintro i m σ H ⟨rfl, hi, p⟩
  obtain ⟨qx, qy⟩ := hq i σ H p
  by_cases hlt : i < xs.length
  · have hx : xs[i]? = some xs[i] := List.getElem?_eq_getElem hlt
    have hlt2 : i < ys.length := by omega
    have hy : ys[i]? = some ys[i] := List.getElem?_eq_getElem hlt2
    refine .inr ⟨⟨xs, ys, _, _, qx, qy, hx, hy⟩, Pv (i + 1), fun σ' H' p' => ⟨xs.length - (i + 1), by omega, rfl, hlt, p'⟩, fun v H' y => ?_⟩
    obtain ⟨T, x', y', rfl, hT, rfl, f1, f2⟩ := y
    exact hs i x' y' T σ H (f1 xs qx) (f2 ys qy) p hT
  · have e : i = xs.length := by omega
    subst e
    exact .inl ⟨⟨xs, ys, qx, qy, Or.inl (Nat.le_refl _)⟩, hd σ H p⟩
def EnuE (K : PySem.W.Frag) (R : It → Hp → Prop) : List V → Hp → Prop := fun vs H1 => ∃ a xs, vs = [.ref a] ∧ SqL K H1 a xs ∧ R (Ite K a) H1
theorem w_enum (h : ta σ H (EnuE K R)) : iEnum K ta σ H R := h
theorem w_enumE (h : SqL K H a xs) (q : R (Ite K a) H) : EnuE K R [.ref a] H := ⟨a, xs, rfl, h, q⟩
def ZipE (K : PySem.W.Frag) (R : It → Hp → Prop) : List V → Hp → Prop := fun vs H1 => ∃ a b xs ys, vs = [.ref a, .ref b] ∧ SqL K H1 a xs ∧ SqL K H1 b ys ∧ R (Itz K a b) H1
theorem w_zip (h : ta σ H (ZipE K R)) : iZip K ta σ H R := h
theorem w_zipE {b : Addr} {ys : List V} (h : SqL K H a xs) (h2 : SqL K H b ys) (q : R (Itz K a b) H) : ZipE K R [.ref a, .ref b] H := ⟨a, b, xs, ys, rfl, h, h2, q⟩
theorem w_gTup {k : Nat} {t : TGs} {Q : L2.St → Hp → Prop} (h : SqT K H a xs) (e : xs.length = k) (q : t xs σ H Q) : gTup K k t (.ref a) σ H Q := ⟨a, xs, rfl, h, e, q⟩
theorem w_gLst {k : Nat} {t : TGs} {Q : L2.St → Hp → Prop} (h : SqL K H a xs) (e : xs.length = k) (q : t xs σ H Q) : gLst K k t (.ref a) σ H Q := ⟨a, xs, rfl, h, e, q⟩
theorem w_gNil {Q : L2.St → Hp → Prop} (q : Q σ H) : gNil [] σ H Q := ⟨rfl, q⟩
theorem w_gCons {v : V} {r : List V} {u : TGs} {Q : L2.St → Hp → Prop} (q : g v σ H fun σ' H' => u r σ' H' Q) : gCons g u (v :: r) σ H Q := ⟨v, r, rfl, q⟩
theorem l_range (Pv : Addr → Nat → Hp → Prop) (h0 : ∀ L, H L = none → Pv L 0 (upd H L (.lst []))) (hs : ∀ L i H', H L = none → i < n → Pv L i H' → g (.int (lo + i)) (wipe σ vs) H' fun σ2 H2 => wipe σ2 vs = wipe σ vs ∧ tt σ2 H2 fun b H3 => if b = true then te σ2 H3 (AppE L (Pv L (i + 1))) else Pv L (i + 1) H3)
    (hd : ∀ L H', H L = none → Pv L n H' → Q (.ref L) H') : LcB g tt te vs σ Q (Itr lo n) H := fun L hL => lc_range (Pv L) (h0 L hL) (fun i H' => hs L i H' hL) (fun H' => hd L H' hL)
theorem l_list (xs : List V) (Pv : Addr → Nat → Hp → Prop) (h0 : ∀ L, H L = none → Pv L 0 (upd H L (.lst []))) (hl : ∀ L i H', H L = none → i ≤ xs.length → Pv L i H' → SqL K H' a xs) (hs : ∀ L i x H', H L = none → xs[i]? = some x → Pv L i H' → g x (wipe σ vs) H' fun σ2 H2 => wipe σ2 vs = wipe σ vs ∧ tt σ2 H2 fun b H3 => if b = true then te σ2 H3 (AppE L (Pv L (i + 1))) else Pv L (i + 1) H3)
    (hd : ∀ L H', H L = none → Pv L xs.length H' → Q (.ref L) H') : LcB g tt te vs σ Q (Itl K a) H := fun L hL => lc_list (Pv L) (h0 L hL) (fun i H' => hl L i H' hL) (fun i x H' => hs L i x H' hL) (fun H' => hd L H' hL)
theorem w_tYes {B : Bool → Hp → Prop} (h : B true H) : tYes σ H B := h
theorem w_appE {L : Addr} {N : Hp → Prop} {ys : List V} {y : V} (h : H L = some (.lst ys)) (hz : ys.length < 16777216) (q : N (upd H L (.lst (ys ++ [y])))) : AppE L N y H := ⟨ys, h, szlt hz, q⟩
theorem w_appEI {L : Addr} {N : Hp → Prop} {ys : List Int} {m : Int} (h : H L = some (.lst (ys.map V.int))) (hz : ys.length < 16777216) (q : N (upd H L (.lst ((ys ++ [m]).map V.int)))) : AppE L N (.int m) H := ⟨_, h, by rw [List.length_map]; exact szlt hz, by rw [map_snoc]; exact q⟩
theorem w_appEB {L : Addr} {N : Hp → Prop} {ys : List Bool} {m : Bool} (h : H L = some (.lst (ys.map V.bl))) (hz : ys.length < 16777216) (q : N (upd H L (.lst ((ys ++ [m]).map V.bl)))) : AppE L N (.bl m) H := ⟨_, h, by rw [List.length_map]; exact szlt hz, by rw [show ys.map V.bl ++ [V.bl m] = (ys ++ [m]).map V.bl by simp]; exact q⟩
/-- [f n for n in ints], the element leaving all as it is: target in slot j -/
theorem l_map (ns : List Int) (f : Int → Int) {j : Nat} (hx : SqL K H a (ns.map V.int)) (hj : ∀ v, wipe ((wipe σ vs).set j (some v)) vs = wipe σ vs) (hz : ns.length ≤ 16777216)
    (he : ∀ (i : Nat) (n : Int) (H' : Hp), ns[i]? = some n → Fr [] H H' → ∀ Q : VK, (∀ H2, Fr [] H' H2 → Q (.int (f n)) H2) → te ((wipe σ vs).set j (some (.int n))) H' Q)
    (k : ∀ L H', H L = none → Fr [] H H' → H' L = some (.lst ((ns.map f).map V.int)) → Q (.ref L) H') : LcB (gName j) tYes te vs σ Q (Itl K a) H := by
  refine l_list (ns.map V.int) (fun L i H' => Fr [] H H' ∧ H' L = some (.lst (((ns.take i).map f).map V.int))) (fun L hL => ⟨Fr.refl.new hL, upd_same⟩) (fun L i H' hL _ h => h.1.seqL (by simp) hx) (fun L i x H' hL e h => ?_) (fun L H' hL h => ?_)
  · obtain ⟨n, en, rfl⟩ := map_at e
    obtain ⟨h1, h2⟩ := h
    refine w_gname ⟨hj _, w_tYes (w_iteT ?_)⟩
    refine he i n H' en h1 _ fun H2 f2 => ⟨_, f2.at0 h2, ?_, ((h1.trans f2).put (.inl hL)), ?_⟩
    · rw [List.length_map, List.length_map, List.length_take]
      have q := (List.getElem?_eq_some_iff.mp en).1
      exact szlt (by omega)
    · rw [upd_same]
      have q := List.take_succ (l := ns) (i := i)
      rw [en] at q
      rw [q]
      simp
  · have e : ns.take (ns.map V.int).length = ns := by rw [List.length_map]; exact List.take_length ..
    obtain ⟨h1, h2⟩ := h
    rw [e] at h2
    exact k L H' hL h1 h2
end

/-- calls by keywords -/
def KwE (n : Nat) (ix : List Nat) (sp : Sp) (Q : VK) : List V → Hp → Prop := fun zs H => zs.length = n ∧ sp (pick ix zs) H Q E0
def MkE (C : Addr) (n : Nat) (ix : List Nat) (sp : Sp) (Q : VK) : List V → Hp → Prop := fun zs H2 => ([] : List V).length = 0 ∧ zs.length = n ∧ ∀ x dx, H2 x = none → H2 dx = none → dx ≠ x →
  sp ([.ref x] ++ pick ix zs) (upd (upd H2 dx (.own x)) x (.ins C dx [])) (fun v H3 => v = .non ∧ Q (.ref x) H3) E0
def MkwE (n : Nat) (ix : List Nat) (sp : Sp) (Q : VK) (x : V) : List V → Hp → Prop := fun zs H => zs.length = n ∧ sp (x :: pick ix zs) H Q E0
def MethKE (C : Addr) (m : Str) (n : Nat) (ix : List Nat) (sp : Sp) (tk : TA) (σ : L2.St) (Q : VK) : V → Hp → Prop := fun x H1 => ∃ a dx fs, x = .ref a ∧ H1 a = some (.ins C dx fs) ∧ fs.lookup m = none ∧ tk σ H1 (MkwE n ix sp Q x)
section
variable {σ : L2.St} {H : Hp} {n : Nat} {ix : List Nat} {sp : Sp} {Q : VK} {tk : TA} {ta : TE} {zs : List V} {C a dx : Addr} {m : Str} {fs : List (Str × V)} {x : V}
theorem w_callK0 (h : tk σ H (KwE n ix sp Q)) : tCallK0 n ix sp tk σ H Q := h
theorem w_kwE (e : zs.length = n) (q : sp (pick ix zs) H Q E0) : KwE n ix sp Q zs H := ⟨e, q⟩
theorem w_makeK (h : tk σ H (MkE C n ix sp Q)) : tMakeK C 0 n sp (fun vs zs => vs ++ pick ix zs) E0 tNil tk σ H Q := h
theorem w_mkE (e : zs.length = n) (q : ∀ x dx, H x = none → H dx = none → dx ≠ x → sp ([.ref x] ++ pick ix zs) (upd (upd H dx (.own x)) x (.ins C dx [])) (fun v H3 => v = .non ∧ Q (.ref x) H3) E0) : MkE C n ix sp Q zs H := ⟨rfl, e, q⟩
theorem w_methK (h : ta σ H (MethKE C m n ix sp tk σ Q)) : tMethK0 C m n ix sp ta tk σ H Q := h
theorem w_methKE (h : H a = some (.ins C dx fs)) (e : fs.lookup m = none) (q : tk σ H (MkwE n ix sp Q (.ref a))) : MethKE C m n ix sp tk σ Q (.ref a) H := ⟨a, dx, fs, rfl, h, e, q⟩
theorem w_mkwE (e : zs.length = n) (q : sp (x :: pick ix zs) H Q E0) : MkwE n ix sp Q x zs H := ⟨e, q⟩
end
def LenSE (K : PySem.W.Frag) (Q : VK) : V → Hp → Prop := fun x H1 => ∃ (l : Addr) (ns : List Int), x = .ref l ∧ SqL K H1 l (ns.map V.int) ∧ ns.length ≤ 4000 ∧ Q (.int ((distinct ns).length : Nat)) H1
section
variable {K : PySem.W.Frag} {σ : L2.St} {H : Hp} {ta : TE} {Q : VK} {a : Addr} {ns : List Int} {b : Bool}
theorem w_lenSet (h : ta σ H (LenSE K Q)) : tLenSetJ K ta σ H Q := h
theorem w_lenSE (h : SqL K H a (ns.map V.int)) (hl : ns.length ≤ 4000) (q : Q (.int ((distinct ns).length : Nat)) H) : LenSE K Q (.ref a) H := ⟨a, ns, rfl, h, hl, q⟩
/-- isinstance by built-in classes -/
theorem w_isi {x : V} {n : String} {t : Value} (h : TyX K H x t) (e : PySem.W.kitOne K t (.type n) = some b) (q : Q (.bl b) H) : rIsi K [x, .ty n] H Q := ⟨x, .ty n, t, .type n, b, rfl, .ty n, h, e, q⟩
theorem tyx_lst {xs : List V} (h : H a = some (.lst xs)) : TyX K H (.ref a) (.type "list") := .base (.lst h)
theorem tyx_tup {xs : List V} (h : H a = some (.tup xs)) : TyX K H (.ref a) (.type "tuple") := .base (.tup h)
def SrtKE (K : PySem.W.Frag) (b : Bool) (Q : VK) : List V → List V → Hp → Prop := fun vs zs H => rSortedKw K b [.bl b] vs zs H Q
theorem w_sortKw {t tk : TA} {r : List V → List V → Hp → VK → Prop} (h : t σ H fun vs H1 => tk σ H1 fun zs H2 => r vs zs H2 Q) : tCKw r t tk σ H Q := h
theorem w_sortedKw (h : SqL K H a (ns.map V.int)) (q : ∀ (ns' : List Int) (p : Addr), ns'.Perm ns → OrdB b ns' → H p = none → Q (.ref p) (upd H p (.lst (ns'.map V.int)))) : rSortedKw K b [.bl b] [.ref a] [.bl b] H Q := ⟨a, ns, rfl, rfl, h, q⟩
theorem w_sortedI (h : SqL K H a (ns.map V.int)) (q : ∀ (ns' : List Int) (p : Addr), ns'.Perm ns → ns'.Pairwise (· ≤ ·) → H p = none → Q (.ref p) (upd H p (.lst (ns'.map V.int)))) : rSortedI K [.ref a] H Q := ⟨a, ns, rfl, h, q⟩
theorem w_extendI {q : Addr} {ms : List Int} (h1 : H a = some (.lst (ns.map V.int))) (h2 : H q = some (.lst (ms.map V.int))) (hz : ns.length + ms.length ≤ 16777216) (k : Q .non (upd H a (.lst ((ns ++ ms).map V.int)))) : rExtend (.ref a) [.ref q] H Q :=
  ⟨a, q, _, _, rfl, rfl, h1, h2, szle' (by rw [List.length_map, List.length_map]; exact hz), by rw [← List.map_append]; exact k⟩
/-- [m] * k -/
theorem w_rep1 {k m : Int} (h : H a = some (.lst [.int m])) (k1 : -(2 ^ 63) ≤ k) (k2 : k ≤ 16777216) (q : ∀ r, H r = none → Q (.ref r) (upd H r (.lst ((List.replicate k.toNat m).map V.int)))) : rRep (.ref a) (.int k) H Q := by
  refine ⟨a, k, _, rfl, rfl, h, k1, Int.lt_of_le_of_lt k2 (by decide), szle' (by simp; omega), fun r hr => ?_⟩
  have e : (List.replicate k.toNat [V.int m]).flatten = (List.replicate k.toNat m).map V.int := by
    rw [List.map_replicate]
    generalize k.toNat = j
    induction j with
    | zero => rfl
    | succ j ih => rw [List.replicate_succ, List.flatten_cons, ih, List.replicate_succ]; rfl
  rw [e]
  exact q r hr
end
section
variable {σ : L2.St} {H : Hp} {c : TT} {tb : TS} {D : Ends}
def WhT (W : Nat → L2.St → Hp → Prop) (m : Nat) (tb : TS) (D : Ends) (σ : L2.St) (H1 : Hp) : Prop := ∃ N : L2.St → Hp → Prop, (∀ σ' H', N σ' H' → ∃ m', m' < m ∧ W m' σ' H') ∧ tb { D with nx := N, ct := N, bk := D.nx } σ H1
theorem w_while (W : Nat → L2.St → Hp → Prop) (m0 : Nat) (h0 : W m0 σ H) (hs : ∀ m σ H, W m σ H → c σ H fun b H1 => if b = true then WhT W m tb D σ H1 else D.nx σ H1) : tWhile c tb D σ H := ⟨W, ⟨m0, h0⟩, hs⟩
theorem w_whT {W : Nat → L2.St → Hp → Prop} {m : Nat} (q : tb { D with nx := fun σ' H' => ∃ m', m' < m ∧ W m' σ' H', ct := fun σ' H' => ∃ m', m' < m ∧ W m' σ' H', bk := D.nx } σ H) : WhT W m tb D σ H := ⟨_, fun _ _ h => h, q⟩
end
/-! ### joins, dicts -/
section
variable {K : PySem.W.Frag} {σ : L2.St} {H : Hp} {D : Ends} {c : TT} {t1 t2 : TS} {td ty tv ta tb te : TE} {Q : VK} {a g : Addr} {kvs kvs' : List (Key × V)} {k : Str} {v x y : V} {R : Hp → Prop} {S S' : List Addr} {H1 H2 : Hp}
/-- one continuation for both branches: I holds at their ends -/
theorem w_ifJ (I : L2.St → Hp → Prop) (h : ∀ N : L2.St → Hp → Prop, (∀ σ H, I σ H → N σ H) → tIfS c t1 t2 { D with nx := N } σ H) (k : ∀ σ H, I σ H → D.nx σ H) : tIfS c t1 t2 D σ H := h D.nx k
def DGE (x : V) (Q : VK) : V → Hp → Prop := fun y H2 => ∃ a v, x = .ref a ∧ DGet H2 a y (some v) ∧ Q v H2
theorem w_dget (h : td σ H fun x H1 => ty σ H1 (DGE x Q)) : tDGet td ty σ H Q := h
theorem w_dgetE (h : H a = some (.dK kvs)) (e : valV kvs (.inr k) = some v) (q : Q v H) : DGE (.ref a) Q (.str k) H := ⟨a, v, rfl, by rw [← e]; exact DGet.k (k := .inr k) h, q⟩
def DPE (x : V) (v : V) (R : Hp → Prop) : V → Hp → Prop := fun y H3 => ∃ a H4, x = .ref a ∧ DPut H3 a y v H4 ∧ R H4
theorem w_dput (h : tv σ H fun v H1 => td σ H1 fun x H2 => ty σ H2 (DPE x v (D.nx σ))) : sDPut td ty tv D σ H := h
theorem w_dputE (h : H a = some (.dK kvs)) (hl : kvs.length < 16777216) (e : putK kvs (.inr k) v = kvs') (q : R (upd H a (.dK kvs'))) : DPE (.ref a) v R (.str k) H := ⟨a, _, rfl, DPut.k (k := .inr k) h (szlt hl), by rw [e]; exact q⟩
def DAE (tv : TE) (rd : V → V → Hp → VK → Prop) (R : Hp → Prop) (σ : L2.St) (x : V) : V → Hp → Prop := fun y H2 => ∃ a v, x = .ref a ∧ DGet H2 a y (some v) ∧ tv σ H2 fun y2 H3 => rd v y2 H3 fun z H4 => ∃ H5, DPut H4 a y z H5 ∧ R H5
theorem w_daug {rd : V → V → Hp → VK → Prop} (h : td σ H fun x H1 => ty σ H1 (DAE tv rd (D.nx σ) σ x)) : sDAug td ty tv rd D σ H := h
theorem w_daugE {rd : V → V → Hp → VK → Prop} (h : H a = some (.dK kvs)) (e : valV kvs (.inr k) = some v) (q : tv σ H fun y2 H3 => rd v y2 H3 fun z H4 => DPE (.ref a) z R (.str k) H4) : DAE tv rd R σ (.ref a) (.str k) H := by
  refine ⟨a, v, rfl, by rw [← e]; exact DGet.k (k := .inr k) h, ?_⟩
  have e2 : (fun (y2 : V) (H3 : Hp) => rd v y2 H3 fun z H4 => DPE (.ref a) z R (.str k) H4) = fun y2 H3 => rd v y2 H3 fun z H4 => ∃ H5, DPut H4 a (.str k) z H5 ∧ R H5 := by
    funext y2 H3
    congr 1
    funext z H4
    exact propext ⟨fun ⟨b, H5, e, p, r⟩ => by cases e; exact ⟨H5, p, r⟩, fun ⟨H5, p, r⟩ => ⟨a, H5, rfl, p, r⟩⟩
  rw [← e2]
  exact q
def keysOf : List (V × V) → List (Key × V)
  | [] => []
  | (.str s, v) :: r => (.inr s, v) :: keysOf r
  | _ :: r => keysOf r
def DspE (p : Addr) (Q : VK) : List (V × V) → Hp → Prop := fun ps H2 => H2 p = some (.dK []) ∧ ∃ kvs : List (Key × V), ps = kvs.map (fun kv => (kV kv.1, kv.2)) ∧ kvs.length ≤ 15 ∧ Q (.ref p) (upd H2 p (.dK (mergeK [] kvs)))
theorem w_disp {trs : List (TE × TE)} (h : ∀ p, H p = none → tPairs trs σ (upd H p (.dK [])) (DspE p Q)) : tDisp trs σ H Q := h
theorem w_pairN {R : List (V × V) → Hp → Prop} (h : R [] H) : tPairs [] σ H R := h
theorem w_pairC {tk tv : TE} {trs : List (TE × TE)} {R : List (V × V) → Hp → Prop} (h : tk σ H fun x H1 => tv σ H1 fun y H2 => tPairs trs σ H2 fun ps H3 => R ((x, y) :: ps) H3) : tPairs ((tk, tv) :: trs) σ H R := h
theorem valV_ne {p : Key × V} {r : List (Key × V)} {k : Key} (e : ¬ p.1 = k) : valV (p :: r) k = valV r k := valV_neg e
theorem mergeK_go : ∀ (more acc : List (Key × V)), (acc.map (·.1) ++ more.map (·.1)).Nodup → mergeK acc more = acc ++ more
  | [], acc, _ => by simp [mergeK]
  | p :: r, acc, h => by
    have hp : valV acc p.1 = none := by
      cases e : valV acc p.1 with
      | none => rfl
      | some z =>
        have e2 := valV_any p.1 acc
        rw [e] at e2
        obtain ⟨q, hq, hq2⟩ := List.any_eq_true.mp (show (acc.any fun kv => decide (kv.1 = p.1)) = true from e2)
        have hq3 := of_decide_eq_true hq2
        have := (List.nodup_append.mp h).2.2 q.1 (List.mem_map.mpr ⟨q, hq, rfl⟩) p.1 (by simp)
        exact absurd hq3 this
    have e : mergeK acc (p :: r) = mergeK (putK acc p.1 p.2) r := rfl
    rw [e, putK_new _ hp, mergeK_go r (acc ++ [(p.1, p.2)]) (by simpa using h)]
    simp
theorem w_dspE {p : Addr} {ps : List (V × V)} (h : H p = some (.dK [])) (e : ps = (keysOf ps).map fun kv => (kV kv.1, kv.2)) (hl : (keysOf ps).length ≤ 15) (n : ((keysOf ps).map (·.1)).Nodup) (q : Q (.ref p) (upd H p (.dK (keysOf ps)))) : DspE p Q ps H := by
  refine ⟨h, keysOf ps, e, hl, ?_⟩
  rw [mergeK_go _ [] (by simpa using n)]
  exact q
theorem mem2a {a g : Addr} : a ∈ [a, g] := by simp
theorem mem2b {a g : Addr} : g ∈ [a, g] := by simp
theorem nn3 {b a g : Addr} (h1 : b ≠ a) (h2 : b ≠ g) : b ∉ [a, g] := by simp [h1, h2]
theorem _root_.Pg.Fr.loc2 {p q : Addr} (h : Fr S H H1) (n : H p = none) (m : H q = none) (h' : Fr [p, q] H1 H2) : Fr S H H2 := fun b o z e => by
  refine h' b o (nn3 ?_ ?_) (h b o z e)
  · intro q
    rw [q, n] at e
    cases e
  · intro q
    rw [q, m] at e
    cases e
/-! ### pop, repr, texts of ints -/
theorem w_pop0 {ns : List Int} {m : Int} (h : H a = some (.lst ((m :: ns).map V.int))) (q : Q (.int m) (upd H a (.lst (ns.map V.int)))) : rPopAt (.ref a) [.int 0] H Q := by
  refine ⟨a, _, 0, 0, .int m, rfl, rfl, h, by decide, by decide, ?_, rfl, q⟩
  simp [seqIndex?]
end
def rReprI : List V → Hp → VK → Prop := fun xs H Q => ∃ i, xs = [.int i] ∧ i.natAbs.log2 < 1920 ∧ Q (.str (toString i)) H
theorem call_reprI {X : Cx} : CallR X (.builtin "repr") rReprI := SkE.call_repr_int
theorem w_reprI {i : Int} {H : Hp} {Q : VK} (h : i.natAbs.log2 < 1920) (q : Q (.str (toString i)) H) : rReprI [.int i] H Q := ⟨i, rfl, h, q⟩
theorem log_lt {i : Int} (h : i.natAbs < 2 ^ 250) : i.natAbs.log2 < 1920 := Nat.lt_of_lt_of_le (PySem.Flt.log2_lt_of (by decide) h) (by decide)
theorem w_eqS {s t : Str} {H : Hp} {Q : VK} (q : Q (.bl (decide (s = t))) H) : rEq (.str s) (.str t) H Q := ⟨rfl, by
  have e : decide (V.str s = V.str t) = decide (s = t) := by
    by_cases z : s = t
    · subst z
      rw [decide_eq_true rfl, decide_eq_true rfl]
    · rw [decide_eq_false z, decide_eq_false fun q => z (V.str.inj q)]
  rw [e]
  exact q⟩
theorem w_neS {s t : Str} {H : Hp} {Q : VK} (q : Q (.bl (!decide (s = t))) H) : rNe (.str s) (.str t) H Q := ⟨rfl, by
  have e : decide (V.str s = V.str t) = decide (s = t) := by
    by_cases z : s = t
    · subst z
      rw [decide_eq_true rfl, decide_eq_true rfl]
    · rw [decide_eq_false z, decide_eq_false fun q => z (V.str.inj q)]
  rw [e]
  exact q⟩
/-! ### slices, counts, pops -/
def cutI (ns : List Int) (lo hi : Option Int) : List Int := (ns.drop (HT.sIx ns.length 0 lo)).take (HT.sIx ns.length ns.length hi - HT.sIx ns.length 0 lo)
theorem cutV_ints (ns : List Int) (lo hi : Option Int) : cutV (ns.map V.int) lo hi = (cutI ns lo hi).map V.int := by
  unfold cutV cutI
  rw [List.length_map, List.map_take, List.map_drop]
theorem cutI_mem {ns : List Int} {lo hi : Option Int} {x : Int} (h : x ∈ cutI ns lo hi) : x ∈ ns := List.mem_of_mem_drop (List.mem_of_mem_take h)
theorem cutI_len (ns : List Int) (lo hi : Option Int) : (cutI ns lo hi).length ≤ ns.length := by
  unfold cutI
  rw [List.length_take, List.length_drop]
  omega
theorem cutI_take (ns : List Int) (n : Nat) : cutI ns none (some (n : Int)) = ns.take n := by
  unfold cutI
  rw [HT.sIx_nat, HT.sIx_none, List.drop_zero, Nat.sub_zero]
  by_cases h : n ≤ ns.length
  · rw [Nat.min_eq_left h]
  · rw [Nat.min_eq_right (by omega), List.take_length, List.take_of_length_le (by omega)]
theorem cutI_drop (ns : List Int) (n : Nat) : cutI ns (some (n : Int)) none = ns.drop n := by
  unfold cutI
  rw [HT.sIx_nat, HT.sIx_none]
  by_cases h : n ≤ ns.length
  · rw [Nat.min_eq_left h, List.take_of_length_le (by rw [List.length_drop]; omega)]
  · rw [Nat.min_eq_right (by omega), List.drop_length, List.drop_of_length_le (by omega)]
    simp
def PartE (R : Option Int → Hp → Prop) : V → Hp → Prop := fun x H1 => ∃ i, x = .int i ∧ R (some i) H1
section
variable {K : PySem.W.Frag} {σ : L2.St} {H : Hp} {ta tb te : TE} {Q : VK} {a p : Addr} {ns ms : List Int} {xs ys : List V} {m n : Int} {v x y : V} {tl th : TO}
theorem w_sl {r : V → Option Int → Option Int → Hp → VK → Prop} (h : te σ H fun x H1 => tl σ H1 fun l H2 => th σ H2 fun u H3 => r x l u H3 Q) : tSl r te tl th σ H Q := h
theorem w_noPart {R : Option Int → Hp → Prop} (h : R none H) : tNoPart σ H R := h
theorem w_part {R : Option Int → Hp → Prop} (h : te σ H (PartE R)) : tPart te σ H R := h
theorem w_partE {R : Option Int → Hp → Prop} (h : R (some m) H) : PartE R (.int m) H := ⟨m, rfl, h⟩
theorem w_slI {lo hi : Option Int} (h : SqL K H a (ns.map V.int)) (q : ∀ p, H p = none → Q (.ref p) (upd H p (.lst ((cutI ns lo hi).map V.int)))) : rSlL K (.ref a) lo hi H Q := ⟨a, _, rfl, h, fun p hp => by rw [cutV_ints]; exact q p hp⟩
theorem w_lcount (h : SqL K H a (ns.map V.int)) (q : Q (.int (ns.count m : Nat)) H) : rCntI K (.ref a) [.int m] H Q := ⟨a, ns, m, rfl, rfl, h, q⟩
theorem w_popAt (h : H a = some (.lst (ns.map V.int))) (h0 : 0 ≤ m) (h1 : m < ns.length) (hz : ns.length ≤ 16777216) (q : ∀ n, ns[m.toNat]? = some n → Q (.int n) (upd H a (.lst ((ns.eraseIdx m.toNat).map V.int)))) : rPopAt (.ref a) [.int m] H Q := by
  obtain ⟨n, hn, e2, e3⟩ := atI_ints h0 h1
  refine ⟨a, _, m, m.toNat, .int n, rfl, rfl, h, by omega, by omega, ?_, by rw [List.getElem?_map, e3]; rfl, by rw [erase_mapI]; exact q n e3⟩
  have hneg : ¬ m < 0 := by omega
  simp only [seqIndex?, List.length_map, hneg, if_false]
  rw [if_pos]
  simp only [Bool.and_eq_true, decide_eq_true_eq]
  omega
theorem w_setLI {Q : Hp → Prop} (h : H p = some (.lst (ns.map V.int))) (h0 : 0 ≤ m) (h1 : m < ns.length) (q : Q (upd H p (.lst ((ns.set m.toNat n).map V.int)))) : rSetL (.ref p) (.int m) (.int n) H Q := by
  refine ⟨p, _, m, m.toNat, rfl, rfl, h, ?_, by rw [← List.map_set]; exact q⟩
  rw [List.length_map]
  have z : ((m.toNat : Nat) : Int) = m := Int.toNat_of_nonneg h0
  unfold ixN
  rw [if_pos h0, if_pos h1]
theorem w_catLL {q : Addr} (h1 : H p = some (.lst xs)) (h2 : H q = some (.lst ys)) (e : xs = (unV xs).map V.int) (e2 : ys = (unV ys).map V.int) (hz : (unV xs).length + (unV ys).length ≤ 16777216) (k : ∀ r, H r = none → Q (.ref r) (upd H r (.lst ((unV xs ++ unV ys).map V.int)))) : rCat (.ref p) (.ref q) H Q :=
  w_catI (by rw [← e]; exact h1) (by rw [← e2]; exact h2) hz k
theorem w_isN (q : Q (.bl (decide (x = .non))) H) : rIsN x .non H Q := ⟨rfl, q⟩
theorem w_notN (q : Q (.bl (!decide (x = .non))) H) : rNotN x .non H Q := ⟨rfl, q⟩
theorem w_isNN (q : Q (.bl true) H) : rIsN .non .non H Q := ⟨rfl, q⟩
theorem w_isNI (q : Q (.bl false) H) : rIsN (.int m) .non H Q := ⟨rfl, q⟩
theorem w_isNR (q : Q (.bl false) H) : rIsN (.ref a) .non H Q := ⟨rfl, q⟩
theorem w_notNN (q : Q (.bl false) H) : rNotN .non .non H Q := ⟨rfl, q⟩
theorem w_notNI (q : Q (.bl true) H) : rNotN (.int m) .non H Q := ⟨rfl, q⟩
theorem w_notNR (q : Q (.bl true) H) : rNotN (.ref a) .non H Q := ⟨rfl, q⟩
def OrE (K : PySem.W.Frag) (tb : TE) (σ : L2.St) (Q : VK) : V → Hp → Prop := fun x H1 => ∃ k, TruV K x H1 k ∧ if k = true then Q x H1 else tb σ H1 Q
theorem w_orT (h : ta σ H (OrE K tb σ Q)) : tOrT K ta tb σ H Q := h
theorem w_orN (h : tb σ H Q) : OrE K tb σ Q .non H := ⟨false, rfl, w_iteF h⟩
theorem w_orI (h0 : m ≠ 0) (h : Q (.int m) H) : OrE K tb σ Q (.int m) H := ⟨true, by show true = _; simp [h0], w_iteT h⟩
theorem w_appV (h : H p = some (.lst xs)) (hz : xs.length < 16777216) (q : Q .non (upd H p (.lst (xs ++ [y])))) : rAppend (.ref p) [y] H Q := w_append h (szlt hz) q
theorem w_rep3 (h : H a = some (.lst [v])) (q : ∀ r, H r = none → Q (.ref r) (upd H r (.lst [v, v, v]))) : rRep (.ref a) (.int 3) H Q :=
  ⟨a, 3, _, rfl, rfl, h, by decide, by decide, szle rfl, fun r hr => q r hr⟩
end
theorem cmulW {i j : Int} {a b : Nat} (ha : i.natAbs < 2 ^ a) (hb : j.natAbs < 2 ^ b) (h : a + b < 1000000) (ha0 : 0 < a) (hb0 : 0 < b) : CMulW i j := by
  have h1 := PySem.Flt.log2_lt_of ha0 ha
  have h2 := PySem.Flt.log2_lt_of hb0 hb
  show i.natAbs.log2 + j.natAbs.log2 < 1000000
  omega
section
variable {σ : L2.St} {H : Hp} {ta tb : TE} {Q : VK} {b : Bool}
theorem w_andV (h : ta σ H fun x H1 => ∃ c, x = .bl c ∧ if c = true then tb σ H1 Q else Q (.bl false) H1) : tAndV ta tb σ H Q := h
theorem w_orV (h : ta σ H fun x H1 => ∃ c, x = .bl c ∧ if c = true then Q (.bl true) H1 else tb σ H1 Q) : tOrV ta tb σ H Q := h
theorem w_notV (h : ta σ H fun x H1 => ∃ c, x = .bl c ∧ Q (.bl (!c)) H1) : tNotV ta σ H Q := h
end
/-! ### range(i, j, -1), slices with a step -/
def Rng3E (R : It → Hp → Prop) : List V → Hp → Prop := fun vs H1 => ∃ (i j c : Int) (n : Nat), vs = [.int i, .int j, .int c] ∧ RgC i j c n ∧ R (Itc i c n) H1
section
variable {K : PySem.W.Frag} {σ : L2.St} {H : Hp} {D : Ends} {ta : TA} {R : It → Hp → Prop} {g : TG} {tb : TS} {te : TE} {tl ts : TO} {Q : VK} {a : Addr} {ns : List Int} {n : Nat} {i c : Int} {lo st : Option Int} {x : V}
theorem w_rng3 (h : ta σ H (Rng3E R)) : iRng3 ta σ H R := h
theorem f_rangeC (Pv : Nat → L2.St → Hp → Prop) (h0 : Pv 0 σ H) (hs : ∀ k σ H, k < n → Pv k σ H → g (.int (i + (k : Nat) * c)) σ H fun σ2 H2 => tb { D with nx := Pv (k + 1), ct := Pv (k + 1), bk := D.nx } σ2 H2) (hd : ∀ σ H, Pv n σ H → D.nx σ H) :
    ForB g tb D σ (Itc i c n) H := for_rangeC Pv h0 hs hd
def SlsE (K : PySem.W.Frag) (Q : VK) (x : V) (lo : Option Int) : Option Int → Hp → Prop := fun st H3 => ∃ a xs, x = .ref a ∧ SqL K H3 a xs ∧ st ≠ some 0 ∧ (pickSl xs lo st).length ≤ sizeLine ∧ ∀ p, H3 p = none → Q (.ref p) (upd H3 p (.lst (pickSl xs lo st)))
theorem w_sls (h : te σ H fun x H1 => tl σ H1 fun lo H2 => ts σ H2 (SlsE K Q x lo)) : tSlStep K te tl ts σ H Q := h
theorem pickSl_map (ns : List Int) : pickSl (ns.map V.int) lo st = (pickSl ns lo st).map V.int := by
  unfold pickSl
  rw [List.length_map, List.map_filterMap]
  congr 1
  funext k
  rw [List.getElem?_map]
theorem w_slsE (h : SqL K H a (ns.map V.int)) (h0 : st ≠ some 0) (hz : (pickSl ns lo st).length ≤ 16777216) (q : ∀ p, H p = none → Q (.ref p) (upd H p (.lst ((pickSl ns lo st).map V.int)))) : SlsE K Q (.ref a) lo st H :=
  ⟨a, _, rfl, h, h0, by rw [pickSl_map, List.length_map]; exact szle' hz, fun p hp => by rw [pickSl_map]; exact q p hp⟩
end
theorem w_rng3N {H : Hp} {R : It → Hp → Prop} {i j : Int} (h : -(2 ^ 62) ≤ i ∧ i < 2 ^ 62 ∧ -(2 ^ 62) ≤ j ∧ j < 2 ^ 62) (q : R (Itc i (-1) (i - j).toNat) H) : Rng3E R [.int i, .int j, .int (-1)] H :=
  ⟨i, j, -1, _, rfl, RgC.neg h.1 h.2.1 h.2.2.1 h.2.2.2, q⟩
theorem w_appendR {H : Hp} {Q : VK} {p y : Addr} {ps : List Addr} (h : H p = some (.lst (ps.map V.ref))) (hz : ps.length < 16777216) (q : Q .non (upd H p (.lst ((ps ++ [y]).map V.ref)))) : rAppend (.ref p) [.ref y] H Q :=
  w_append h (by rw [List.length_map]; exact szlt hz) (by rw [show ps.map V.ref ++ [V.ref y] = (ps ++ [y]).map V.ref by simp]; exact q)
section
variable {K : PySem.W.Frag} {σ : L2.St} {H : Hp} {te : TE} {Q : VK} {a : Addr} {ns : List Int}
def RevE (K : PySem.W.Frag) (Q : VK) : V → Hp → Prop := fun x H1 => ∃ a xs, x = .ref a ∧ SqL K H1 a xs ∧ ∀ p, H1 p = none → Q (.ref p) (upd H1 p (.lst xs.reverse))
theorem w_revL (h : te σ H (RevE K Q)) : tRevL K te σ H Q := h
theorem w_revE (h : SqL K H a (ns.map V.int)) (q : ∀ p, H p = none → Q (.ref p) (upd H p (.lst (ns.reverse.map V.int)))) : RevE K Q (.ref a) H := ⟨a, _, rfl, h, fun p hp => by rw [← List.map_reverse]; exact q p hp⟩
end
theorem w_whileJ {c : TT} {tb : TS} {D : Ends} {σ : L2.St} {H : Hp} (I : L2.St → Hp → Prop) (h : ∀ N : L2.St → Hp → Prop, (∀ σ H, I σ H → N σ H) → tWhile c tb { D with nx := N } σ H) (k : ∀ σ H, I σ H → D.nx σ H) : tWhile c tb D σ H := h D.nx k
theorem w_appER {L R : Addr} {N : Hp → Prop} {rs : List Addr} {H : Hp} (h : H L = some (.lst (rs.map V.ref))) (hz : rs.length < 16777216) (q : N (upd H L (.lst ((rs ++ [R]).map V.ref)))) : AppE L N (.ref R) H := ⟨_, h, by rw [List.length_map]; exact szlt hz, by rw [show rs.map V.ref ++ [V.ref R] = (rs ++ [R]).map V.ref by simp]; exact q⟩
end Pg

namespace Pg
open PySem PySem.Spec PyProof.Rows L2
/-! ### defs that are run where no repr is under way -/
structure FnG (P : Program) (w : World) (K : PySem.W.Frag) (mg : Str → Option Value) (base : Heap) (k : Nat) (f : Addr) (fd : FuncData) (ps : List Str) (sp : Sp) : Prop where
  len : ∀ vs H Q E, sp vs H Q E → vs.length = ps.length
  run : ∀ (A : Around) (outer : List Env) (s : Shared) (H : Hp) (args : Args) (us : List Value) (vs : List V) (Q : VK) (E : XK), Room k A → A.guards = some [] → Env0 P w K mg base A outer s H →
    BindsTo s fd args (ps.zip us) → Vals vs us → sp vs H Q E → codeAny (model P w) A (.call (.ref f) args) (CR CX0 outer P w H s Q E) s
structure GefAt (P : Program) (w : World) (K : PySem.W.Frag) (mg : Str → Option Value) (base : Heap) (x : Str) (st : Stmt) (k : Nat) (ps : List Str) (sp : Sp) : Prop where
  ex : ∃ f fd, mg x = some (.ref f) ∧ Fun K x x st f fd ∧ FnG P w K mg base k f fd ps sp ∧ Binds K fd ps []
section
variable {P : Program} {w : World} {K : PySem.W.Frag} {mg : Str → Option Value} {base : Heap} {x : Str} {st : Stmt} {k : Nat} {ps N : List Str} {sp : Sp}
theorem CE.of_inv {qual : Str} {scope : Scope} {f : Addr} {cd : Value} {A : Around} {outer : List Env} {s s' : Shared} {H H' : Hp} {E : XK} {σ : L2.St} {v : V} {u : Value} {Q : VK}
    (J : Inv (cxOf CX0 P w K mg base N qual scope f cd A outer s H E) [] σ H' s') (r : RelV v u) (q : Q v H') : CE outer P w H s Q u s' := ⟨v, H', J.os, J.bare, J.base, J.hok, r, q⟩
/-- a def by its body, which may look at what is under way -/
theorem FunAt.okG (F : FunAt K mg x st) (S : FnScope N ps (defScope st)) (len : ∀ vs H Q E, sp vs H Q E → vs.length = ps.length)
    (hb : ∀ (kV doc pm : Value) (an : Option Addr) (cdv ct : Value) (us : List Value), us.length = ps.length → bindArgs (PySem.W.fnOf x x (defArgs st) (defBody st) (defScope st) .none kV doc pm an cdv ct) ⟨us, []⟩ = pure (ps.zip us))
    (hbody : ∀ (f : Addr) (cdv : Value) (A : Around) (outer : List Env) (s : Shared) (H : Hp) (vs : List V) (Q : VK) (E : XK), Room k (A.deeper (envOfC x (defScope st) s.heap.objs.size f cdv)) → (A.deeper (envOfC x (defScope st) s.heap.objs.size f cdv)).guards = some [] → sp vs H Q E →
      ∃ t, PSs (cxOf CX0 P w K mg base N x (defScope st) f cdv A outer s H E).nox (defBody st) t ∧ t { nx := fun _ H' => Q .non H', rt := Q } (start N vs) H) : GefAt P w K mg base x st (k + 1) ps sp := by
  obtain ⟨f, fd, hm, F⟩ := F.ex
  refine ⟨f, fd, hm, F, ⟨len, ?_⟩, F.binds hb⟩
  obtain ⟨oc, od, kV, doc, pm, an, cdv, ct, osl, rfl, lk, hcd⟩ := F.ex
  intro A outer s H args us vs Q E hr hg e0 bt rv hsp
  have there : ∀ b o, base.get? b = some o → s.heap.get? b = some o := fun b o e => (e0.bs b o e).1
  have hK := e0.mod.kin.keeps there
  have hlim := e0.mod.nolimit.keeps there
  have kinds : ∀ y ∈ ps.zip us, (defScope st).names.lookup y.1 = some .local ∨ ((defScope st).names.lookup y.1 = some .cell ∧ ((cellsFrom (s.heap.objs.size + 1) (defScope st).names []).lookup y.1).isSome = true) := by
    rintro ⟨n, v⟩ hy
    cases S.par n (List.of_mem_zip hy).1 with
    | inl q => exact .inl q
    | inr q => exact .inr ⟨q, PySem.W.cellsFrom_some _ _ _ (.inl q)⟩
  obtain ⟨t, ht, hq⟩ := hbody f cdv A outer s H vs Q E (hr.deeper _) hg hsp
  have ht := ht.nox
  apply codeAny_call_function hr.depth (hK _ _ lk) rfl S.co S.gen rfl (PySem.W.codeRec_of hK hcd)
  apply bt
  apply wpAny_newFunctionEnv_cells S.kind kinds
  rintro env rfl s1 ic
  refine ⟨hlim.keeps ic.toInCall.keep, codeAny_func ?_⟩
  have I := inv_start (CX := CX0) (P := P) (w := w) (K := K) (mg := mg) (base := base) (E := E) S hr.hd e0 (len _ _ _ _ hsp) rv ic
  refine wpAny_mono (ht.run [] s1 (start N vs) H _ I hq) ?_ (fun _ _ z => z)
  intro fl s' hs
  match fl, hs with
  | .ret u, ⟨v, σ', H', J, r, q⟩ => exact CE.of_inv J r q
  | .next, ⟨σ', H', J, q⟩ => exact CE.of_inv (v := V.non) (u := Value.none) J rfl q
  | .brk, ⟨_, _, _, q⟩ => exact q.elim
  | .cont, ⟨_, _, _, q⟩ => exact q.elim
end
section
variable {X : Cx} {x : Str} {st : Stmt} {k : Nat} {ps : List Str} {sp : Sp} {e : Expr} {es : List Expr} {t : TA} {p pos : Pos}
theorem pe_callG (D : GefAt X.prog X.w X.K X.mg X.base x st k ps sp) (hr : Room k X.A) (gu : X.A.guards = some []) (ha : PA X (e :: es) t) (hg : Gl X x := by rfl)
    (hdb : (x == ("__debug__" : Str)) = false := by decide) (he : starEach (e :: es) X.env = (false, eval e X.env) :: starEach es X.env := by rfl) (hpl : (backTo pos (starEach es X.env)).any (·.1) = false := by rfl) :
    PE X (.Call (.Name x p) (e :: es) [] pos) (tCall sp [] E0 t) := by
  obtain ⟨f, fd, hm, F, G, b⟩ := D.ex
  constructor
  intro pins s σ H Q I h
  apply wpAny_Call_Name_kw (ld_glob I hg hm ?_ hdb)
  apply PySem.W.callWith_K (h₀ := X.base) I.ok.mod.kin F.kp ?_ he hpl
  refine thn (ha.run pos pins s σ H _ I h) ?_
  rintro us s1 ⟨vs, H1, I1, r, q⟩
  refine ⟨I1.kIn, wpAny_call (codeAny_mono (G.run X.A X.stack s1 H1 ⟨us, []⟩ (us ++ []) (vs ++ []) Q E0 hr gu I1.env0 (b s1 us I1.kIn ?_) (r.append .nil) q) ?_)⟩
  · rw [← (r.append (Paired.nil : Vals [] [])).length]
    exact G.len _ _ _ _ q
  · intro rr s' hq
    match rr, hq with
    | .error e, hq => exact (pass0 (X := X) pins σ H1 s1 e s' I1 hq)
    | .ok (.ret u), hq => exact I1.after hq
    | .ok .next, hq => exact hq.elim
    | .ok .brk, hq => exact hq.elim
    | .ok .cont, hq => exact hq.elim
end
/-! ### repr of data -/
def rReprD (K : PySem.W.Frag) : List V → Hp → VK → Prop := fun xs H Q => ∃ (a : Addr) (d : PyData), xs = [.ref a] ∧ Dp K H (.ref a) d ∧ d.showable = true ∧ SeqAt.shaped d = true ∧ d.shown.length ≤ sizeLine ∧ Q (.str d.shown) H
theorem call_reprD {X : Cx} (hg : X.A.guards = some []) (hu : X.A.units + 100 < cLine) : CallR X (.builtin "repr") (rReprD X.K) := by
  intro pins s σ H xs us Q I r h
  obtain ⟨a, d, rfl, hd, hs, hsh, hz, q⟩ := h
  obtain ⟨u, rfl, ru⟩ := vals1 r
  obtain ⟨as, r1⟩ := Dp.reads I d _ u hd ru
  cases ru
  have hsh' : (PyData.canLay0 d && decide (PyData.depth d ≤ 64)) = true := hsh
  obtain ⟨c1, c2⟩ := Bool.and_eq_true_iff.mp hsh'
  have c3 := of_decide_eq_true c2
  refine repr_of_reads' r1 hs (PyData.noDict_hsm (PyData.hasDict_of_canLay d c1)) hg (by omega) (fun _ _ e => e) (fun h' u tk hk => ?_) hz
  exact ⟨.str _, H, I.kept (t' := tk) fun b o e => hk b o e, ⟨_, rfl⟩, q⟩
theorem gu_of {k : Nat} {A : Around} (r : Room k A) : A.units + 100 < cLine := by have := r.un; omega
/-! ### the end -/
def scr (K : PySem.W.Frag) (a : Addr) (ob : Obj) (xs : List V) : Hp := fun b => if b = a ∧ K.lookup a = none then some (.frz ob (.lst xs)) else none
theorem scr_cases (K : PySem.W.Frag) (a : Addr) (ob : Obj) (xs : List V) (b : Addr) : scr K a ob xs b = none ∨ (b = a ∧ K.lookup a = none ∧ scr K a ob xs b = some (.frz ob (.lst xs))) := by
  by_cases h : b = a ∧ K.lookup a = none
  · exact .inr ⟨h.1, h.2, if_pos h⟩
  · exact .inl (if_neg h)
theorem law_callG {P : Program} {w : World} {K : PySem.W.Frag} {mg mb : Str → Option Value} {k : Nat} {fa a : Addr} {fd : FuncData} {x : Str} {sp : Sp} {s₁ : Shared} {vs : List Value} {ns : List Int}
    (KX : K.In s₁.heap) (hns : s₁.heap.Ns mainGlobals mg) (hb : s₁.heap.Ns builtinsNs mb) (hbb : ∀ x : Str, x ≠ "__name__" → mb x = bootBuiltins x) (hlim : s₁.heap.NoLimit) (hg : s₁.gens = #[])
    (ha : s₁.heap.get? a = some { cls := .type "list", data := .seq vs.toArray }) (hi : IntsAre vs ns) (hl : ns.length ≤ sizeLine) (hr : Room k callerA)
    (F : ∀ base : Heap, K.In base → base.Ns mainGlobals mg → FnG P w K mg base k fa fd [x] sp) (hbind : ∀ (s : Shared) (u : Value), BindsTo s fd ⟨[u], []⟩ [(x, u)])
    (hsp : ∀ H : Hp, SqL K H a (ns.map V.int) → sp [.ref a] H (fun v _ => v = .bl true) fun _ _ _ => False) :
    codeAny (model P w) callerA (.call (.ref fa) ⟨[.ref a], []⟩) (fun r s' => r = .ok (.ret (.bool true)) ∧ OldK s₁.heap s'.heap ∧ s'.os = s₁.os ∧ AllBare s'.gens) s₁ := by
  have rv := vals_ints hi
  let ob : Obj := { cls := .type "list", data := .seq vs.toArray }
  let H : Hp := scr K a ob (ns.map V.int)
  have cs := scr_cases K a ob (ns.map V.int)
  have hok : HOk P w H s₁.heap := by
    intro b u z
    rcases cs b with q | ⟨rfl, _, q⟩
    · rw [show H b = none from q] at z
      cases z
    · rw [show H b = _ from q] at z
      cases z
      exact ⟨ha, by rw [List.length_map]; exact hl, vs, _, rv, ha⟩
  have hS : SqL K H a (ns.map V.int) := by
    cases hk : K.lookup a with
    | none => exact .inl (.inr ⟨ob, if_pos ⟨rfl, hk⟩⟩)
    | some o =>
      have e := (KX a o hk).symm.trans ha
      cases e
      exact .inr ⟨_, vs.toArray, _, hk, rfl, rfl, rfl, by rw [List.size_toArray, hi.length]; exact hl, by simpa using rv⟩
  have free : ∀ {b : Addr} {o : Obj}, s₁.heap.get? b = some o → (∀ q n, o.data ≠ .seq q n) → H b = none := by
    intro b o e n
    rcases cs b with q | ⟨rfl, _, _⟩
    · exact q
    · rw [ha] at e
      cases e
      exact absurd rfl (n _ _)
  have nsB : ∀ {b : Addr} {m : Str → Option Value}, s₁.heap.Ns b m → (hidT s₁.heap H).Ns b m := by
    rintro b m ⟨o, es, ep, e, d, r⟩
    exact ⟨o, es, ep, hidT_get e (free e fun q n z => by rw [d] at z; cases z), d, r⟩
  have kB : K.In (hidT s₁.heap H) := by
    intro b o e
    refine hidT_get (KX b o e) ?_
    rcases cs b with q | ⟨rfl, z, _⟩
    · exact q
    · rw [z] at e
      cases e
  obtain ⟨mc, l1, l2⟩ := hlim
  have e0 : Env0 P w K mg (hidT s₁.heap H) callerA [] s₁ H :=
    { frames := rfl, mod := ⟨kB, nsB hns, ⟨mb, nsB hb, hbb⟩, ⟨mc, nsB l1, l2⟩⟩, bs := fun b o e => of_hidT e, bsz := Nat.le_of_eq (hidT_size _ _), funs := trivial, frf := (fun b z => by cases z), hok := hok, bare := .of_eq hg }
  refine codeAny_mono ((F _ kB (nsB hns)).run callerA [] s₁ H ⟨[.ref a], []⟩ [.ref a] [.ref a] _ _ hr rfl e0 (hbind s₁ (.ref a)) (.cons rfl .nil) (hsp H hS)) ?_
  intro r s' h
  match r, h with
  | .error e, h => exact (show False from h).elim
  | .ok .next, h => exact h.elim
  | .ok .brk, h => exact h.elim
  | .ok .cont, h => exact h.elim
  | .ok (.ret u), ⟨v, H', os, bare, un, hok', r', q⟩ =>
    have q : v = .bl true := q
    subst q
    have r' : u = Value.bool true := r'
    subst r'
    refine ⟨rfl, OldK.of_keep ?_, os, bare⟩
    intro b o e
    rcases cs b with q | ⟨rfl, z, q⟩
    · exact un.keep b o e q (fun z => by cases z) (by simp)
    · obtain ⟨e2, _⟩ := hok' b _ (un.frzs b ob _ q)
      rw [ha] at e
      cases e
      exact e2
theorem walk_G {l : PySem.W.OpenLaw} {n k : Nat} {q : Program} {loose : List Str} {XP : (Str → Option Value) → Heap → Prop} {YP : World → Heap → Prop} {d : DefRec} {K : Params → PySem.W.Frag} {x : Str} {sp : World → Sp}
    (hn : l.most = some n) (hn2 : n ≤ sizeLine) (hdf : d.params.defaults = []) (hr : Room k callerA) (hY : ∀ (w : World) (h : Heap), YP w h → (K w.params).In h)
    (F : ∀ (w : World) (mg : Str → Option Value) (fa : Addr) (h : Heap), (K w.params).In h → h.Ns mainGlobals mg → mg d.name = some (.ref fa) →
      ∃ fd : FuncData, (∀ (s : Shared) (u : Value), BindsTo s fd ⟨[u], []⟩ [(x, u)]) ∧ ∀ base : Heap, (K w.params).In base → base.Ns mainGlobals mg → FnG l.prog w (K w.params) mg base k fa fd [x] (sp w))
    (hsp : ∀ (w : World) (H : Hp) (a : Addr) (ns : List Int), ns.length ≤ n → (∀ z ∈ ns, Builtin.Int.intBits z ≤ 1048576) → SqL (K w.params) H a (ns.map V.int) → sp w [.ref a] H (fun v _ => v = .bl true) fun _ _ _ => False) :
    PySem.W.WalkO q loose XP YP l.row.toRowW d [] (fun f vs => PySem.call f vs) := by
  refine Att.attach_callB hn hdf ?_
  intro w s₀ s₁ mg mb fa o pm cd doc a vs ns G Y ho hd hcd hmg hobj hints hlen hbits hg
  obtain ⟨fd, hb, hF⟩ := F w mg fa _ (hY w _ Y) G.T.g hmg
  exact law_callG (hY w _ Y) G.T.g G.T.b G.T.builtins G.T.nolimit hg hobj hints (Nat.le_trans hlen hn2) hr hF hb (fun H hS => hsp w H a ns hlen hbits hS)
/-! ### data that can be shown -/
structure Fine (d : PyData) : Prop where
  s : d.showable = true
  p : SeqAt.shaped d = true
  l : d.leavesShort 50 = true
  b : d.bulk ≤ 100000
theorem w_reprD {K : PySem.W.Frag} {H : Hp} {Q : VK} {a : Addr} {d : PyData} (h : Dp K H (.ref a) d) (f : Fine d) (q : Q (.str d.shown) H) : rReprD K [.ref a] H Q := by
  refine ⟨a, d, rfl, h, f.s, f.p, ?_, q⟩
  have h1 := PyData.shown_le_bulk 50 (by decide) d f.l
  have h2 := f.b
  rw [sizeLine_eq]
  omega
theorem showable_int {i : Int} (h : i.natAbs < 10 ^ 40) : (PyData.int i).showable = true := by
  have := log_lt (i := i) (Nat.lt_of_lt_of_le h (by decide))
  simp only [PyData.showable, this, decide_true]
theorem short_int {i : Int} (h : i.natAbs < 10 ^ 40) : (PyData.int i).leavesShort 50 = true := by
  have e := int_text_length_le10 (k := 40) (by decide) h
  have e2 : (PyData.shown (.int i)).length = (toString i).length := by
    simp only [PyData.shown]
    exact PySem.ofString_length (toString i)
  simp only [PyData.leavesShort, e2]
  exact decide_eq_true (by omega)
theorem showable_ints : ∀ {ns : List Int}, (∀ x ∈ ns, x.natAbs < 10 ^ 40) → PyData.showableAll (ns.map PyData.int) = true
  | [], _ => rfl
  | n :: ns, h => by
    have ih := showable_ints (ns := ns) fun x hx => h x (List.mem_cons_of_mem _ hx)
    have h1 := showable_int (h n List.mem_cons_self)
    simp only [List.map_cons, PyData.showableAll, ih, h1, Bool.and_self]
theorem short_ints : ∀ {ns : List Int}, (∀ x ∈ ns, x.natAbs < 10 ^ 40) → PyData.leavesShortAll 50 (ns.map PyData.int) = true
  | [], _ => rfl
  | n :: ns, h => by
    have ih := short_ints (ns := ns) fun x hx => h x (List.mem_cons_of_mem _ hx)
    have h1 := short_int (h n List.mem_cons_self)
    simp only [List.map_cons, PyData.leavesShortAll, ih, h1, Bool.and_self]
theorem bulk_ints : ∀ ns : List Int, PyData.bulkAll (ns.map PyData.int) = ns.length
  | [] => rfl
  | n :: ns => by
    have ih := bulk_ints ns
    simp only [List.map_cons, PyData.bulkAll, PyData.bulk, ih, List.length_cons]
    omega
def dI (ns : List Int) : PyData := .list (ns.map PyData.int)
theorem fine_ints {ns : List Int} (h : ∀ x ∈ ns, x.natAbs < 10 ^ 40) (hl : ns.length ≤ 10000) : Fine (dI ns) :=
  ⟨by simp only [dI, PyData.showable]; exact showable_ints h, shaped_ints ns, by simp only [dI, PyData.leavesShort]; exact short_ints h, by simp only [dI, PyData.bulk]; rw [bulk_ints]; omega⟩
structure FineAll (ds : List PyData) : Prop where
  s : PyData.showableAll ds = true
  c : PyData.canLayAll0 ds = true
  d : PyData.depthAll ds ≤ 40
  l : PyData.leavesShortAll 50 ds = true
theorem FineAll.nil : FineAll [] := ⟨rfl, rfl, by simp [PyData.depthAll], rfl⟩
theorem FineAll.cons {d : PyData} {ds : List PyData} (f : d.showable = true) (c : d.canLay0 = true) (dp : d.depth ≤ 40) (l : d.leavesShort 50 = true) (r : FineAll ds) : FineAll (d :: ds) :=
  ⟨by simp only [PyData.showableAll, f, r.s, Bool.and_self], by simp only [PyData.canLayAll0, c, r.c, Bool.and_self], by have := r.d; simp only [PyData.depthAll]; omega, by simp only [PyData.leavesShortAll, l, r.l, Bool.and_self]⟩
theorem FineAll.cons_ints {ns : List Int} {ds : List PyData} (h : ∀ x ∈ ns, x.natAbs < 10 ^ 40) (r : FineAll ds) : FineAll (dI ns :: ds) :=
  .cons (by simp only [dI, PyData.showable]; exact showable_ints h) (by simp only [dI, PyData.canLay0]; exact canLay_ints ns) (by have := depth_ints ns; simp only [dI, PyData.depth]; omega) (by simp only [dI, PyData.leavesShort]; exact short_ints h) r
theorem FineAll.cons_lst {xs ds : List PyData} (f : FineAll xs) (dp : PyData.depthAll xs ≤ 30) (r : FineAll ds) : FineAll (.list xs :: ds) :=
  .cons (by simp only [PyData.showable]; exact f.s) (by simp only [PyData.canLay0]; exact f.c) (by simp only [PyData.depth]; omega) (by simp only [PyData.leavesShort]; exact f.l) r
theorem FineAll.fine {ds : List PyData} (r : FineAll ds) (b : PyData.bulkAll ds ≤ 100000) : Fine (.list ds) :=
  ⟨by simp only [PyData.showable]; exact r.s, by
    unfold SeqAt.shaped
    have h1 : PyData.canLay0 (.list ds) = true := by simp only [PyData.canLay0]; exact r.c
    have h2 : PyData.depth (.list ds) ≤ 64 := by
      have := r.d
      simp only [PyData.depth]
      omega
    rw [h1, decide_eq_true h2]
    rfl, by simp only [PyData.leavesShort]; exact r.l, by simp only [PyData.bulk]; exact b⟩
/-! ### generators -/
structure GnAt (P : Program) (w : World) (K : PySem.W.Frag) (mg : Str → Option Value) (base : Heap) (x : Str) (st : Stmt) (k : Nat) (ps : List Str) (sp : SpG) : Prop where
  ex : ∃ f fd, mg x = some (.ref f) ∧ Fun K x x st f fd ∧ GFn P w K mg base k f fd ps sp ∧ Binds K fd ps []
theorem FunAt.okGn {P : Program} {w : World} {K : PySem.W.Frag} {mg : Str → Option Value} {base : Heap} {x : Str} {st : Stmt} {k : Nat} {ps N : List Str} {sp : SpG} (F : FunAt K mg x st) (S : GScope N ps (defScope st)) (len : ∀ vs H Q E, sp vs H Q E → vs.length = ps.length)
    (hb : ∀ (kV doc pm : Value) (an : Option Addr) (cdv ct : Value) (us : List Value), us.length = ps.length → bindArgs (PySem.W.fnOf x x (defArgs st) (defBody st) (defScope st) .none kV doc pm an cdv ct) ⟨us, []⟩ = pure (ps.zip us))
    (hbody : ∀ (f : Addr) (cdv : Value) (A : Around) (outer : List Env) (s : Shared) (H : Hp) (vs : List V) (Q : List V → Hp → Prop) (E : XK) (pn : List (Addr × Obj)), Room k (A.deeper (envOfC x (defScope st) s.heap.objs.size f cdv)) → sp vs H Q E →
      ∃ t, GSs (gcxOf P w K mg base N x (defScope st) f cdv A outer s H E pn) (defBody st) t ∧ t { nx := fun ys _ H' => Q ys H', rt := fun ys v H' => v = .non ∧ Q ys H' } [] (start N vs) H) : GnAt P w K mg base x st (k + 1) ps sp := by
  obtain ⟨f, fd, hm, F⟩ := F.ex
  refine ⟨f, fd, hm, F, ?_, F.binds hb⟩
  obtain ⟨oc, od, kV, doc, pm, an, cdv, ct, osl, rfl, lk, hcd⟩ := F.ex
  exact gfn_of lk hcd S len fun A outer s H vs Q E pn hr h => hbody f cdv A outer s H vs Q E pn hr h
theorem pe_listGD {X : Cx} {x : Str} {st : Stmt} {k : Nat} {ps : List Str} {sp : SpG} {e : Expr} {es : List Expr} {t : TA} {p p0 p1 pos : Pos} (D : GnAt X.prog X.w X.K X.mg X.base x st k ps sp) (hr : Room (k + 3) X.A) (hgl : Gl X "list") (hml : X.mg "list" = none) (ha : PA X (e :: es) t) (hg : Gl X x := by rfl)
    (hdb : (x == ("__debug__" : Str)) = false := by decide) (he : starEach (e :: es) X.env = (false, eval e X.env) :: starEach es X.env := by rfl) (hpl : (backTo p1 (starEach es X.env)).any (·.1) = false := by rfl)
    (he2 : starEach [.Call (.Name x p) (e :: es) [] p1] X.env = (false, eval (.Call (.Name x p) (e :: es) [] p1) X.env) :: starEach [] X.env := by rfl) :
    PE X (.Call (.Name "list" p0) [.Call (.Name x p) (e :: es) [] p1] [] pos) (tListG (tCallG sp [] E0 t)) := by
  obtain ⟨f, fd, hm, F, G, b⟩ := D.ex
  exact pe_listG (pgen_call G (hr.mono (by omega)) hg hm F.kp b .nil ha hdb he hpl) (fun _ _ _ _ _ _ _ z => by
    obtain ⟨_, _, _, _, _, _, _, _, _, _, _, _, q⟩ := z
    exact q.elim) (fun _ _ _ z => z.elim) hr hgl hml boot_list (by decide) (by decide) he2
section
variable {D : GEnds} {ys : List V} {σ : L2.St} {H : Hp} {t u : TGn} {te : TE} {c : TT} {tb : TGn} {ts : TS}
theorem w_gStart {N : List Str} {vs : List V} {σ' : L2.St} (e : L2.start N vs = σ') (h : t D ys σ' H) : t D ys (L2.start N vs) H := e ▸ h
theorem w_gThen (h : t { D with nx := fun ys' σ' H' => u D ys' σ' H' } ys σ H) : tGThen t u D ys σ H := h
theorem w_gPlain (h : ts (D.at ys) σ H) : tPlain ts D ys σ H := h
theorem w_gYield (hz : ys.length < 16777216) (h : te σ H fun x H1 => D.nx (ys ++ [x]) σ H1) : tGYield te D ys σ H := ⟨szlt hz, h⟩
theorem w_g0 (h : D.nx ys σ H) : tG0 D ys σ H := h
theorem w_at (h : D.nx ys σ H) : (D.at ys).nx σ H := h
end
section
variable {D : GEnds} {ys : List V} {σ : L2.St} {H : Hp} {c : TT} {tb : TGn}
def GWh (W : Nat → List V → L2.St → Hp → Prop) (m : Nat) (tb : TGn) (D : GEnds) (ys : List V) (σ : L2.St) (H1 : Hp) : Prop := ∃ N : List V → L2.St → Hp → Prop, (∀ ys' σ' H', N ys' σ' H' → ∃ m', m' < m ∧ W m' ys' σ' H') ∧ tb { D with nx := N, ct := N, bk := D.nx } ys σ H1
theorem w_gWhile (W : Nat → List V → L2.St → Hp → Prop) (m0 : Nat) (h0 : W m0 ys σ H) (hs : ∀ m ys σ H, W m ys σ H → c σ H fun b H1 => if b = true then GWh W m tb D ys σ H1 else D.nx ys σ H1) : tGWhile c tb D ys σ H := ⟨W, ⟨m0, h0⟩, hs⟩
theorem w_gWh {W : Nat → List V → L2.St → Hp → Prop} {m : Nat} (q : tb { D with nx := fun ys' σ' H' => ∃ m', m' < m ∧ W m' ys' σ' H', ct := fun ys' σ' H' => ∃ m', m' < m ∧ W m' ys' σ' H', bk := D.nx } ys σ H) : GWh W m tb D ys σ H := ⟨_, fun _ _ _ h => h, q⟩
def ListGE (Q : VK) : List V → Hp → Prop := fun out H2 => ∀ p, H2 p = none → Q (.ref p) (upd H2 p (.lst out))
theorem w_listG {tg : TGen} {Q : VK} (h : tg σ H (ListGE Q)) : tListG tg σ H Q := h
theorem w_callG {sp : SpG} {dvs : List V} {E : XK} {t : TA} {cont : List V → Hp → Prop} (h : t σ H fun vs H1 => sp (vs ++ dvs) H1 cont E) : tCallG sp dvs E t σ H cont := h
theorem w_listGE {Q : VK} {out : List V} (h : ∀ p, H p = none → Q (.ref p) (upd H p (.lst out))) : ListGE Q out H := h
end
end Pg

namespace Pg
open PySem PySem.Spec PyProof.Rows L2
/-! ### truths compared; None or a number compared -/
theorem dec_bl {a b : Bool} : decide (V.bl a = V.bl b) = (a == b) := by
  cases a <;> cases b <;> rfl
theorem w_eqB {a b : Bool} {H : Hp} {Q : VK} (q : Q (.bl (a == b)) H) : rEq (.bl a) (.bl b) H Q := ⟨rfl, by rw [dec_bl]; exact q⟩
theorem w_neB {a b : Bool} {H : Hp} {Q : VK} (q : Q (.bl (a != b)) H) : rNe (.bl a) (.bl b) H Q := ⟨rfl, by rw [dec_bl]; exact q⟩
theorem beq_iff {p q : Prop} [Decidable p] [Decidable q] (h : p ↔ q) : (decide p == decide q) = true := by
  by_cases z : p
  · rw [decide_eq_true z, decide_eq_true (h.mp z)]; rfl
  · rw [decide_eq_false z, decide_eq_false fun y => z (h.mpr y)]; rfl
theorem bne_iff {p q : Prop} [Decidable p] [Decidable q] (h : p ↔ q) : (decide p != decide q) = false := by
  by_cases z : p
  · rw [decide_eq_true z, decide_eq_true (h.mp z)]; rfl
  · rw [decide_eq_false z, decide_eq_false fun y => z (h.mpr y)]; rfl
theorem w_iteV {b : Bool} {A B : Prop} (e : b = true) (h : A) : if b = true then A else B := by rw [if_pos e]; exact h
theorem w_iteW {b : Bool} {A B : Prop} (e : b = false) (h : B) : if b = true then A else B := by rw [e]; exact h
/-- None or a number -/
def NonInt (v : V) : Prop := v = .non ∨ ∃ i, v = .int i
theorem NonInt.dp {K : PySem.W.Frag} {H : Hp} {v : V} (h : NonInt v) : ∃ d, Dp K H v d ∧ SeqAt.shaped d = true ∧ PyData.eqv d d = true := by
  rcases h with rfl | ⟨i, rfl⟩
  · exact ⟨.none, .non, by decide, by simp [PyData.eqv]⟩
  · exact ⟨.int i, .int i, by rfl, by simp [PyData.eqv]⟩
theorem w_eqSame {K : PySem.W.Frag} {H : Hp} {Q : VK} {v : V} (h : NonInt v) (q : Q (.bl true) H) : rEqD K v v H Q := by
  obtain ⟨d, h1, h2, h3⟩ := h.dp (K := K) (H := H)
  exact ⟨d, d, h1, h1, h2, h2, by rw [h3]; exact q⟩
theorem w_neSame {K : PySem.W.Frag} {H : Hp} {Q : VK} {v : V} (h : NonInt v) (q : Q (.bl false) H) : rNeD K v v H Q := by
  obtain ⟨d, h1, h2, h3⟩ := h.dp (K := K) (H := H)
  exact ⟨d, d, h1, h1, h2, h2, by rw [h3]; exact q⟩
/-! ### steps that go up, comprehensions over any walk -/
section
variable {σ : L2.St} {H : Hp} {g : TG} {tt : TT} {te : TE} {vs : List Nat} {Q : VK}
theorem l_it {J : It} {n : Nat} {G : Hp → Prop} {Y : Nat → Hp → V → Hp → Prop} (w : Walk J n G Y) (Pv : Addr → Nat → Hp → Prop) (h0 : ∀ L, H L = none → Pv L 0 (upd H L (.lst []))) (hG : ∀ L i H', H L = none → i ≤ n → Pv L i H' → G H')
    (hs : ∀ L i x H' H'', H L = none → i < n → Pv L i H' → Y i H' x H'' → g x (wipe σ vs) H'' fun σ2 H2 => wipe σ2 vs = wipe σ vs ∧ tt σ2 H2 fun b H3 => if b = true then te σ2 H3 (AppE L (Pv L (i + 1))) else Pv L (i + 1) H3)
    (hd : ∀ L H', H L = none → Pv L n H' → Q (.ref L) H') : LcB g tt te vs σ Q J H := fun L hL => lc_it w (Pv L) (h0 L hL) (fun i H' => hG L i H' hL) (fun i x H' H'' => hs L i x H' H'' hL) (fun H' => hd L H' hL)
theorem l_rangeC {lo c : Int} {n : Nat} (Pv : Addr → Nat → Hp → Prop) (h0 : ∀ L, H L = none → Pv L 0 (upd H L (.lst [])))
    (hs : ∀ L i H', H L = none → i < n → Pv L i H' → g (.int (lo + (i : Nat) * c)) (wipe σ vs) H' fun σ2 H2 => wipe σ2 vs = wipe σ vs ∧ tt σ2 H2 fun b H3 => if b = true then te σ2 H3 (AppE L (Pv L (i + 1))) else Pv L (i + 1) H3)
    (hd : ∀ L H', H L = none → Pv L n H' → Q (.ref L) H') : LcB g tt te vs σ Q (Itc lo c n) H :=
  l_it walk_rangeC Pv h0 (fun _ _ _ _ _ _ => trivial) (fun L i x H' H'' hL hi p y => by
    obtain ⟨e1, e2⟩ := y
    subst e1 e2
    exact hs L i _ hL hi p) hd
theorem l_enum {K : PySem.W.Frag} {a : Addr} (xs : List V) (Pv : Addr → Nat → Hp → Prop) (h0 : ∀ L, H L = none → Pv L 0 (upd H L (.lst []))) (hl : ∀ L i H', H L = none → i ≤ xs.length → Pv L i H' → SqL K H' a xs)
    (hs : ∀ L i x T H', H L = none → xs[i]? = some x → Pv L i H' → H' T = none → g (.ref T) (wipe σ vs) (upd H' T (.tup [.int (i : Nat), x])) fun σ2 H2 => wipe σ2 vs = wipe σ vs ∧ tt σ2 H2 fun b H3 => if b = true then te σ2 H3 (AppE L (Pv L (i + 1))) else Pv L (i + 1) H3)
    (hd : ∀ L H', H L = none → Pv L xs.length H' → Q (.ref L) H') : LcB g tt te vs σ Q (Ite K a) H :=
  l_it walk_enum Pv h0 hl (fun L i x H' H'' hL hi p y => by
    obtain ⟨T, u, v, h1, h2, h3, h4, h5⟩ := y
    subst h1 h3
    have h4 := Option.some.inj h4
    subst h4
    exact hs L i v T H' hL h5 p h2) hd
end
theorem RgC.pos {i j c : Int} (hi : 0 ≤ i) (hj : i ≤ j) (hj2 : j < 2 ^ 30) (hc : 1 ≤ c) (hc2 : c < 2 ^ 30) : RgC i j c ((j - i + c - 1) / c).toNat := by
  have e : Builtin.Range.rangeSize i j c = (((j - i + c - 1) / c).toNat : Int) := by
    unfold Builtin.Range.rangeSize
    rw [if_pos (by omega)]
    have h0 : 0 ≤ (j - i + c - 1) / c := Int.ediv_nonneg (by omega) (by omega)
    rw [Int.toNat_of_nonneg h0]
    by_cases h : i < j
    · rw [if_pos h, show j - i + c - 1 = (j - i - 1) + c by omega, Int.add_ediv_of_dvd_right (Int.dvd_refl c), Int.ediv_self (by omega)]
    · rw [if_neg h, show j - i + c - 1 = c - 1 by omega, Int.ediv_eq_zero_of_lt (by omega) (by omega)]
  have hb : ((j - i + c - 1) / c).toNat < 2 ^ 31 := by
    have h1 : (j - i + c - 1) / c ≤ j - i + c - 1 := Int.ediv_le_self _ (by omega)
    omega
  refine ⟨by omega, by omega, ?_, e⟩
  unfold Builtin.Range.small
  rw [e]
  simp only [Builtin.Range.rangeFitsLong, Bool.and_eq_true, Bool.or_eq_true, decide_eq_true_eq, beq_iff_eq]
  rw [if_pos (by omega)]
  simp only [Bool.and_eq_true, decide_eq_true_eq]
  omega
theorem w_rng3P {H : Hp} {R : It → Hp → Prop} {i j c : Int} (h : 0 ≤ i ∧ i ≤ j ∧ j < 2 ^ 30 ∧ 1 ≤ c ∧ c < 2 ^ 30) (q : R (Itc i c ((j - i + c - 1) / c).toNat) H) : Rng3E R [.int i, .int j, .int c] H :=
  ⟨i, j, c, _, rfl, RgC.pos h.1 h.2.1 h.2.2.1 h.2.2.2.1 h.2.2.2.2, q⟩
theorem kc_pi {X : Cx} {K : PySem.W.Frag} {tg e : Expr} {t : TE} (h : PI X tg e (iList X.K t)) (q : X.K = K) : PI X tg e (iList K t) := q ▸ h
theorem w_extendR {H : Hp} {Q : VK} {a q : Addr} {ps qs : List Addr} (h1 : H a = some (.lst (ps.map V.ref))) (h2 : H q = some (.lst (qs.map V.ref))) (hz : ps.length + qs.length ≤ 16777216) (k : Q .non (upd H a (.lst ((ps ++ qs).map V.ref)))) : rExtend (.ref a) [.ref q] H Q :=
  ⟨a, q, _, _, rfl, rfl, h1, h2, szle' (by rw [List.length_map, List.length_map]; exact hz), by rw [← List.map_append]; exact k⟩
/-! ### lists of pairs of numbers -/
def dP (l : Int × Int) : PyData := .tuple [.int l.1, .int l.2]
theorem canLay_pairs : ∀ ls : List (Int × Int), PyData.canLayAll0 (ls.map dP) = true
  | [] => rfl
  | l :: ls => by
    have ih := canLay_pairs ls
    simp only [List.map_cons, dP, PyData.canLayAll0, PyData.canLay0, Bool.and_self, Bool.true_and]
    exact ih
theorem depth_pairs : ∀ ls : List (Int × Int), PyData.depthAll (ls.map dP) ≤ 3
  | [] => by simp [PyData.depthAll]
  | l :: ls => by
    have ih := depth_pairs ls
    have e : PyData.depth (dP l) ≤ 2 := by simp [dP, PyData.depthAll, PyData.depth]
    simp only [List.map_cons, PyData.depthAll]
    omega
theorem shaped_pairs (ls : List (Int × Int)) : SeqAt.shaped (.list (ls.map dP)) = true := by
  unfold SeqAt.shaped
  have h1 : PyData.canLay0 (.list (ls.map dP)) = true := by simp only [PyData.canLay0]; exact canLay_pairs ls
  have h2 : PyData.depth (.list (ls.map dP)) ≤ 64 := by
    have := depth_pairs ls
    simp only [PyData.depth]
    omega
  rw [h1, decide_eq_true h2]
  rfl
theorem eqvAll_pairs : ∀ ls ms : List (Int × Int), PyData.eqvAll (ls.map dP) (ms.map dP) = decide (ls = ms)
  | [], [] => by simp [PyData.eqvAll]
  | [], m :: ms => by simp [PyData.eqvAll]
  | n :: ns, [] => by simp [PyData.eqvAll]
  | n :: ns, m :: ms => by
    have ih := eqvAll_pairs ns ms
    simp only [List.map_cons, PyData.eqvAll, ih]
    have e : PyData.eqv (dP n) (dP m) = decide (n = m) := by
      obtain ⟨n1, n2⟩ := n
      obtain ⟨m1, m2⟩ := m
      simp only [dP, PyData.eqv, PyData.eqvAll, Prod.mk.injEq]
      by_cases h : n1 = m1 <;> by_cases h2 : n2 = m2 <;> simp [h, h2]
    rw [e]
    by_cases h : n = m
    · subst h
      by_cases h2 : ns = ms <;> simp [h2]
    · simp [h]
/-! ### repr of None or of data -/
def rReprA (K : PySem.W.Frag) : List V → Hp → VK → Prop := fun xs H Q => (xs = [.non] ∧ Q (.str "None") H) ∨ rReprD K xs H Q
theorem call_reprA {X : Cx} (hg : X.A.guards = some []) (hu : X.A.units + 100 < cLine) : CallR X (.builtin "repr") (rReprA X.K) := by
  intro pins s σ H xs us Q I r h
  rcases h with ⟨rfl, q⟩ | h
  · obtain ⟨u, rfl, ru⟩ := vals1 r
    cases ru
    exact PySem.P.repr_of_none ⟨.str "None", H, I.tok _, ⟨_, rfl⟩, q⟩
  · exact call_reprD hg hu pins s σ H xs us Q I r h
theorem w_reprA0 {K : PySem.W.Frag} {H : Hp} {Q : VK} (q : Q (.str "None") H) : rReprA K [.non] H Q := .inl ⟨rfl, q⟩
theorem w_reprA {K : PySem.W.Frag} {H : Hp} {Q : VK} {a : Addr} {d : PyData} (h : Dp K H (.ref a) d) (f : Fine d) (q : Q (.str d.shown) H) : rReprA K [.ref a] H Q := .inr (w_reprD h f q)
theorem w_all {K : PySem.W.Frag} {H : Hp} {Q : VK} {a : Addr} {bs : List Bool} (h : H a = some (.lst (bs.map V.bl))) (q : Q (.bl (bs.all id)) H) : rAll K [.ref a] H Q := ⟨a, bs, rfl, SqL.of h, q⟩
/-! ### slices of lists of objects, loops over tuples -/
theorem cutV_take (xs : List V) (n : Nat) : cutV xs none (some (n : Int)) = xs.take n := by
  show (xs.drop (HT.sIx xs.length 0 none)).take (HT.sIx xs.length xs.length (some (n : Int)) - HT.sIx xs.length 0 none) = xs.take n
  have e1 : HT.sIx xs.length 0 none = 0 := rfl
  have e2 : HT.sIx xs.length xs.length (some (n : Int)) = min n xs.length := by
    simp only [HT.sIx]
    rw [if_neg (by omega)]
    omega
  rw [e1, e2, List.drop_zero, Nat.sub_zero]
  by_cases h : n ≤ xs.length
  · rw [Nat.min_eq_left h]
  · rw [Nat.min_eq_right (by omega), List.take_length, List.take_of_length_le (by omega)]
theorem w_slTake {K : PySem.W.Frag} {H : Hp} {Q : VK} {a : Addr} {ps : List Addr} {n : Nat} (h : H a = some (.lst (ps.map V.ref))) (q : ∀ p, H p = none → Q (.ref p) (upd H p (.lst ((ps.take n).map V.ref)))) : rSlL K (.ref a) none (some (n : Int)) H Q :=
  ⟨a, _, rfl, SqL.of h, fun p hp => by rw [cutV_take, ← List.map_take]; exact q p hp⟩
def TupE (K : PySem.W.Frag) (R : It → Hp → Prop) : V → Hp → Prop := fun x H1 => ∃ a, x = .ref a ∧ (∃ xs, SqT K H1 a xs) ∧ R (Itt K a) H1
theorem w_iTup {K : PySem.W.Frag} {tl : TE} {σ : L2.St} {H : Hp} {R : It → Hp → Prop} (h : tl σ H (TupE K R)) : iTup K tl σ H R := h
theorem w_iTupE {K : PySem.W.Frag} {a : Addr} {xs : List V} {H : Hp} {R : It → Hp → Prop} (h : SqT K H a xs) (q : R (Itt K a) H) : TupE K R (.ref a) H := ⟨a, rfl, ⟨xs, h⟩, q⟩
theorem kc_pg {X : Cx} {K : PySem.W.Frag} {tg : Expr} {k : Nat} {t : TGs} (h : PG X tg (gTup X.K k t)) (q : X.K = K) : PG X tg (gTup K k t) := q ▸ h
/-! ### x *= y -/
def ipM : TIp := fun x y H Q => ∃ i j, x = .int i ∧ y = .int j ∧ CMulW i j ∧ Q (.int (i * j)) H
theorem ip_mul {X : Cx} : PIp X .Mult ipM := by
  intro pins s σ H x y v u Q I r1 r2 h
  obtain ⟨i, j, e1, e2, c, q⟩ := h
  subst e1; subst e2
  obtain ⟨t, rfl⟩ := r1
  obtain ⟨t', rfl⟩ := r2
  exact imul_int ⟨.int _, H, I.tok _, ⟨_, rfl⟩, q⟩ c.ok
theorem w_ipM {m n : Int} {H : Hp} {Q : VK} (c : CMulW m n) (q : Q (.int (m * n)) H) : ipM (.int m) (.int n) H Q := ⟨m, n, rfl, rfl, c, q⟩
theorem FineAll.tup {ds : List PyData} (r : FineAll ds) (b : PyData.bulkAll ds ≤ 100000) : Fine (.tuple ds) :=
  ⟨by simp only [PyData.showable]; exact r.s, by
    unfold SeqAt.shaped
    have h1 : PyData.canLay0 (.tuple ds) = true := by simp only [PyData.canLay0]; exact r.c
    have h2 : PyData.depth (.tuple ds) ≤ 64 := by
      have := r.d
      simp only [PyData.depth]
      omega
    rw [h1, decide_eq_true h2]
    rfl, by simp only [PyData.leavesShort]; exact r.l, by simp only [PyData.bulk]; exact b⟩
theorem FineAll.cons_int {i : Int} {ds : List PyData} (h : i.natAbs < 10 ^ 40) (r : FineAll ds) : FineAll (.int i :: ds) :=
  .cons (showable_int h) (by simp only [PyData.canLay0]) (by simp [PyData.depth]) (short_int h) r
theorem fine_pair {i j : Int} (hi : i.natAbs < 10 ^ 40) (hj : j.natAbs < 10 ^ 40) : Fine (dP (i, j)) := (FineAll.cons_int hi (.cons_int hj .nil)).tup (by simp [PyData.bulkAll, PyData.bulk])
theorem w_ixLR {K : PySem.W.Frag} {H : Hp} {Q : VK} {p : Addr} {ps : List Addr} {m : Int} (h : H p = some (.lst (ps.map V.ref))) (h0 : 0 ≤ m) (h1 : m < ps.length) (q : ∀ t, ps[m.toNat]? = some t → Q (.ref t) H) : rIxL K (.ref p) (.int m) H Q := by
  obtain ⟨v, hv, e, e2⟩ := atI_lt (xs := ps.map V.ref) h0 (by rw [List.length_map]; exact h1)
  rw [List.getElem?_map] at e2
  cases z : ps[m.toNat]? with
  | none =>
    rw [z] at e2
    cases e2
  | some t =>
    rw [z] at e2
    have e3 : v = .ref t := (Option.some.inj e2).symm
    subst e3
    exact w_ixL (SqL.of h) e (q t z)
theorem w_setLR {H : Hp} {p t : Addr} {ps : List Addr} {m : Int} {Q : Hp → Prop} (h : H p = some (.lst (ps.map V.ref))) (h0 : 0 ≤ m) (h1 : m < ps.length) (q : Q (upd H p (.lst ((ps.set m.toNat t).map V.ref)))) : rSetL (.ref p) (.int m) (.ref t) H Q := by
  refine ⟨p, _, m, m.toNat, rfl, rfl, h, ?_, by rw [← List.map_set]; exact q⟩
  rw [List.length_map]
  have z : ((m.toNat : Nat) : Int) = m := Int.toNat_of_nonneg h0
  unfold ixN
  rw [if_pos h0, if_pos h1]
theorem w_catR {H : Hp} {Q : VK} {p q : Addr} {ps qs : List Addr} (h1 : H p = some (.lst (ps.map V.ref))) (h2 : H q = some (.lst (qs.map V.ref))) (hz : ps.length + qs.length ≤ 16777216) (k : ∀ r, H r = none → Q (.ref r) (upd H r (.lst ((ps ++ qs).map V.ref)))) : rCat (.ref p) (.ref q) H Q :=
  ⟨p, q, _, _, rfl, rfl, h1, h2, szle' (by rw [List.length_map, List.length_map]; exact hz), fun r hr => by rw [← List.map_append]; exact k r hr⟩
def Par3E (i j l : Nat) (R : L2.St → Hp → Prop) (σ : L2.St) : List V → Hp → Prop := fun vs H1 => ∃ u v w, vs = [u, v, w] ∧ R (((σ.set i (some u)).set j (some v)).set l (some w)) H1
theorem w_par3 {i j l : Nat} {tA : TA} {D : Ends} {σ : L2.St} {H : Hp} (h : tA σ H (Par3E i j l (D.nx) σ)) : tPar3 i j l tA D σ H := h
theorem w_par3E {i j l : Nat} {R : L2.St → Hp → Prop} {σ : L2.St} {H : Hp} {x y z : V} (q : R (((σ.set i (some x)).set j (some y)).set l (some z)) H) : Par3E i j l R σ [x, y, z] H := ⟨x, y, z, rfl, q⟩
/-! ### defs that call themselves -/
def spNo : Sp := fun _ _ _ _ => False
theorem FunAt.never {P : Program} {w : World} {K : PySem.W.Frag} {mg : Str → Option Value} {base : Heap} {x : Str} {st : Stmt} {k : Nat} {ps : List Str} (F : FunAt K mg x st)
    (hb : ∀ (kV doc pm : Value) (an : Option Addr) (cdv ct : Value) (us : List Value), us.length = ps.length → bindArgs (PySem.W.fnOf x x (defArgs st) (defBody st) (defScope st) .none kV doc pm an cdv ct) ⟨us, []⟩ = pure (ps.zip us)) : DefAt P w K mg base x st k ps spNo := by
  obtain ⟨f, fd, hm, F⟩ := F.ex
  exact ⟨f, fd, hm, F, ⟨fun _ _ _ _ h => h.elim, fun _ _ _ _ _ _ _ _ _ _ _ _ _ h => h.elim⟩, F.binds hb⟩
/-! ### lists of lists of numbers -/
structure ListsAt (H : Hp) (ps : List Addr) (xss : List (List Int)) : Prop where
  len : ps.length = xss.length
  at_ : ∀ (i : Nat) (p : Addr) (xs : List Int), ps[i]? = some p → xss[i]? = some xs → H p = some (.lst (xs.map V.int))
theorem ListsAt.nil {H : Hp} : ListsAt H [] [] := ⟨rfl, by simp⟩
theorem ListsAt.fr {H H' : Hp} {ps : List Addr} {xss : List (List Int)} (h : ListsAt H ps xss) (f : Fr [] H H') : ListsAt H' ps xss := ⟨h.len, fun i p l h1 h2 => f.at0 (h.at_ i p l h1 h2)⟩
theorem ListsAt.app {H : Hp} {ps qs : List Addr} {xss yss : List (List Int)} (h : ListsAt H ps xss) (k : ListsAt H qs yss) : ListsAt H (ps ++ qs) (xss ++ yss) := by
  refine ⟨by simp [h.len, k.len], fun i q m h1 h2 => ?_⟩
  have hl := h.len
  by_cases hi : i < ps.length
  · rw [List.getElem?_append_left hi] at h1
    rw [List.getElem?_append_left (by omega)] at h2
    exact h.at_ i q m h1 h2
  · rw [List.getElem?_append_right (by omega)] at h1
    rw [List.getElem?_append_right (by omega), ← hl] at h2
    exact k.at_ _ q m h1 h2
theorem ListsAt.one {H : Hp} {p : Addr} {xs : List Int} (h : H p = some (.lst (xs.map V.int))) : ListsAt H [p] [xs] := ⟨rfl, fun i q m h1 h2 => by
  match i, h1, h2 with
  | 0, h1, h2 =>
    have e1 : p = q := by simpa using h1
    have e2 : xs = m := by simpa using h2
    subst e1 e2
    exact h
  | i + 1, h1, h2 => simp at h1⟩
theorem ListsAt.put {H : Hp} {a : Addr} {o : HO} {ps : List Addr} {xss : List (List Int)} (h : ListsAt H ps xss) (ha : a ∉ ps) : ListsAt (upd H a o) ps xss :=
  ⟨h.len, fun i q m h1 h2 => by
    have hne : q ≠ a := fun e => ha (e ▸ List.mem_of_getElem? h1)
    rw [upd_ne hne]
    exact h.at_ i q m h1 h2⟩
theorem dpAll_lists {K : PySem.W.Frag} {H : Hp} : ∀ {ps : List Addr} {xss : List (List Int)}, ListsAt H ps xss → DpAll K H (ps.map V.ref) (xss.map dI)
  | [], [], _ => .nil
  | [], _ :: _, h => by cases h.len
  | _ :: _, [], h => by cases h.len
  | p :: ps, l :: ls, h => .cons (dp_ints (SqL.of (h.at_ 0 p l rfl rfl))) (dpAll_lists ⟨by simpa using h.len, fun i q m h1 h2 => h.at_ (i + 1) q m (by simpa using h1) (by simpa using h2)⟩)
theorem canLay_lists : ∀ ls : List (List Int), PyData.canLayAll0 (ls.map dI) = true
  | [] => rfl
  | l :: ls => by
    have ih := canLay_lists ls
    have h1 : PyData.canLay0 (dI l) = true := by simp only [dI, PyData.canLay0]; exact canLay_ints l
    simp only [List.map_cons, PyData.canLayAll0, h1, ih, Bool.and_self]
theorem depth_lists : ∀ ls : List (List Int), PyData.depthAll (ls.map dI) ≤ 3
  | [] => by simp [PyData.depthAll]
  | l :: ls => by
    have ih := depth_lists ls
    have h1 : PyData.depth (dI l) ≤ 2 := by
      have := depth_ints l
      simp only [dI, PyData.depth]
      omega
    simp only [List.map_cons, PyData.depthAll]
    omega
theorem shaped_lists (ls : List (List Int)) : SeqAt.shaped (.list (ls.map dI)) = true := by
  unfold SeqAt.shaped
  have h1 : PyData.canLay0 (.list (ls.map dI)) = true := by simp only [PyData.canLay0]; exact canLay_lists ls
  have h2 : PyData.depth (.list (ls.map dI)) ≤ 64 := by
    have := depth_lists ls
    simp only [PyData.depth]
    omega
  rw [h1, decide_eq_true h2]
  rfl
theorem w_neNilL {K : PySem.W.Frag} {H : Hp} {Q : VK} {a b : Addr} {ps : List Addr} {xss : List (List Int)} (ha : H a = some (.lst (ps.map V.ref))) (hb : H b = some (.lst [])) (h1 : ListsAt H ps xss) (k : Q (.bl (!decide (xss = []))) H) : rNeD K (.ref a) (.ref b) H Q :=
  ⟨_, _, .lst (SqL.of ha) (dpAll_lists h1), .lst (SqL.of hb) (dpAll_lists (ps := []) (xss := []) .nil), shaped_lists _, shaped_lists _, by
    have e : PyData.eqv (.list (xss.map dI)) (.list (([] : List (List Int)).map dI)) = decide (xss = []) := by
      simp only [PyData.eqv]
      cases xss with
      | nil => simp [PyData.eqvAll]
      | cons x xs => simp [PyData.eqvAll]
    rw [e]
    exact k⟩
theorem FineAll.cons_pair {l : Int × Int} {ds : List PyData} (hi : l.1.natAbs < 10 ^ 40) (hj : l.2.natAbs < 10 ^ 40) (r : FineAll ds) : FineAll (dP l :: ds) := by
  have f : FineAll [PyData.int l.1, PyData.int l.2] := FineAll.cons_int hi (.cons_int hj .nil)
  exact .cons (by simp only [dP, PyData.showable]; exact f.s) (by simp only [dP, PyData.canLay0]; exact f.c) (by simp [dP, PyData.depth, PyData.depthAll]) (by simp only [dP, PyData.leavesShort]; exact f.l) r
theorem fineAll_pairs : ∀ {ls : List (Int × Int)}, (∀ l ∈ ls, l.1.natAbs < 10 ^ 40 ∧ l.2.natAbs < 10 ^ 40) → FineAll (ls.map dP)
  | [], _ => .nil
  | l :: ls, h => .cons_pair (h l List.mem_cons_self).1 (h l List.mem_cons_self).2 (fineAll_pairs fun m hm => h m (List.mem_cons_of_mem _ hm))
theorem bulk_pairs : ∀ ls : List (Int × Int), PyData.bulkAll (ls.map dP) ≤ 10 * ls.length
  | [] => by simp [PyData.bulkAll]
  | l :: ls => by
    have ih := bulk_pairs ls
    have h1 : PyData.bulk (dP l) ≤ 5 := by simp [dP, PyData.bulk, PyData.bulkAll]
    simp only [List.map_cons, PyData.bulkAll, List.length_cons]
    omega
theorem fine_pairs {ls : List (Int × Int)} (h : ∀ l ∈ ls, l.1.natAbs < 10 ^ 40 ∧ l.2.natAbs < 10 ^ 40) (hl : ls.length ≤ 1000) : Fine (.list (ls.map dP)) :=
  (fineAll_pairs h).fine (by have := bulk_pairs ls; omega)
/-! ### repr of a great number, where no limit of digits was set -/
def rReprBig : List V → Hp → VK → Prop := fun xs H Q => ∃ i : Int, xs = [.int i] ∧ i.natAbs < 10 ^ 4300 ∧ Q (.str (toString i)) H
theorem nodigits_of {K : PySem.W.Frag} {h : Heap} (X : K.In h) (hl : h.NoLimit) (nd : PySem.W.nsIn K cStatics "sys.int_max_str_digits" = some none) : h.NoDigits := by
  obtain ⟨mc, hn, _⟩ := hl
  exact ⟨mc, hn, PySem.W.ns_none_of X hn nd⟩
theorem call_reprBig {X : Cx} (nd : PySem.W.nsIn X.K cStatics "sys.int_max_str_digits" = some none) (hu : X.A.units + 100 < cLine) (hc : X.calm = true := by rfl) : CallR X (.builtin "repr") rReprBig := by
  intro pins s σ H xs us Q I r h
  obtain ⟨i, rfl, hz, q⟩ := h
  obtain ⟨u, rfl, t, rfl⟩ := vals1 r
  exact call_repr_slot (by omega) (typeIs_int s i t) PySem.F.slot_int_repr.toG (PyProof.Rows.call_int_repr_or (A := X.A.in1) (I.ok.hd hc) (nodigits_of I.kIn I.nolimit nd) (fun _ => ⟨_, _, rfl, .str _, H, I.tok _, ⟨_, rfl⟩, q⟩) fun hge => absurd hz (Nat.not_lt.mpr hge))
theorem w_reprBig {i : Int} {H : Hp} {Q : VK} (h : i.natAbs < 10 ^ 4300) (q : Q (.str (toString i)) H) : rReprBig [.int i] H Q := ⟨i, rfl, h, q⟩
/-! ### dicts with int keys -/
section
variable {K : PySem.W.Frag} {σ : L2.St} {H : Hp} {td ty : TE} {Q : VK} {a : Addr} {kvs kvs' : List (Key × V)} {k : Int} {v x : V} {R : Hp → Prop}
theorem w_dnewK (q : ∀ p, H p = none → Q (.ref p) (upd H p (.dK []))) : tDNewK σ H Q := q
theorem w_dgetI (h : H a = some (.dK kvs)) (e : valV kvs (.inl k) = some v) (q : Q v H) : DGE (.ref a) Q (.int k) H := ⟨a, v, rfl, by rw [← e]; exact DGet.k (k := .inl k) h, q⟩
theorem w_dputI (h : H a = some (.dK kvs)) (hl : kvs.length < 16777216) (q : R (upd H a (.dK (putK kvs (.inl k) v)))) : DPE (.ref a) v R (.int k) H := ⟨a, _, rfl, DPut.k (k := .inl k) h (szlt hl), q⟩
def DNE (Q : VK) (y : V) : V → Hp → Prop := fun x H2 => ∃ a o, x = .ref a ∧ DGet H2 a y o ∧ Q (.bl (!o.isSome)) H2
theorem w_dnotIn (h : ty σ H fun y H1 => td σ H1 (DNE Q y)) : tDNotIn ty td σ H Q := h
theorem w_dnotInE (h : H a = some (.dK kvs)) (q : Q (.bl (!(valV kvs (.inl k)).isSome)) H) : DNE Q (.int k) (.ref a) H := ⟨a, _, rfl, DGet.k (k := .inl k) h, q⟩
end
end Pg

namespace Pg
open PySem PySem.Spec PyProof.Rows L2
/-! ### an exception that was caught, as a thing of the heap -/
def exh (a : Addr) (cls : Value) (d : Option Addr) : HO := .ext fun h => ∃ oe vs, h.get? a = some oe ∧ Zc cls d oe ∧ oe.data = .fields vs
theorem exh_ok {P : Program} {w : World} {H : Hp} {h : Heap} {a : Addr} {cls : Value} {d : Option Addr} {oe : Obj} {vs : Array Value} (e : h.get? a = some oe) (z : Zc cls d oe) (f : oe.data = .fields vs) : ObjOk P w H h a (exh a cls d) :=
  ⟨⟨oe, vs, e, z, f⟩, ⟨oe, e⟩, fun h1 h2 ⟨o, v, e1, z1, f1⟩ k => ⟨o, v, k _ e1, z1, f1⟩⟩
theorem exh_at {P : Program} {w : World} {H : Hp} {h : Heap} {a : Addr} {cls : Value} {d : Option Addr} (hok : HOk P w H h) (e : H a = some (exh a cls d)) : ∃ oe vs, h.get? a = some oe ∧ Zc cls d oe ∧ oe.data = .fields vs := by
  have x : ObjOk P w H h a (.ext fun h => ∃ oe vs, h.get? a = some oe ∧ Zc cls d oe ∧ oe.data = .fields vs) := hok a _ e
  exact x.1
section
variable {X : Cx} {pins : List (Addr × Obj)} {σ : L2.St} {H : Hp} {s : Shared} {a : Addr} {oe : Obj} {vs : Array Value} {cls : Value} {d : Option Addr}
/-- the exception is tracked from here on -/
theorem Inv.hold (I : Inv X pins σ H s) (ha : s.heap.get? a = some oe) (hz : Zc cls d oe) (hd : oe.data = .fields vs) (na : H a = none) (n0 : X.s_0.heap.get? a = none) (nL : a ≠ X.env.locals) (np : ∀ p ∈ X.pn ++ pins, p.1 ≠ a) :
    Inv X pins σ (upd H a (exh a cls d)) s := by
  have ne : ∀ {b : Addr} {o : HO}, H b = some o → b ≠ a := fun {b o} e z => by
    rw [z, na] at e
    cases e
  have n0' : ∀ b o, X.s_0.heap.get? b = some o → b ≠ a := fun b o e z => by
    rw [z, n0] at e
    cases e
  refine ⟨I.ok, I.os, I.bare, ⟨I.base.keep, I.base.slot, fun b o e n hx => ?_, I.base.there, fun b xs e => ?_, fun b o u e => ?_, fun b ps e => ?_⟩, I.loc, I.cell, ?_, fun x c e => ?_, fun p hp => ?_, fun b o e => ?_, I.len⟩
  · rw [upd_ne (n0' b o e)]
    exact I.base.free b o e n hx
  · have z := I.base.tups b xs e
    rw [upd_ne (ne z)]
    exact z
  · have z := I.base.frzs b o u e
    rw [upd_ne (ne z)]
    exact z
  · obtain ⟨more, z⟩ := I.base.tbls b ps e
    exact ⟨more, by rw [upd_ne (ne z)]; exact z⟩
  · rw [upd_ne nL.symm]
    exact I.free
  · have hc : c ≠ a := fun z => by
      obtain ⟨v, o, e1, e2⟩ := I.cell x c e
      rw [z, ha] at e1
      cases e1
      rw [hd] at e2
      cases e2
    rw [upd_ne hc]
    exact I.freeC x c e
  · obtain ⟨z1, z2, z3⟩ := I.pin p hp
    exact ⟨z1, by rw [upd_ne (np p hp)]; exact z2, z3⟩
  · by_cases hb : b = a
    · subst hb
      rw [upd_same] at e
      cases e
      exact exh_ok ha hz hd
    · rw [upd_ne hb] at e
      exact (I.hok b o e).stay (fun _ _ _ q => q) (fun c hc => by rw [upd_ne (ne hc)]; exact hc) (fun c xs hc => by rw [upd_ne (ne hc)]; exact hc)
theorem Inv.toSuite (I : Inv X pins σ H s) (a : Addr) : Inv (X.suite a (X.pn ++ pins)) [] σ H s :=
  ⟨I.ok.suite _ _, I.os, I.bare, I.base, I.loc, I.cell, I.free, I.freeC, fun p hp => I.pin p (by rw [List.append_nil] at hp; exact hp), I.hok, I.len⟩
theorem Inv.ofSuite {pn' : List (Addr × Obj)} (I : Inv (X.suite a (X.pn ++ pins)) pn' σ H s) (ok : X.Ok) : Inv X pins σ H s :=
  ⟨ok, I.os, I.bare, I.base, I.loc, I.cell, I.free, I.freeC, fun p hp => I.pin p (List.mem_append_left _ hp), I.hok, I.len⟩
end
/-- what 'except x as n' wishes of an exception of the body: slot i is n's; the suite finds the exception in the heap -/
def wCau (K : PySem.W.Frag) (c : Value) (i : Nat) (ts : TS) (Wout : WX) (D : Ends) : WX := fun cls d σ H =>
  ∃ b, PySem.W.exmOne K cls c = some b ∧ (b = true → ∀ a, H a = none → ts { nx := fun σ' H' => D.nx (σ'.set i none) H', rt := D.rt, bk := fun σ' H' => D.bk (σ'.set i none) H', ct := fun σ' H' => D.ct (σ'.set i none) H' } (σ.set i (some (.ref a))) (upd H a (exh a cls d))) ∧
    (b = false → Wout cls d σ H)
/-- its reading -/
def tTryH (K : PySem.W.Frag) (c : Value) (i : Nat) (tb : WX → TS) (ts : TS) (Wout : WX) : TS := fun D σ H => tb (wCau K c i ts Wout D) D σ H
section
variable {X : Cx} {x n : Str} {c : Value} {i : Nat} {body suite : List Stmt} {b₀ : Stmt} {np pos pos' : Pos} {tb : WX → TS} {ts : TS} {Wout : WX}
theorem ps_tryH (hs : X.stack = X.env :: X.outer) (hf : X.env.frame = some X.env.locals) (hex : X.ex = []) (hN : X.N.Nodup) (hi : X.N[i]? = some n) (hln : X.env.kindOf n = some .local) (hc : Names X x c) (tk : Takes X Wout)
    (hb : ∀ (W : WX) (pn : List (Addr × Obj)) (xe : Value → Shared → Prop), Takes (X.tr pn xe) W → PassesOwn (model X.prog X.w) X.A X.env xe → PSs (X.tr pn xe) body (tb W))
    (hsu : ∀ (a : Addr) (pn : List (Addr × Obj)), PSs (X.suite a pn) (b₀ :: suite) ts) :
    PS X (.Try body [.ExceptHandler (some (.Name x np)) (some n) (b₀ :: suite) pos'] [] [] pos) (tTryH X.K c i tb ts Wout) := by
  refine ⟨fun pins s σ H D I h => ?_⟩
  have ok := I.ok
  have hfr : X.A.frames = some (X.env :: X.outer) := by rw [ok.frames, hs]
  refine wpAny_Try_except (wpAny_mono ((hb (wCau X.K c i ts Wout D) (X.pn ++ pins) _ (fun u s' xx => ?_) PassesOwn.looking).run [] s σ H D (I.toTry _) h) (fun f s1 hsp => ?_) (fun e s1 he => he))
  · obtain ⟨a, B, sI, pins', σ', H', cls, d, rfl, J', nb, up, sky, na, os, ag, b, hb1, hyes, hno⟩ := xx
    have J : Inv X pins σ' H' sI := J'.ofTry ok
    have sky' : Sky B (X.env :: X.outer) a (Zc cls d) X.env.locals s'.heap := by rw [← hs]; exact sky
    show wpAny (model X.prog X.w) X.A (noteFrame (.ref a) X.env) _ _ _
    refine Sky.land Zc.steady hfr hf sky' fun h3 fl3 up3 => ?_
    have J3 : Inv X pins σ' H' { s' with heap := h3 } := J.landed nb fl3.1 (up.trans up3) os ag
    obtain ⟨oe3, vs3, he3, hz3, hd3⟩ := fl3.there
    have nfr : a ∉ frs (X.env :: X.outer) := fun hm => by
      obtain ⟨_, o', e', hnf⟩ := fl3.2.2.1.mem hm
      rw [he3] at e'
      cases e'
      exact hnf _ hd3
    have nL : a ≠ X.env.locals := fun z => nfr (List.mem_filterMap.mpr ⟨X.env, List.mem_cons_self, by rw [hf, z]⟩)
    -- where the exception stands nothing stood
    have nI : sI.heap.get? a = none := by
      cases q : sI.heap.get? a with
      | none => rfl
      | some o =>
        have z := nb a o q (by rw [hs]; exact nfr)
        have z2 := fl3.2.1
        rw [z] at z2
        cases z2
    have n0 : X.s_0.heap.get? a = none := by
      cases q : X.s_0.heap.get? a with
      | none => rfl
      | some o =>
        obtain ⟨o', z⟩ := J.base.there a o q (by rw [hex]; simp)
        rw [nI] at z
        cases z
    have npn : ∀ p ∈ X.pn ++ pins, p.1 ≠ a := fun p hp z => by
      have z1 := (J.pin p hp).1
      rw [z, nI] at z1
      cases z1
    refine wpAny_handleBy_cons (codeAny_handlers_test ?_) (by intro q; cases q)
    have S3 := Inv.toSuite J3 a
    have LT : PySem.W.Looks (model X.prog X.w) h3 (typeOf (.ref a)) cls := fun A Q E s k q => wpAny_typeOf_ref (k _ _ he3) (by rw [hz3.1]; exact q)
    have LM := PySem.W.exm_one (M := model X.prog X.w) (J3.kIn) LT hb1
    have test : ∀ {Q : Value → Shared → Prop} {E : Value → Shared → Prop}, Q c { s' with heap := h3 } → wpAny (model X.prog X.w) (X.A.mark (some (.ref a))) (eval (.Name x np) X.env) Q E { s' with heap := h3 } := fun {Q E} q => by
      obtain ⟨hg, hdbg, hm | ⟨hm, hv, hnn⟩⟩ := hc
      · exact ld_glob (X := X.suite a (X.pn ++ pins)) S3 hg hm q hdbg
      · exact ld_blt (X := X.suite a (X.pn ++ pins)) S3 hg hm hv q hnn hdbg
    refine test (LM.here ?_)
    cases b with
    | true =>
      refine codeAny_handlers_suite_as ?_
      refine HandSPX.lands_againZ fl3 fun h4 fl4 up4 => ?_
      have J4 : Inv X pins σ' H' { s' with heap := h4 } := J.landed nb fl4.1 ((up.trans up3).trans up4) os ag
      obtain ⟨oe4, vs4, he4, hz4, hd4⟩ := fl4.there
      have S4 := Inv.toSuite (Inv.hold J4 he4 hz4 hd4 na n0 nL npn) a
      refine store_ok (X := X.suite a (X.pn ++ pins)) (v := .ref a) S4 hN hi (.inl hln) rfl (fun s5 S5 => ?_) (.inr hln)
      refine wpAny_mono ((hsu a (X.pn ++ pins)).run [] s5 _ _ _ S5 (hyes rfl a na)) (fun f s6 hsp => ?_) (fun _ _ z => False.elim z)
      have end_ : ∀ {σ6 : L2.St} {H6 : Hp} {Q : Shared → Prop}, Inv (X.suite a (X.pn ++ pins)) [] σ6 H6 s6 → (∀ s7, Inv X pins (σ6.set i none) H6 s7 → Q s7) →
          wpAny (model X.prog X.w) X.A (do bindName X.env n .none; unbindBehindTheSuite X.env n pos') (fun _ s7 => Q s7) X.xe s6 := fun {σ6 H6 Q} S6 hq => gone_ok (Inv.ofSuite S6 ok) hN hi hln hq
      cases f with
      | next =>
        obtain ⟨σ6, H6, S6, q6⟩ := hsp
        exact end_ S6 fun s7 J7 => ⟨_, _, J7, q6⟩
      | brk =>
        obtain ⟨σ6, H6, S6, q6⟩ := hsp
        exact end_ S6 fun s7 J7 => ⟨_, _, J7, q6⟩
      | cont =>
        obtain ⟨σ6, H6, S6, q6⟩ := hsp
        exact end_ S6 fun s7 J7 => ⟨_, _, J7, q6⟩
      | ret u =>
        obtain ⟨v6, σ6, H6, S6, r6, q6⟩ := hsp
        exact end_ S6 fun s7 J7 => ⟨_, _, _, J7, r6, q6⟩
    | false =>
      show wpAny _ X.A (handleBy (.ref a) X.env []) _ _ _
      refine wpAny_handleBy_nil ?_
      obtain ⟨k1, k2, k3, oe, vs, T, oT, ts', he, hz, hd, h1, hr⟩ := id fl3
      unfold PySem.passOn
      refine wpAny_bind (wpAny_field he hd h1 ?_)
      rw [if_neg (show ¬ ((Value.ref T == Value.none) = true) from by simp)]
      have fin : wpAny (model X.prog X.w) X.A (setFlight (.ref a) X.env.frame) (fun _ s4 => wpAny (model X.prog X.w) X.A (throw (.ref a) : Sem Flow) (SP X pins D) X.xe s4) X.xe { s' with heap := h3 } := by
        rw [hf]
        refine HandSPX.setFlight_upZ fl3 fun h4 hh4 up4 => wpAny_throw (tk _ _ ?_)
        exact ⟨a, B, sI, pins, σ', H', cls, d, rfl, J, nb, (up.trans up3).trans up4, .inr (.inr (by rw [hs]; exact hh4)), na, os, ag, hno rfl⟩
      first
        | exact wpAny_bind (wpAny_pure (wpAny_bind fin))
        | exact wpAny_bind fin
  · cases f with
    | next =>
      obtain ⟨σ', H', J', q⟩ := hsp
      exact wpAny_execs_nil ⟨σ', H', J'.ofTry ok, q⟩
    | brk =>
      obtain ⟨σ', H', J', q⟩ := hsp
      exact ⟨σ', H', J'.ofTry ok, q⟩
    | cont =>
      obtain ⟨σ', H', J', q⟩ := hsp
      exact ⟨σ', H', J'.ofTry ok, q⟩
    | ret u =>
      obtain ⟨v, σ', H', J', r, q⟩ := hsp
      exact ⟨v, σ', H', J'.ofTry ok, r, q⟩
end
/-! ### defs that may raise -/
structure DefAtX (P : Program) (w : World) (K : PySem.W.Frag) (mg : Str → Option Value) (base : Heap) (x : Str) (st : Stmt) (k : Nat) (ps : List Str) (sp : Sp) : Prop where
  ex : ∃ f fd, mg x = some (.ref f) ∧ Fun K x x st f fd ∧ FnOk P w K mg base (L2.CX P w) k f fd ps sp ∧ Binds K fd ps []
structure MDefAtX (P : Program) (w : World) (K : PySem.W.Frag) (mg : Str → Option Value) (base : Heap) (C : Addr) (m qual : Str) (st : Stmt) (k : Nat) (ps : List Str) (sp : Sp) : Prop where
  ex : ∃ f fd, Meth K C m f ∧ Fun K m qual st f fd ∧ FnOk P w K mg base (L2.CX P w) k f fd ps sp ∧ Binds K fd ps []
section
variable {P : Program} {w : World} {K : PySem.W.Frag} {mg : Str → Option Value} {base : Heap} {x m qual : Str} {st : Stmt} {k : Nat} {ps N : List Str} {sp : Sp} {C : Addr}
theorem FunAt.okX (F : FunAt K mg x st) (S : FnScope N ps (defScope st)) (len : ∀ vs H Q E, sp vs H Q E → vs.length = ps.length)
    (hb : ∀ (kV doc pm : Value) (an : Option Addr) (cdv ct : Value) (us : List Value), us.length = ps.length → bindArgs (PySem.W.fnOf x x (defArgs st) (defBody st) (defScope st) .none kV doc pm an cdv ct) ⟨us, []⟩ = pure (ps.zip us))
    (hbody : ∀ (f : Addr) (cdv : Value) (A : Around) (outer : List Env) (s : Shared) (H : Hp) (vs : List V) (Q : VK) (E : XK), Room k (A.deeper (envOfC x (defScope st) s.heap.objs.size f cdv)) → sp vs H Q E →
      ∃ t, PSs (cxOf (L2.CX P w) P w K mg base N x (defScope st) f cdv A outer s H E) (defBody st) t ∧ t { nx := fun _ H' => Q .non H', rt := Q } (start N vs) H) : DefAtX P w K mg base x st (k + 1) ps sp := by
  obtain ⟨f, fd, hm, F⟩ := F.ex
  exact ⟨f, fd, hm, F, F.okX S len (fun cdv A outer s H vs Q E hr h => hbody f cdv A outer s H vs Q E hr h), F.binds hb⟩
theorem MethAt.okX (F : MethAt K C m qual st) (S : FnScope N ps (defScope st)) (len : ∀ vs H Q E, sp vs H Q E → vs.length = ps.length)
    (hb : ∀ (kV doc pm : Value) (an : Option Addr) (cdv ct : Value) (us : List Value), us.length = ps.length → bindArgs (PySem.W.fnOf m qual (defArgs st) (defBody st) (defScope st) .none kV doc pm an cdv ct) ⟨us, []⟩ = pure (ps.zip us))
    (hbody : ∀ (f : Addr) (cdv : Value) (A : Around) (outer : List Env) (s : Shared) (H : Hp) (vs : List V) (Q : VK) (E : XK), Room k (A.deeper (envOfC qual (defScope st) s.heap.objs.size f cdv)) → sp vs H Q E →
      ∃ t, PSs (cxOf (L2.CX P w) P w K mg base N qual (defScope st) f cdv A outer s H E) (defBody st) t ∧ t { nx := fun _ H' => Q .non H', rt := Q } (start N vs) H) : MDefAtX P w K mg base C m qual st (k + 1) ps sp := by
  obtain ⟨f, fd, hm, F⟩ := F.ex
  exact ⟨f, fd, hm, F, F.okX S len (fun cdv A outer s H vs Q E hr h => hbody f cdv A outer s H vs Q E hr h), F.binds hb⟩
end
/-! ### .. called -/
abbrev wAt (W : WX) (σ : L2.St) : XK := fun cls d H => W cls d σ H
def tCallX (sp : Sp) (W : WX) (t : TA) : TE := fun σ H Q => t σ H fun vs H1 => sp vs H1 Q (wAt W σ)
def tCallXK (n : Nat) (ix : List Nat) (sp : Sp) (W : WX) (tk : TA) : TE := fun σ H Q => tk σ H fun zs H2 => zs.length = n ∧ sp (pick ix zs) H2 Q (wAt W σ)
def tMethX (C : Addr) (m : Str) (sp : Sp) (W : WX) (ta : TE) (t : TA) : TE := fun σ H Q => ta σ H fun x H1 => ∃ a dx fs, x = .ref a ∧ H1 a = some (.ins C dx fs) ∧ fs.lookup m = none ∧ t σ H1 fun vs H2 => sp (x :: vs) H2 Q (wAt W σ)
def tMethXK (C : Addr) (m : Str) (n : Nat) (ix : List Nat) (sp : Sp) (W : WX) (ta : TE) (tk : TA) : TE := fun σ H Q => ta σ H fun x H1 => ∃ a dx fs, x = .ref a ∧ H1 a = some (.ins C dx fs) ∧ fs.lookup m = none ∧ tk σ H1 fun zs H2 => zs.length = n ∧ sp (x :: pick ix zs) H2 Q (wAt W σ)
def tMakeX (C : Addr) (sp : Sp) (W : WX) (t : TA) : TE := fun σ H Q => t σ H fun vs H1 => ∀ x dx, H1 x = none → H1 dx = none → dx ≠ x →
  sp (.ref x :: vs) (upd (upd H1 dx (.own x)) x (.ins C dx [])) (fun v H3 => v = .non ∧ Q (.ref x) H3) (wAt W σ)
def tMakeXK (C : Addr) (n : Nat) (ix : List Nat) (sp : Sp) (W : WX) (tk : TA) : TE := fun σ H Q => tk σ H fun zs H1 => zs.length = n ∧ ∀ x dx, H1 x = none → H1 dx = none → dx ≠ x →
  sp (.ref x :: pick ix zs) (upd (upd H1 dx (.own x)) x (.ins C dx [])) (fun v H3 => v = .non ∧ Q (.ref x) H3) (wAt W σ)
section
variable {X : Cx} {x m qual : Str} {st : Stmt} {k n : Nat} {ps ks : List Str} {sp : Sp} {C : Addr} {e o : Expr} {es : List Expr} {kws : List Keyword} {t tk : TA} {ta : TE} {p pos apos : Pos} {W : WX} {ix : List Nat} {CX : CXT} {f : Addr} {fd : FuncData}
/-- the callee runs; what it lets out is taken at these slots -/
theorem run_at {pins : List (Addr × Obj)} {σ : L2.St} {H : Hp} {s : Shared} {Q : VK} {E : XK} {us us' : List Value} {kw : List (Str × Value)} {vs : List V} (F : FnOk X.prog X.w X.K X.mg X.base CX k f fd ps sp) (hr : Room k X.A) (hx : PassesAt CX X σ E)
    (I : Inv X pins σ H s) (b : BindsTo s fd ⟨us, kw⟩ (ps.zip us')) (r : Vals vs us') (h : sp vs H Q E) : wpAny (model X.prog X.w) X.A (call (.ref f) us kw) (EP X pins σ Q) X.xe s := by
  refine wpAny_call (codeAny_mono (F.run X.A X.stack s H ⟨us, kw⟩ us' vs Q E hr I.env0 b r h) fun q s' hq => ?_)
  cases q with
  | error e => exact hx pins H s e s' I hq
  | ok fl =>
    cases fl with
    | ret u => exact I.after hq
    | next => exact False.elim hq
    | brk => exact False.elim hq
    | cont => exact False.elim hq
theorem run_makeAt {pins : List (Addr × Obj)} {σ : L2.St} {H : Hp} {s : Shared} {Q : VK} {E : XK} {us us' : List Value} {kw : List (Str × Value)} {vs : List V} (M : Mk X.K C f) (F : FnOk X.prog X.w X.K X.mg X.base CX k f fd ps sp) (hr : Room (k + 1) X.A) (hx : PassesAt CX X σ E)
    (I : Inv X pins σ H s) (b : ∀ (s' : Shared) (a : Addr), vs.length + 1 = ps.length → X.K.In s'.heap → BindsTo s' fd ⟨.ref a :: us, kw⟩ (ps.zip (.ref a :: us'))) (r : Vals vs us')
    (h : ∀ x dx, H x = none → H dx = none → dx ≠ x → sp (.ref x :: vs) (upd (upd H dx (.own x)) x (.ins C dx [])) (fun v H2 => v = .non ∧ Q (.ref x) H2) E) :
    wpAny (model X.prog X.w) X.A (call (.ref C) us kw) (EP X pins σ Q) X.xe s := by
  have hq := h (s.heap.objs.size + 1) s.heap.objs.size (I.hok.fresh (Nat.le_succ _)) (I.hok.fresh (Nat.le_refl _)) (Nat.ne_of_lt (Nat.lt_succ_self _))
  have I2 := Inv.made (C := C) I
  have r2 : Vals (V.ref (s.heap.objs.size + 1) :: vs) (Value.ref (s.heap.objs.size + 1) :: us') := .cons rfl r
  refine wpAny_call (make_map (f := f) I.kIn M.makes M.init (beq_iff_eq.mp M.fn) (codeAny_mono (F.run _ X.stack _ _ ⟨Value.ref (s.heap.objs.size + 1) :: us, kw⟩ _ _ _ E (hr.make C us kw) (I2.env0.make C us kw) (b _ _ (F.len _ _ _ _ hq) I2.kIn) r2 hq) fun q s' hq' => ?_))
  cases q with
  | error e => exact hx pins _ _ e s' I2 hq'
  | ok fl =>
    cases fl with
    | ret u =>
      obtain ⟨v, H', I3, rv, ev, q3⟩ := I2.after hq'
      subst ev
      exact ⟨rv, ⟨V.ref (s.heap.objs.size + 1), H', I3, rfl, q3⟩⟩
    | next => exact False.elim hq'
    | brk => exact False.elim hq'
    | cont => exact False.elim hq'
theorem binds0 {K : PySem.W.Frag} {s : Shared} {us : List Value} {vs : List V} (hb : Binds K fd ps []) (r : Vals vs us) (hl : vs.length = ps.length) (k : K.In s.heap) : BindsTo s fd ⟨us, []⟩ (ps.zip us) := by
  have b := hb s us k (by rw [List.append_nil, ← r.length]; exact hl)
  rw [List.append_nil] at b
  exact b
theorem pe_callX (D : DefAtX X.prog X.w X.K X.mg X.base x st k ps sp) (hr : Room k X.A) (tkn : Takes X W) (ha : PA X (e :: es) t) (hg : Gl X x := by rfl)
    (hdb : (x == ("__debug__" : Str)) = false := by decide) (he : starEach (e :: es) X.env = (false, eval e X.env) :: starEach es X.env := by rfl) (hpl : (backTo pos (starEach es X.env)).any (·.1) = false := by rfl) :
    PE X (.Call (.Name x p) (e :: es) [] pos) (tCallX sp W t) := by
  obtain ⟨f, fd, hm, F, G, b⟩ := D.ex
  refine ⟨fun pins s σ H Q I h => ?_⟩
  refine wpAny_Call_Name_kw (ld_glob I hg hm ?_ hdb)
  refine PySem.W.callWith_K (h₀ := X.base) I.ok.mod.kin F.kp (thn (ha.run pos pins s σ H _ I h) fun us s1 ⟨vs, H1, I1, r, q⟩ => ⟨I1.kIn, ?_⟩) he hpl
  exact run_at (us := us) G hr (L2.passAt tkn σ) I1 (binds0 b r (G.len _ _ _ _ q) I1.kIn) r q
theorem pe_callXK (D : DefAtX X.prog X.w X.K X.mg X.base x st k ps sp) (hr : Room k X.A) (tkn : Takes X W) (hkw : PK X kws tk) (B : KB0 x x st ps ks 0 ix) (hg : Gl X x := by rfl)
    (hall : (backToKw pos (keywordEach kws X.env)).all (·.1.isSome) = true := by rfl) (hks : (backToKw pos (keywordEach kws X.env)).filterMap (·.1) = ks := by rfl) (hdb : (x == ("__debug__" : Str)) = false := by decide)
    (hpl : ((backTo pos (starEach [] X.env)).any (·.1) || (backToKw pos (keywordEach kws X.env)).any (·.1.isNone)) = false := by rfl) :
    PE X (.Call (.Name x p) [] kws pos) (tCallXK ks.length ix sp W tk) := by
  obtain ⟨f, fd, hm, F, G, b⟩ := D.ex
  refine ⟨fun pins s σ H Q I h => ?_⟩
  refine wpAny_Call_Name_kw (ld_glob I hg hm ?_ hdb)
  refine PySem.W.callWith_KW0 (h₀ := X.base) I.ok.mod.kin F.kp hall ?_ hpl
  refine thn (hkw.run pos pins s σ H _ I h) fun ws s2 ⟨zs, H2, I2, rz, l2, q2⟩ => ⟨I2.kIn, ?_⟩
  rw [hks]
  exact run_at (us := []) G hr (L2.passAt tkn σ) I2 ((B.kbn F).to s2 [] ws I2.kIn rfl (rz.length.symm.trans l2)) (pick_vals rz ix) q2
theorem pe_methX {pl : Sem Bool} (he : PE X o ta) (T : Cls X.K C) (D : MDefAtX X.prog X.w X.K X.mg X.base C m qual st k ps sp) (hr : Room k X.A) (tkn : Takes X W) (ha : PA X (e :: es) t)
    (hst : starEach (e :: es) X.env = (false, eval e X.env) :: starEach es X.env := by rfl) (hpl : (backTo pos (starEach es X.env)).any (·.1) = false := by rfl)
    (ht : eval (.Call (.Attribute o m apos) (e :: es) [] pos) X.env = (do
      let ov ← eval o X.env
      standAt apos.atName
      let (f, first) ← holding [ov] (getMethod ov m pl)
      callWith pos f first (backTo pos (starEach (e :: es) X.env)) (backToKw pos (keywordEach [] X.env))) := by rfl) :
    PE X (.Call (.Attribute o m apos) (e :: es) [] pos) (tMethX C m sp W ta t) := by
  obtain ⟨f, fd, hm, F, G, b⟩ := D.ex
  refine ⟨fun pins s σ H Q I h => ?_⟩
  refine PySem.W.methodCall_KW (pl := pl) (thn (he.run pins s σ H _ I h) fun u s1 ⟨x, H1, I1, rx, a, dx, fs, ex, ea, l, q⟩ => ?_) ht
  subst ex
  obtain rfl : u = Value.ref a := rx
  refine getmeth_ok I1 ea T hm l ?_
  refine PySem.W.callWith_K (first := [.ref a]) (h₀ := X.base) I.ok.mod.kin hm.kp (thn (ha.run pos pins s1 σ H1 _ I1 q) fun us s2 ⟨vs, H2, I2, r, q2⟩ => ⟨I2.kIn, ?_⟩) hst hpl
  have r2 : Vals (V.ref a :: vs) (Value.ref a :: us) := .cons rfl r
  exact run_at (us := .ref a :: us) G hr (L2.passAt tkn σ) I2 (binds0 b r2 (G.len _ _ _ _ q2) I2.kIn) r2 q2
theorem pe_methX0 {pl : Sem Bool} (he : PE X o ta) (T : Cls X.K C) (D : MDefAtX X.prog X.w X.K X.mg X.base C m qual st k ps sp) (hr : Room k X.A) (tkn : Takes X W)
    (ht : eval (.Call (.Attribute o m apos) [] [] pos) X.env = (do
      let ov ← eval o X.env
      standAt apos.atName
      let (f, first) ← holding [ov] (getMethod ov m pl)
      callWith pos f first (backTo pos (starEach [] X.env)) (backToKw pos (keywordEach [] X.env))) := by rfl) :
    PE X (.Call (.Attribute o m apos) [] [] pos) (tMethX C m sp W ta tNil) := by
  obtain ⟨f, fd, hm, F, G, b⟩ := D.ex
  refine ⟨fun pins s σ H Q I h => ?_⟩
  refine PySem.W.methodCall_KW (pl := pl) (thn (he.run pins s σ H _ I h) fun u s1 ⟨x, H1, I1, rx, a, dx, fs, ex, ea, l, q⟩ => ?_) ht
  subst ex
  obtain rfl : u = Value.ref a := rx
  refine getmeth_ok I1 ea T hm l ?_
  refine PySem.W.callWith_K0 (first := [.ref a]) I1.kIn hm.kp ?_
  have r2 : Vals [V.ref a] [Value.ref a] := .cons rfl .nil
  exact run_at (us := [.ref a]) G hr (L2.passAt tkn σ) I1 (binds0 b r2 (G.len _ _ _ _ q) I1.kIn) r2 q
theorem pe_methXK {pl : Sem Bool} (he : PE X o ta) (T : Cls X.K C) (D : MDefAtX X.prog X.w X.K X.mg X.base C m qual st k ps sp) (hr : Room k X.A) (tkn : Takes X W) (hkw : PK X kws tk) (B : KB0 m qual st ps ks 1 ix)
    (hall : (backToKw pos (keywordEach kws X.env)).all (·.1.isSome) = true := by rfl) (hks : (backToKw pos (keywordEach kws X.env)).filterMap (·.1) = ks := by rfl)
    (hpl : ((backTo pos (starEach [] X.env)).any (·.1) || (backToKw pos (keywordEach kws X.env)).any (·.1.isNone)) = false := by rfl)
    (ht : eval (.Call (.Attribute o m apos) [] kws pos) X.env = (do
      let ov ← eval o X.env
      standAt apos.atName
      let (f, first) ← holding [ov] (getMethod ov m pl)
      callWith pos f first (backTo pos (starEach [] X.env)) (backToKw pos (keywordEach kws X.env))) := by rfl) :
    PE X (.Call (.Attribute o m apos) [] kws pos) (tMethXK C m ks.length ix sp W ta tk) := by
  obtain ⟨f, fd, hm, F, G, b⟩ := D.ex
  refine ⟨fun pins s σ H Q I h => ?_⟩
  refine PySem.W.methodCall_KW (pl := pl) (thn (he.run pins s σ H _ I h) fun u s1 ⟨x, H1, I1, rx, a, dx, fs, ex, ea, l, q⟩ => ?_) ht
  subst ex
  obtain rfl : u = Value.ref a := rx
  refine getmeth_ok I1 ea T hm l ?_
  refine PySem.W.callWith_KW0 (first := [.ref a]) (h₀ := X.base) I.ok.mod.kin hm.kp hall ?_ hpl
  refine thn (hkw.run pos pins s1 σ H1 _ I1 q) fun ws s2 ⟨zs, H2, I2, rz, l2, q2⟩ => ⟨I2.kIn, ?_⟩
  rw [hks]
  have r2 : Vals (V.ref a :: pick ix zs) (Value.ref a :: pick ix ws) := .cons rfl (pick_vals rz ix)
  exact run_at (us := [.ref a]) G hr (L2.passAt tkn σ) I2 ((B.kbn F).to s2 [.ref a] ws I2.kIn rfl (rz.length.symm.trans l2)) r2 q2
theorem pe_makeX (T : ClsAt X.K X.mg x C) (D : MDefAtX X.prog X.w X.K X.mg X.base C "__init__" qual st k ps sp) (hr : Room (k + 1) X.A) (tkn : Takes X W) (ha : PA X (e :: es) t) (hg : Gl X x := by rfl)
    (hdb : (x == ("__debug__" : Str)) = false := by decide) (he : starEach (e :: es) X.env = (false, eval e X.env) :: starEach es X.env := by rfl) (hpl : (backTo pos (starEach es X.env)).any (·.1) = false := by rfl) :
    PE X (.Call (.Name x p) (e :: es) [] pos) (tMakeX C sp W t) := by
  obtain ⟨f, fd, hm, F, G, b⟩ := D.ex
  refine ⟨fun pins s σ H Q I h => ?_⟩
  refine wpAny_Call_Name_kw (ld_glob I hg T.g ?_ hdb)
  refine PySem.W.callWith_K (h₀ := X.base) I.ok.mod.kin T.kp (thn (ha.run pos pins s σ H _ I h) fun us s1 ⟨vs, H1, I1, r, q⟩ => ⟨I1.kIn, ?_⟩) he hpl
  refine run_makeAt (us := us) ⟨T.mks, hm.at_, hm.fn, T.kp⟩ G hr (L2.passAt tkn σ) I1 (fun s' a hl hk => ?_) r q
  have r2 : Vals (V.ref a :: vs) (Value.ref a :: us) := .cons rfl r
  exact binds0 b r2 hl hk
theorem pe_makeXK (T : ClsAt X.K X.mg x C) (D : MDefAtX X.prog X.w X.K X.mg X.base C "__init__" qual st k ps sp) (hr : Room (k + 1) X.A) (tkn : Takes X W) (hkw : PK X kws tk) (B : KB0 "__init__" qual st ps ks 1 ix) (hg : Gl X x := by rfl)
    (hall : (backToKw pos (keywordEach kws X.env)).all (·.1.isSome) = true := by rfl) (hks : (backToKw pos (keywordEach kws X.env)).filterMap (·.1) = ks := by rfl) (hdb : (x == ("__debug__" : Str)) = false := by decide)
    (hpl : ((backTo pos (starEach [] X.env)).any (·.1) || (backToKw pos (keywordEach kws X.env)).any (·.1.isNone)) = false := by rfl) :
    PE X (.Call (.Name x p) [] kws pos) (tMakeXK C ks.length ix sp W tk) := by
  obtain ⟨f, fd, hm, F, G, b⟩ := D.ex
  refine ⟨fun pins s σ H Q I h => ?_⟩
  refine wpAny_Call_Name_kw (ld_glob I hg T.g ?_ hdb)
  refine PySem.W.callWith_KW0 (h₀ := X.base) I.ok.mod.kin T.kp hall ?_ hpl
  refine thn (hkw.run pos pins s σ H _ I h) fun ws s2 ⟨zs, H2, I2, rz, l2, q2⟩ => ⟨I2.kIn, ?_⟩
  rw [hks]
  exact run_makeAt (us := []) ⟨T.mks, hm.at_, hm.fn, T.kp⟩ G hr (L2.passAt tkn σ) I2 (fun s' a _ hk => (B.kbn F).to s' [.ref a] ws hk rfl (rz.length.symm.trans l2)) (pick_vals rz ix) q2
end
/-! ### the classes of exceptions -/
/-- what the written part says of an own class C below ValueError whose instances have the field f -/
structure ExAt (K : PySem.W.Frag) (mg : Str → Option Value) (x : Str) (C : Addr) : Prop where
  g : mg x = some (.ref C)
  kp : PySem.W.keepIn K (.ref C) = true
  o : OexC K C
  ga : PySem.W.findIn K (.ref C) "__getattribute__" = some (some (.builtin "BaseException.__getattribute__"))
  gg : PySem.W.findIn K (.ref C) "__getattr__" = some none
  hd : PySem.W.hasDictIn K C = true
  cl : PySem.W.findIn K (.ref C) "__class__" = some (some (.builtin "object.__class__"))
  cn : PySem.W.specialIn K (.builtin "object.__class__") "__get__" = some (some (.builtin "getset_descriptor.__get__"))
  ct : PySem.W.takesIn K (.builtin "object.__class__") = some true
  cm : PySem.W.mroIn K C (.type "object") = some true
  no : PySem.W.findIn K (.ref C) "value" = some none
/-- the base class, whose __init__ is ValueError's -/
structure ExBase (K : PySem.W.Frag) (mg : Str → Option Value) (x : Str) (C : Addr) : Prop where
  g : mg x = some (.ref C)
  rd : PySem.W.readsIn K C (.type "type") = true
  ga : PySem.W.specialIn K (.ref C) "__getattribute__" = some (some (.builtin "type.__getattribute__"))
  i : PySem.W.findCls K (.ref C) (.type "type") "__init__" = some (.val (.builtin "ValueError.__init__"))
section
variable {X : Cx} {o e : Expr} {es : List Expr} {to te : TE} {ta : TA} {f x : Str} {p p' p1 p2 pos : Pos} {B C : Addr}
/-- B.__init__(self, ..), B's __init__ being ValueError's -/
theorem pe_beinit {pl : Sem Bool} (T : ExBase X.K X.mg x B) (ha : PA X (e :: es) ta) (hg : Gl X x := by rfl) (hdb : (x == ("__debug__" : Str)) = false := by decide)
    (hc : eval (.Call (.Attribute (.Name x p1) "__init__" p2) (e :: es) [] pos) X.env = (do
      let ov ← eval (.Name x p1) X.env
      standAt p2.atName
      let (f, first) ← holding [ov] (getMethod ov "__init__" pl)
      callWith pos f first (backTo pos (starEach (e :: es) X.env)) (backToKw pos (keywordEach [] X.env))) := by rfl)
    (he : starEach (e :: es) X.env = (false, eval e X.env) :: starEach es X.env := by rfl) (hpl : (backTo pos (starEach es X.env)).any (·.1) = false := by rfl) :
    PE X (.Call (.Attribute (.Name x p1) "__init__" p2) (e :: es) [] pos) (tVeI X.K ta) := by
  refine ⟨fun pins s σ H Q I h => ?_⟩
  refine PySem.W.methodCall_KW (ld_glob I hg T.g ?_ hdb) hc
  refine PySem.W.method_cls I.kIn T.ga (PySem.W.cls_value I.kIn T.rd T.i rfl ?_)
  refine PyProof.Rows.callWith_method1 (thn (ha.run pos pins _ σ H _ (I.tok _) h) fun us s1 ⟨vs, H1, I1, r1, a, C, ws, ev, hl, T, ea, q⟩ => ?_) he hpl
  subst ev
  cases r1 with
  | @cons _ u0 _ ur ra rw' =>
    obtain rfl : u0 = Value.ref a := ra
    have hlen : ur.length ≤ sizeLine := by
      rw [← Paired.length rw', sizeLine_eq]
      omega
    exact oinit_ok T I1 ea hlen fun s' J => ⟨.non, H1, J, rfl, q⟩
end
/-- what the __init__ of such a class does -/
def spEInit (K : PySem.W.Frag) (C : Addr) : Sp := fun vs H Q _ => ∃ (a : Addr) (y : V), vs = [.ref a, y] ∧ H a = some (exo a C none) ∧ ∀ dx, H dx = none → dx ≠ a → Q .non (upd (upd H dx (exd dx [("value", y)])) a (exo a C (some dx)))
/-- raise C(e) -/
def tRaiseX (K : PySem.W.Frag) (C : Addr) (W : WX) (te : TE) : TS := fun _ σ H => tMkO C (spEInit K C) [] (tCons te tNil) σ H (wAt W σ)
def RaiseX (K : PySem.W.Frag) (C : Addr) (W : WX) (σ : L2.St) : V → Hp → Prop := fun y H1 => [y].length ≤ 1000 ∧ ∀ a, H1 a = none → spEInit K C (.ref a :: ([y] ++ [])) (upd H1 a (exo a C none))
  (fun v H2 => v = .non ∧ ∃ (d : Addr) (fs : List (Str × V)), H2 a = some (exo a C (some d)) ∧ H2 d = some (exd d fs) ∧ H1 d = none ∧ wAt W σ (.ref C) (some d) (upd (del H2 a) d (.xd fs))) (fun _ _ _ => False)
section
variable {X : Cx} {e : Expr} {te : TE} {x qual : Str} {st : Stmt} {k : Nat} {C : Addr} {W : WX} {p pos pos2 : Pos} {K : PySem.W.Frag} {σ : L2.St} {H : Hp} {D : Ends} {y : V}
theorem w_raise (h : te σ H (RaiseX K C W σ)) : tRaiseX K C W te D σ H := h
theorem w_raiseE (q : ∀ d, H d = none → W (.ref C) (some d) σ (upd H d (.xd [("value", y)]))) : RaiseX K C W σ y H := by
  refine ⟨by simp, fun a na => ⟨a, y, rfl, upd_same, fun dx nd ne => ?_⟩⟩
  have nd' : H dx = none := by
    rw [upd_ne ne] at nd
    exact nd
  refine ⟨rfl, dx, [("value", y)], upd_same, ?_, nd', ?_⟩
  · rw [upd_ne ne]
    exact upd_same
  · have e : upd (del (upd (upd (upd H a (exo a C none)) dx (exd dx [("value", y)])) a (exo a C (some dx))) a) dx (.xd [("value", y)]) = upd H dx (.xd [("value", y)]) := by
      funext b
      by_cases hb : b = dx
      · rw [hb, upd_same, upd_same]
      · rw [upd_ne hb, upd_ne hb]
        by_cases ha : b = a
        · rw [ha, del_same, na]
        · rw [del_ne ha, upd_ne ha, upd_ne hb, upd_ne ha]
    show W _ _ σ _
    rw [e]
    exact q dx nd'
theorem ps_raiseX (T : ExAt X.K X.mg x C) (D : MDefAt X.prog X.w X.K X.mg X.base C "__init__" qual st k ["self", "value"] (spEInit X.K C)) (hr : Room (k + 1) X.A) (tk : Takes X W) (he : PE X e te) (hc : X.calm = true := by rfl) (hg : Gl X x := by rfl)
    (hdb : (x == ("__debug__" : Str)) = false := by decide) (hst : starEach [e] X.env = (false, eval e X.env) :: starEach [] X.env := by rfl) (hpl : (backTo pos (starEach [] X.env)).any (·.1) = false := by rfl) :
    PS X (.Raise (some (.Call (.Name x p) [e] [] pos)) none pos2) (tRaiseX X.K C W te) := by
  obtain ⟨f, fd, hm, F, G, b⟩ := D.ex
  have ti : PySem.W.typeIn X.K (.ref f) = some (.type "function") := beq_iff_eq.mp hm.fn
  exact ⟨fun pins s σ H D I h => (ps_raise hc tk (pmk_oex (p := p) (pos := pos) T.o hm.at_ ti G hr b .nil (fun _ _ _ _ _ _ _ z => z.elim) hg T.g (pa_cons he pa_nil hst) hdb hst hpl)).run pins s σ H D I h⟩
end
/-! ### the exception in the heap: its class, its field -/
/-- isinstance(e, c), e an exception that was caught -/
def rIsE (K : PySem.W.Frag) : List V → Hp → VK → Prop := fun xs H Q => ∃ (a D dd : Addr) (fs : List (Str × V)) (mg : Str → Option Value) (x : Str) (c : V) (u : Value) (b : Bool), xs = [.ref a, c] ∧ ClsV c u ∧ H a = some (exh a (.ref D) (some dd)) ∧ H dd = some (.xd fs) ∧ ExAt K mg x D ∧ PySem.W.kitOne K (.ref D) u = some b ∧ Q (.bl b) H
/-- isinstance(e, (c1, ..)) -/
def rIsET (K : PySem.W.Frag) : List V → Hp → VK → Prop := fun xs H Q => ∃ (a D dd tp : Addr) (fs : List (Str × V)) (mg : Str → Option Value) (x : Str) (cs : List V) (us : List Value) (b : Bool), xs = [.ref a, .ref tp] ∧ H tp = some (.tup cs) ∧ Paired ClsV cs us ∧ H a = some (exh a (.ref D) (some dd)) ∧ H dd = some (.xd fs) ∧ ExAt K mg x D ∧ PySem.W.kitAny K (.ref D) us = some b ∧ Q (.bl b) H
section
variable {X : Cx} {pins : List (Addr × Obj)} {σ : L2.St} {H : Hp} {s : Shared} {a D dd : Addr} {fs : List (Str × V)} {mg : Str → Option Value} {x : Str}
theorem exh_inst (I : Inv X pins σ H s) (ea : H a = some (exh a (.ref D) (some dd))) (ed : H dd = some (.xd fs)) : ∃ oe od, PySem.W.InstAt s.heap a oe D (some od) ∧ ∃ mA : Str → Option Value, (∀ f, RelO (fs.lookup f) (mA f)) ∧ ∀ f, PySem.W.lookIn f od = some (mA f) := by
  obtain ⟨oe, vs, h1, hz, hd⟩ := exh_at I.hok ea
  have hx : ObjOk X.prog X.w H s.heap dd (.xd fs) := I.hok dd _ ed
  obtain ⟨mA, hns, hr⟩ := hx
  obtain ⟨od, ho, hl⟩ := lookIn_ns hns
  exact ⟨oe, od, ⟨h1, hz.1, by unfold PySem.W.notCls; rw [hd] <;> rfl, by rw [hz.2]; exact ho⟩, mA, hr, hl⟩
theorem ExAt.some {K : PySem.W.Frag} (T : ExAt K mg x D) : (PySem.W.clsIn K D).isSome = true := by
  obtain ⟨cd, hc, _⟩ := PySem.W.any_some T.hd
  rw [hc]
  rfl
theorem call_isE : CallR X (.builtin "isinstance") (rIsE X.K) := by
  intro pins s σ H xs us Q I r h
  obtain ⟨a, D, dd, fs, mg, x, c, u, b, rfl, k, ea, ed, T, e, q⟩ := h
  obtain ⟨u1, u2, rfl, r1, r2⟩ := vals2 r
  have e2 := k.eq r2
  subst e2
  obtain rfl : u1 = Value.ref a := r1
  obtain ⟨oe, od, J, _⟩ := exh_inst I ea ed
  exact PySem.W.kia_one (PySem.W.kitx_exc T.some T.ga T.gg T.o.exC T.cl T.cn T.ct T.cm) I.kIn J e (fun z => nomatch z) fun tk => ⟨.bl b, H, I.tok tk, rfl, q⟩
theorem call_isET : CallR X (.builtin "isinstance") (rIsET X.K) := by
  intro pins s σ H xs us Q I r h
  obtain ⟨a, D, dd, tp, fs, mg, x, cs, ws, b, rfl, hT, k, ea, ed, T, e, q⟩ := h
  obtain ⟨u1, u2, rfl, r1, r2⟩ := vals2 r
  obtain rfl : u1 = Value.ref a := r1
  cases (show u2 = Value.ref tp from r2)
  obtain ⟨oe, od, J, _⟩ := exh_inst I ea ed
  obtain ⟨_, its, rv, o, h1, h2, n, h3⟩ := (show ObjOk X.prog X.w H s.heap tp (.tup cs) from I.hok tp _ hT)
  have e3 := ClsV.all k rv
  subst e3
  obtain ⟨oc, od', dt, sl⟩ := o
  simp only at h2 h3
  subst h2 h3
  exact PySem.W.kia_tup (PySem.W.kitx_exc T.some T.ga T.gg T.o.exC T.cl T.cn T.ct T.cm) I.kIn J h1 e (fun z => nomatch z) fun tk => ⟨.bl b, H, I.tok tk, rfl, q⟩
/-- e.value -/
def XfE (K : PySem.W.Frag) (Q : VK) : V → Hp → Prop := fun x H1 => ∃ (a D dd : Addr) (fs : List (Str × V)) (mg : Str → Option Value) (nm : Str) (v : V), x = .ref a ∧ H1 a = some (exh a (.ref D) (some dd)) ∧ H1 dd = some (.xd fs) ∧ ExAt K mg nm D ∧ fs.lookup ("value" : Str) = some v ∧ Q v H1
def tXfH (K : PySem.W.Frag) (te : TE) : TE := fun σ H Q => te σ H (XfE K Q)
theorem pe_xfH {e : Expr} {te : TE} {pos : Pos} (he : PE X e te) (hb : attributeBase e "value" X.env (eval e X.env) = eval e X.env := by rfl) : PE X (.Attribute e "value" pos) (tXfH X.K te) := by
  refine ⟨fun pins s σ H Q I h => ?_⟩
  refine attr_of hb (thn (he.run pins s σ H _ I h) fun u s1 hh => ?_)
  obtain ⟨x, H1, I1, rx, a, D, dd, fs, mg, nm, v, ex, ea, ed, T, l, q⟩ := hh
  subst ex
  obtain rfl : u = Value.ref a := rx
  obtain ⟨oe, od, J, mA, hr, hl⟩ := exh_inst I1 ea ed
  obtain ⟨u, hu, ru⟩ := RelO.some_of (v := v) (o := mA "value") (by rw [← l]; exact hr "value")
  exact HandSPX.exc_get I1.kIn J T.ga T.gg T.o.exC (PySem.W.findObj_own T.hd T.no rfl (by rw [hl, hu])) (handed_of ru) ⟨v, H1, I1.tok _, ru, q⟩
end
section
variable {K : PySem.W.Frag} {mg mg2 : Str → Option Value} {x y : Str} {C D : Addr} {b : Bool}
/-- isinstance of own classes, answered -/
theorem kit_ex (hC : PySem.W.hasDictIn K C = true) (ty : PySem.W.typeIn K (.ref C) = some (.type "type")) (self : PySem.W.subIn K (.ref D) (.ref D) = some true) (sub : PySem.W.subIn K (.ref D) (.ref C) = some b) : PySem.W.kitOne K (.ref D) (.ref C) = some b := by
  obtain ⟨cd, hc, _⟩ := PySem.W.any_some hC
  unfold PySem.W.kitOne
  by_cases e : D = C
  · subst e
    rw [self] at sub
    cases sub
    rw [if_pos (beq_self_eq_true _)]
  · have ne : (Value.ref D == Value.ref C) = false := Bool.eq_false_iff.mpr fun z => e (Value.ref.inj (beq_iff_eq.mp z))
    rw [ne, if_neg Bool.false_ne_true]
    show (if ((PySem.W.clsIn K C).isSome && PySem.W.typeIn K (.ref C) == some (.type "type")) = true then PySem.W.subIn K (.ref D) (.ref C) else none) = some b
    rw [hc, ty, sub, if_pos (by rfl)]
theorem kit_exT {T : String} (m : PySem.W.kitMeta T = true) (sub : PySem.W.subIn K (.ref D) (.type T) = some b) : PySem.W.kitOne K (.ref D) (.type T) = some b := by
  unfold PySem.W.kitOne
  have ne : (Value.ref D == Value.type T) = false := Bool.eq_false_iff.mpr fun z => by cases beq_iff_eq.mp z
  rw [ne, if_neg Bool.false_ne_true]
  show (if PySem.W.kitMeta T = true then PySem.W.subIn K (.ref D) (.type T) else none) = some b
  rw [if_pos m, sub]
end
section
variable {K : PySem.W.Frag} {c : Value} {i : Nat} {tb : WX → TS} {ts : TS} {Wout : WX} {D : Ends} {σ : L2.St} {H : Hp} {cls : Value} {d : Option Addr} {Q : VK}
theorem w_try (h : tb (wCau K c i ts Wout D) D σ H) : tTryH K c i tb ts Wout D σ H := h
theorem w_caught (hb : PySem.W.exmOne K cls c = some true) (h : ∀ a, H a = none → ts { nx := fun σ' H' => D.nx (σ'.set i none) H', rt := D.rt, bk := fun σ' H' => D.bk (σ'.set i none) H', ct := fun σ' H' => D.ct (σ'.set i none) H' } (σ.set i (some (.ref a))) (upd H a (exh a cls d))) :
    wCau K c i ts Wout D cls d σ H := ⟨true, hb, fun _ => h, fun z => nomatch z⟩
variable {a D' dd tp : Addr} {fs : List (Str × V)} {mg : Str → Option Value} {x : Str} {cv : V} {u : Value} {b : Bool} {cs : List V} {us : List Value} {v : V} {te : TE} {sp : Sp} {W : WX} {t tk : TA} {n : Nat} {ix : List Nat} {C dx : Addr} {m : Str} {ta : TE} {y : V}
theorem w_isE (ea : H a = some (exh a (.ref D') (some dd))) (ed : H dd = some (.xd fs)) (T : ExAt K mg x D') (k : ClsV cv u) (e : PySem.W.kitOne K (.ref D') u = some b) (q : Q (.bl b) H) : rIsE K [.ref a, cv] H Q := ⟨a, D', dd, fs, mg, x, cv, u, b, rfl, k, ea, ed, T, e, q⟩
theorem w_xfH (h : te σ H (XfE K Q)) : tXfH K te σ H Q := h
theorem w_xfE (ea : H a = some (exh a (.ref D') (some dd))) (ed : H dd = some (.xd [("value", v)])) (T : ExAt K mg x D') (q : Q v H) : XfE K Q (.ref a) H := ⟨a, D', dd, _, mg, x, v, rfl, ea, ed, T, by simp [List.lookup], q⟩
/-- calls -/
def CallXE (sp : Sp) (W : WX) (σ : L2.St) (Q : VK) : List V → Hp → Prop := fun vs H1 => sp vs H1 Q (wAt W σ)
theorem w_callX (h : t σ H (CallXE sp W σ Q)) : tCallX sp W t σ H Q := h
theorem w_callXE {vs : List V} (h : sp vs H Q (wAt W σ)) : CallXE sp W σ Q vs H := h
def KwXE (n : Nat) (ix : List Nat) (sp : Sp) (W : WX) (σ : L2.St) (Q : VK) : List V → Hp → Prop := fun zs H => zs.length = n ∧ sp (pick ix zs) H Q (wAt W σ)
theorem w_callXK (h : tk σ H (KwXE n ix sp W σ Q)) : tCallXK n ix sp W tk σ H Q := h
theorem w_kwXE {zs : List V} (e : zs.length = n) (q : sp (pick ix zs) H Q (wAt W σ)) : KwXE n ix sp W σ Q zs H := ⟨e, q⟩
def MethXE (C : Addr) (m : Str) (t : TA) (R : V → List V → Hp → Prop) (σ : L2.St) : V → Hp → Prop := fun x H1 => ∃ a dx fs, x = .ref a ∧ H1 a = some (.ins C dx fs) ∧ fs.lookup m = none ∧ t σ H1 (R x)
def MRunXE (sp : Sp) (W : WX) (σ : L2.St) (Q : VK) : V → List V → Hp → Prop := fun x vs H2 => sp (x :: vs) H2 Q (wAt W σ)
def MKwXE (n : Nat) (ix : List Nat) (sp : Sp) (W : WX) (σ : L2.St) (Q : VK) : V → List V → Hp → Prop := fun x zs H2 => zs.length = n ∧ sp (x :: pick ix zs) H2 Q (wAt W σ)
theorem w_methX (h : ta σ H (MethXE C m t (MRunXE sp W σ Q) σ)) : tMethX C m sp W ta t σ H Q := h
theorem w_methXK (h : ta σ H (MethXE C m tk (MKwXE n ix sp W σ Q) σ)) : tMethXK C m n ix sp W ta tk σ H Q := h
theorem w_methXE {R : V → List V → Hp → Prop} (h : H a = some (.ins C dx fs)) (e : fs.lookup m = none) (q : t σ H (R (.ref a))) : MethXE C m t R σ (.ref a) H := ⟨a, dx, fs, rfl, h, e, q⟩
theorem w_mrunXE {vs : List V} (h : sp (y :: vs) H Q (wAt W σ)) : MRunXE sp W σ Q y vs H := h
theorem w_mkwXE {zs : List V} (e : zs.length = n) (h : sp (y :: pick ix zs) H Q (wAt W σ)) : MKwXE n ix sp W σ Q y zs H := ⟨e, h⟩
def MakeXE (C : Addr) (sp : Sp) (W : WX) (σ : L2.St) (Q : VK) : List V → Hp → Prop := fun vs H1 => ∀ x dx, H1 x = none → H1 dx = none → dx ≠ x →
  sp (.ref x :: vs) (upd (upd H1 dx (.own x)) x (.ins C dx [])) (fun v H3 => v = .non ∧ Q (.ref x) H3) (wAt W σ)
theorem w_makeX (h : t σ H (MakeXE C sp W σ Q)) : tMakeX C sp W t σ H Q := h
theorem w_makeXE {vs : List V} (h : ∀ x dx, H x = none → H dx = none → dx ≠ x → sp (.ref x :: vs) (upd (upd H dx (.own x)) x (.ins C dx [])) (fun v H3 => v = .non ∧ Q (.ref x) H3) (wAt W σ)) : MakeXE C sp W σ Q vs H := h
def MakeXKE (C : Addr) (n : Nat) (ix : List Nat) (sp : Sp) (W : WX) (σ : L2.St) (Q : VK) : List V → Hp → Prop := fun zs H1 => zs.length = n ∧ ∀ x dx, H1 x = none → H1 dx = none → dx ≠ x →
  sp (.ref x :: pick ix zs) (upd (upd H1 dx (.own x)) x (.ins C dx [])) (fun v H3 => v = .non ∧ Q (.ref x) H3) (wAt W σ)
theorem w_makeXK (h : tk σ H (MakeXKE C n ix sp W σ Q)) : tMakeXK C n ix sp W tk σ H Q := h
theorem w_makeXKE {zs : List V} (e : zs.length = n) (h : ∀ x dx, H x = none → H dx = none → dx ≠ x → sp (.ref x :: pick ix zs) (upd (upd H dx (.own x)) x (.ins C dx [])) (fun v H3 => v = .non ∧ Q (.ref x) H3) (wAt W σ)) : MakeXKE C n ix sp W σ Q zs H := ⟨e, h⟩
/-- __init__ of such a class -/
def VeIE (K : PySem.W.Frag) (Q : VK) : List V → Hp → Prop := fun vs H1 => ∃ (a C : Addr) (ws : List V), vs = .ref a :: ws ∧ ws.length ≤ 1000 ∧ OexC K C ∧ H1 a = some (exo a C none) ∧ Q .non H1
theorem w_veI (h : t σ H (VeIE K Q)) : tVeI K t σ H Q := h
theorem w_veIE {ws : List V} (hl : ws.length ≤ 1000) (T : OexC K C) (e : H a = some (exo a C none)) (q : Q .non H) : VeIE K Q (.ref a :: ws) H := ⟨a, C, ws, rfl, hl, T, e, q⟩
def OstE (K : PySem.W.Frag) (f : Str) (R : L2.St → Hp → Prop) (σ : L2.St) (y : V) : V → Hp → Prop := fun x H2 => ∃ a C : Addr, x = .ref a ∧ OexC K C ∧ PySem.W.findIn K (.ref C) f = some none ∧
  ((H2 a = some (exo a C none) ∧ ∀ dx, H2 dx = none → dx ≠ a → R σ (upd (upd H2 dx (exd dx [(f, y)])) a (exo a C (some dx)))) ∨
    ∃ (dx : Addr) (fs : List (Str × V)), H2 a = some (exo a C (some dx)) ∧ H2 dx = some (exd dx fs) ∧ fs.length ≤ 900 ∧ R σ (upd H2 dx (exd dx ((f, y) :: fs))))
theorem w_ost {f : Str} {to : TE} (h : te σ H fun y H1 => to σ H1 (OstE K f D.nx σ y)) : tOst K f to te D σ H := h
theorem w_ostE {f : Str} {R : L2.St → Hp → Prop} (T : OexC K C) (no : PySem.W.findIn K (.ref C) f = some none) (e : H a = some (exo a C none)) (q : ∀ dx, H dx = none → dx ≠ a → R σ (upd (upd H dx (exd dx [(f, y)])) a (exo a C (some dx)))) : OstE K f R σ y (.ref a) H := ⟨a, C, rfl, T, no, .inl ⟨e, q⟩⟩
end
theorem ho_lst_ext {v1 : List V} {φ : Heap → Prop} : ((.lst v1) : HO) ≠ (.ext φ) := fun z => nomatch z
theorem ho_lst_exh {v1 : List V} {a : Addr} {c : Value} {d : Option Addr} : ((.lst v1) : HO) ≠ exh a c d := fun z => by
  have z' : HO.lst v1 = HO.ext _ := z
  cases z'
/-! ### list.count, list.index of flat items; lists of lists compared -/
def rCntF (K : PySem.W.Frag) : V → List V → Hp → VK → Prop := fun x xs H Q => ∃ (p : Addr) (ys : List V) (y : V), x = .ref p ∧ xs = [y] ∧ SqL K H p ys ∧ flatV y = true ∧ ys.all flatV = true ∧ Q (.int (ys.countP fun z => eqV z y : Nat)) H
theorem cnt_flat {y : V} : ∀ {ys : List V} {us : List Value}, Vals ys us → ys.all flatV = true → us.countP (eqU y) = ys.countP fun z => eqV z y
  | _, _, .nil, _ => rfl
  | z :: ys, u :: us, .cons r t, f => by
    rw [List.all_cons, Bool.and_eq_true] at f
    rw [List.countP_cons, List.countP_cons, cnt_flat t f.2, eqU_of r f.1]
theorem mt_cntF {X : Cx} : MtR X "list.count" (rCntF X.K) := by
  intro pins s σ H x xs v us Q I rx rxs h
  obtain ⟨p, ys, y, rfl, rfl, hs, fy, fys, q⟩ := h
  cases rx
  obtain ⟨u, rfl, ru⟩ := rxs.one
  obtain ⟨its, rv, ⟨⟨cls, dd, data, sl⟩, n, ho, hc, hdn, hd⟩, hlen⟩ := I.list hs
  simp only at hc hd
  subst hc hd
  refine call_meets PySem.F.slot_list_count ⟨_, ho, rfl⟩ PySem.F.entry_list_count (PySem.F.args_list_count_2 _ _)
    (SeqAt.list_countAt p its.toArray n dd sl u (eqU y)) ⟨ho, fun u' hu' => mem_eqAt ru fy rv fys u' (by simpa using hu'), ?_⟩
  have ec : its.toArray.toList.countP (eqU y) = ys.countP fun z => eqV z y := cnt_flat rv fys
  refine ⟨.int (ys.countP fun z => eqV z y : Nat), H, I.tok _, ⟨s.toks, ?_⟩, q⟩
  show Value.int ((its.toArray.toList.countP (eqU y) : Nat) : Int) s.toks = Value.int ((ys.countP fun z => eqV z y : Nat) : Int) s.toks
  rw [ec]
section
variable {K : PySem.W.Frag} {H : Hp} {Q : VK} {p q : Addr} {xs ys : List V} {y : V}
theorem w_cntF {n : Nat} (h : H p = some (.lst xs)) (f : flatV y = true) (fs : xs.all flatV = true) (e : (xs.countP fun z => eqV z y) = n) (k : Q (.int (n : Nat)) H) : rCntF K (.ref p) [y] H Q := ⟨p, xs, y, rfl, rfl, SqL.of h, f, fs, by rw [e]; exact k⟩
theorem w_index {j : Nat} {z : V} (h : H p = some (.lst xs)) (f : flatV y = true) (fs : xs.all flatV = true) (e : xs[j]? = some z) (ez : eqV z y = true) (no : ∀ (m : Nat) (z' : V), m < j → xs[m]? = some z' → eqV z' y = false) (k : Q (.int (j : Nat)) H) : rIndex K (.ref p) [y] H Q := ⟨p, xs, y, j, z, rfl, rfl, SqL.of h, f, fs, e, ez, no, k⟩
theorem w_catVV (h1 : H p = some (.lst xs)) (h2 : H q = some (.lst ys)) (hz : (xs ++ ys).length ≤ 16777216) (k : ∀ r, H r = none → Q (.ref r) (upd H r (.lst (xs ++ ys)))) : rCat (.ref p) (.ref q) H Q :=
  ⟨p, q, _, _, rfl, rfl, h1, h2, szle' (by rw [List.length_append] at hz; exact hz), k⟩
end
theorem eqvAll_lists : ∀ ls ms : List (List Int), PyData.eqvAll (ls.map dI) (ms.map dI) = decide (ls = ms)
  | [], [] => by simp [PyData.eqvAll]
  | [], m :: ms => by simp [PyData.eqvAll]
  | n :: ns, [] => by simp [PyData.eqvAll]
  | n :: ns, m :: ms => by
    have ih := eqvAll_lists ns ms
    have e : PyData.eqv (dI n) (dI m) = decide (n = m) := eqv_ints n m
    simp only [List.map_cons, PyData.eqvAll, ih, e]
    by_cases h : n = m
    · subst h
      by_cases h2 : ns = ms <;> simp [h2]
    · simp [h]
theorem w_neLists {K : PySem.W.Frag} {H : Hp} {Q : VK} {a b : Addr} {ps qs : List Addr} {xss yss : List (List Int)} (ha : H a = some (.lst (ps.map V.ref))) (hb : H b = some (.lst (qs.map V.ref))) (h1 : ListsAt H ps xss) (h2 : ListsAt H qs yss) (k : Q (.bl (!decide (xss = yss))) H) : rNeD K (.ref a) (.ref b) H Q :=
  ⟨_, _, .lst (SqL.of ha) (dpAll_lists h1), .lst (SqL.of hb) (dpAll_lists h2), shaped_lists _, shaped_lists _, by
    have e : PyData.eqv (.list (xss.map dI)) (.list (yss.map dI)) = decide (xss = yss) := by
      simp only [PyData.eqv]
      exact eqvAll_lists xss yss
    rw [e]
    exact k⟩
/-! ### lists of numbers, words, truths and None compared; insert, clear -/
def sD : V → PyData
  | .int i => .int i
  | .str s => .str s
  | .bl b => .bool b
  | _ => .none
def scal : V → Bool
  | .int _ => true
  | .str s => PyData.strOk s
  | .bl _ => true
  | .non => true
  | _ => false
theorem scal_dp {K : PySem.W.Frag} {H : Hp} : ∀ {v : V}, scal v = true → Dp K H v (sD v)
  | .int i, _ => .int i
  | .str s, _ => .str s
  | .bl b, _ => .bl b
  | .non, _ => .non
theorem scal_can : ∀ {v : V}, scal v = true → PyData.canLay0 (sD v) = true ∧ PyData.depth (sD v) ≤ 1
  | .int i, _ => by simp [sD, PyData.canLay0, PyData.depth]
  | .str s, h => by
    have h' : PyData.strOk s = true := h
    simp [sD, PyData.canLay0, PyData.depth, h']
  | .bl b, _ => by simp [sD, PyData.canLay0, PyData.depth]
  | .non, _ => by simp [sD, PyData.canLay0, PyData.depth]
theorem scal_all {K : PySem.W.Frag} {H : Hp} : ∀ {xs : List V}, xs.all scal = true → DpAll K H xs (xs.map sD) ∧ PyData.canLayAll0 (xs.map sD) = true ∧ PyData.depthAll (xs.map sD) ≤ 2
  | [], _ => ⟨.nil, by simp [PyData.canLayAll0], by simp [PyData.depthAll]⟩
  | x :: xs, h => by
    rw [List.all_cons, Bool.and_eq_true] at h
    obtain ⟨i1, i2, i3⟩ := scal_all (K := K) (H := H) h.2
    obtain ⟨j1, j2⟩ := scal_can h.1
    refine ⟨.cons (scal_dp h.1) i1, ?_, ?_⟩
    · simp only [List.map_cons, PyData.canLayAll0, j1, i2, Bool.and_self]
    · simp only [List.map_cons, PyData.depthAll]
      omega
section
variable {K : PySem.W.Frag} {H : Hp} {Q : VK} {p q : Addr} {xs : List V}
theorem scal_same (h1 : H p = some (.lst xs)) (h2 : H q = some (.lst xs)) (f : xs.all scal = true) : ∃ d, Dp K H (.ref p) d ∧ Dp K H (.ref q) d ∧ SeqAt.shaped d = true ∧ PyData.eqv d d = true := by
  obtain ⟨i1, i2, i3⟩ := scal_all (K := K) (H := H) f
  have c1 : PyData.canLay0 (.list (xs.map sD)) = true := by simp only [PyData.canLay0]; exact i2
  have c2 : PyData.depth (.list (xs.map sD)) ≤ 64 := by
    simp only [PyData.depth]
    omega
  refine ⟨.list (xs.map sD), .lst (SqL.of h1) i1, .lst (SqL.of h2) i1, ?_, PySem.SeqAt.eqv_refl _ c1⟩
  unfold SeqAt.shaped
  rw [c1]
  simpa using c2
theorem w_eqScal (h1 : H p = some (.lst xs)) (h2 : H q = some (.lst xs)) (f : xs.all scal = true) (k : Q (.bl true) H) : rEqD K (.ref p) (.ref q) H Q := by
  obtain ⟨d, a, b, c, e⟩ := scal_same (K := K) h1 h2 f
  exact ⟨d, d, a, b, c, c, by rw [e]; exact k⟩
theorem w_neScal (h1 : H p = some (.lst xs)) (h2 : H q = some (.lst xs)) (f : xs.all scal = true) (k : Q (.bl false) H) : rNeD K (.ref p) (.ref q) H Q := by
  obtain ⟨d, a, b, c, e⟩ := scal_same (K := K) h1 h2 f
  exact ⟨d, d, a, b, c, c, by rw [e]; exact k⟩
theorem w_clear (h : H p = some (.lst xs)) (k : Q .non (upd H p (.lst []))) : rClear (.ref p) [] H Q := ⟨p, xs, rfl, rfl, h, k⟩
end
def rIns : V → List V → Hp → VK → Prop := fun x vs H Q => ∃ (l : Addr) (xs : List V) (i : Int) (y : V), x = .ref l ∧ vs = [.int i, y] ∧ H l = some (.lst xs) ∧ xs.length < sizeLine ∧ 0 ≤ i ∧ i < 2 ^ 63 ∧
    Q .non (upd H l (.lst (xs.take i.toNat ++ [y] ++ xs.drop i.toNat)))
theorem mt_insertN {X : Cx} : MtR X "list.insert" rIns := mt_insert
theorem w_insI {H : Hp} {Q : VK} {p : Addr} {ns : List Int} {i y : Int} (h : H p = some (.lst (ns.map V.int))) (hz : ns.length < 16777216) (i0 : 0 ≤ i) (i1 : i < 2 ^ 63) (k : Q .non (upd H p (.lst ((ns.take i.toNat ++ [y] ++ ns.drop i.toNat).map V.int)))) : rIns (.ref p) [.int i, .int y] H Q :=
  ⟨p, _, i, .int y, rfl, rfl, h, by rw [List.length_map, sizeLine_eq]; omega, i0, i1, by rw [List.map_append, List.map_append, List.map_take, List.map_drop] at k; exact k⟩
/-! ### quiet defs: they may be called while an exception is handled; no loops, nothing is raised -/
structure RoomQ (k : Nat) (A : Around) : Prop where
  dp : A.depth + 3 * k + 5 < recursionLimit
  un : A.units + 16 * k + 200 < cLine
theorem RoomQ.mono {j k : Nat} {A : Around} (r : RoomQ k A) (h : j ≤ k) : RoomQ j A := ⟨by have := r.dp; omega, by have := r.un; omega⟩
theorem RoomQ.deeper {k : Nat} {A : Around} (r : RoomQ (k + 1) A) (env : Env) : RoomQ k (A.deeper env) :=
  ⟨by have := r.dp; show A.depth + 1 + 3 * k + 5 < _; omega, by have := r.un; show A.units + 3 + 16 * k + 200 < _; omega⟩
theorem roomQ_of {k : Nat} {A : Around} (r : Room k A) : RoomQ k A := ⟨r.dp, r.un⟩
theorem roomQ_mark {k : Nat} {A : Around} {v : Option Value} (r : Room k A) : RoomQ k (A.mark v) := ⟨r.dp, r.un⟩
structure FnQ (P : Program) (w : World) (K : PySem.W.Frag) (mg : Str → Option Value) (base : Heap) (k : Nat) (f : Addr) (fd : FuncData) (ps : List Str) (sp : Sp) : Prop where
  len : ∀ vs H Q E, sp vs H Q E → vs.length = ps.length
  run : ∀ (A : Around) (outer : List Env) (s : Shared) (H : Hp) (args : Args) (us : List Value) (vs : List V) (Q : VK) (E : XK), RoomQ k A → Env0 P w K mg base A outer s H → BindsTo s fd args (ps.zip us) → Vals vs us → sp vs H Q E →
    codeAny (model P w) A (.call (.ref f) args) (CR CX0 outer P w H s Q E) s
def cxQ (P : Program) (w : World) (K : PySem.W.Frag) (mg : Str → Option Value) (base : Heap) (N : List Str) (qual : Str) (scope : Scope) (f : Addr) (cd : Value) (A : Around) (outer : List Env) (s : Shared) (H : Hp) (E : XK) : Cx :=
  { cxOf CX0 P w K mg base N qual scope f cd A outer s H E with calm := false }
theorem inv_startQ {P : Program} {w : World} {K : PySem.W.Frag} {mg : Str → Option Value} {base : Heap} {N ps : List Str} {qual : Str} {scope : Scope} {f : Addr} {cd : Value} {A : Around} {outer : List Env} {s s1 : Shared} {H : Hp} {E : XK} {us : List Value} {vs : List V}
    (S : FnScope N ps scope) (e0 : Env0 P w K mg base A outer s H) (hl : vs.length = ps.length) (r : Vals vs us)
    (x : InCallC s s.heap.objs.size (bindL (envOfC qual scope s.heap.objs.size f cd).kindOf (ps.zip us) fun _ => none) (cellsFrom (s.heap.objs.size + 1) scope.names []) (bindC (envOfC qual scope s.heap.objs.size f cd).kindOf (ps.zip us) fun _ => none) s1) :
    Inv (cxQ P w K mg base N qual scope f cd A outer s H E) [] (L2.start N vs) H s1 := by
  have hpl : ps.length ≤ N.length := by have := congrArg List.length S.pre; rw [List.length_take] at this; omega
  obtain ⟨h1, tk, rfl, hk⟩ := x.done
  have noA : ∀ b : Addr, b ∉ (cxQ P w K mg base N qual scope f cd A outer s H E).ex := fun b z => absurd (show b ∈ ([] : List Addr) from z) (by simp)
  refine ⟨⟨e0.mod, S.kind, rfl, rfl, Nat.le_refl _, fun y z c h1 h2 => ?_, fun y hy => ?_, fun y c _ h => ?_, (fun z => Bool.noConfusion (show false = true from z)), Around.frames_deeper e0.frames, .inr ⟨rfl, rfl⟩, fun b z => absurd z (noA b), e0.bs, e0.bsz, fun b _ _ => noA b, fun b z => absurd z (noA b), e0.funs, e0.frf⟩,
    rfl, e0.bare, Un.kept hk, ⟨_, x.toInCall.ns, fun i y v h1 h2 h3 => ?_⟩, fun y c h => ⟨_, x.cell y c h⟩, e0.hok.fresh (Nat.le_refl _), fun y c h => ?_, fun p hp => absurd (show p ∈ ([] : List (Addr × Obj)) from hp) (by simp), e0.hok.kept hk, ?_⟩
  · exact name_of_addr x.apart (PySem.mem_of_lookup h1) (PySem.mem_of_lookup h2)
  · have hy : scope.names.lookup y = some .cell ∨ scope.names.lookup y = some .free := hy
    rcases hy with hy | hy
    · exact cell_has hy
    · exact absurd rfl (S.nofree _ (PySem.mem_of_lookup hy))
  · exact Nat.le_of_lt (x.above y c (PySem.mem_of_lookup h))
  · have hi : i < vs.length := by
      unfold L2.start at h2
      by_cases hi : i < vs.length
      · exact hi
      · rw [List.getElem?_append_right (by simpa using hi)] at h2
        rw [List.getElem?_replicate] at h2
        split at h2 <;> cases h2
    have ha : vs[i]? = some v := by
      unfold L2.start at h2
      rw [List.getElem?_append_left (by simpa using hi), List.getElem?_map] at h2
      cases e : vs[i]? with
      | none => rw [e] at h2; cases h2
      | some a => rw [e] at h2; cases h2; rfl
    obtain ⟨u, hu, rv⟩ := r.get ha
    have hp : ps[i]? = some y := by
      rw [← S.pre, List.getElem?_take_of_lt (by omega)]; exact h1
    have ndP : ps.Nodup := by rw [← S.pre]; exact S.nd.sublist (List.take_sublist _ _)
    refine ⟨u, rv, ?_⟩
    rcases S.par y (List.mem_of_getElem? hp) with k | k
    · exact .inl ⟨k, bindL_get ndP hp hu k⟩
    · obtain ⟨c, e⟩ := cell_has (n := s.heap.objs.size + 1) k
      refine .inr ⟨.inl k, c, e, ?_⟩
      have q := x.cell y c e
      rw [bindC_get ndP hp hu (by show scope.names.lookup y ≠ _; rw [k]; decide)] at q
      exact q
  · exact e0.hok.fresh (Nat.le_of_lt (x.above y c (PySem.mem_of_lookup h)))
  · unfold L2.start
    show _ = N.length
    rw [List.length_append, List.length_map, List.length_replicate]
    omega
structure DefAtQ (P : Program) (w : World) (K : PySem.W.Frag) (mg : Str → Option Value) (base : Heap) (x : Str) (st : Stmt) (k : Nat) (ps : List Str) (sp : Sp) : Prop where
  ex : ∃ f fd, mg x = some (.ref f) ∧ Fun K x x st f fd ∧ FnQ P w K mg base k f fd ps sp ∧ Binds K fd ps []
theorem FunAt.okQ {P : Program} {w : World} {K : PySem.W.Frag} {mg : Str → Option Value} {base : Heap} {x : Str} {st : Stmt} {k : Nat} {ps N : List Str} {sp : Sp} (F : FunAt K mg x st) (S : FnScope N ps (defScope st)) (len : ∀ vs H Q E, sp vs H Q E → vs.length = ps.length)
    (hb : ∀ (kV doc pm : Value) (an : Option Addr) (cdv ct : Value) (us : List Value), us.length = ps.length → bindArgs (PySem.W.fnOf x x (defArgs st) (defBody st) (defScope st) .none kV doc pm an cdv ct) ⟨us, []⟩ = pure (ps.zip us))
    (hbody : ∀ (f : Addr) (cdv : Value) (A : Around) (outer : List Env) (s : Shared) (H : Hp) (vs : List V) (Q : VK) (E : XK), RoomQ k (A.deeper (envOfC x (defScope st) s.heap.objs.size f cdv)) → sp vs H Q E →
      ∃ t, PSs (cxQ P w K mg base N x (defScope st) f cdv A outer s H E).nox (defBody st) t ∧ t { nx := fun _ H' => Q .non H', rt := Q } (L2.start N vs) H) : DefAtQ P w K mg base x st (k + 1) ps sp := by
  obtain ⟨f, fd, hm, F⟩ := F.ex
  refine ⟨f, fd, hm, F, ?_, F.binds hb⟩
  obtain ⟨oc, od, kV, doc, pm, an, cdv, ct, osl, rfl, lk, hcd⟩ := F.ex
  refine ⟨len, fun A outer s H args us vs Q E hr e0 hb r hsp => ?_⟩
  have hl := len _ _ _ _ hsp
  have KX : K.In s.heap := e0.mod.kin.keeps fun b o e => (e0.bs b o e).1
  have lim : s.heap.NoLimit := e0.mod.nolimit.keeps fun b o e => (e0.bs b o e).1
  have hkind : ∀ y ∈ ps.zip us, (defScope st).names.lookup y.1 = some .local ∨ ((defScope st).names.lookup y.1 = some .cell ∧ ((cellsFrom (s.heap.objs.size + 1) (defScope st).names []).lookup y.1).isSome = true) := fun ⟨n, v⟩ hy => by
    rcases S.par n (List.of_mem_zip hy).1 with q | q
    · exact .inl q
    · exact .inr ⟨q, PySem.W.cellsFrom_some _ _ _ (.inl q)⟩
  refine codeAny_call_function (by have := hr.dp; omega) (KX _ _ lk) rfl S.co S.gen rfl (PySem.W.codeRec_of KX hcd) (hb _ _ _ _ ?_)
  refine wpAny_newFunctionEnv_cells S.kind hkind fun env he s1 xx => ?_
  subst he
  refine ⟨lim.keeps xx.toInCall.keep, codeAny_func ?_⟩
  obtain ⟨t, ht0, hq⟩ := hbody f cdv A outer s H vs Q E (hr.deeper _) hsp
  have ht := ht0.nox
  have I := inv_startQ (E := E) S e0 hl r xx
  refine wpAny_mono (ht.run [] s1 (L2.start N vs) H _ I hq) (fun fl s' hs => ?_) fun e s' hs => hs
  have fin : ∀ {σ' : L2.St} {H' : Hp} {v : V} {u : Value}, Inv (cxQ P w K mg base N x (defScope st) f cdv A outer s H E) [] σ' H' s' → RelV v u → Q v H' → CE outer P w H s Q u s' :=
    fun {σ' H' v u} J rv q => ⟨v, H', J.os, J.bare, J.base, J.hok, rv, q⟩
  cases fl with
  | ret u =>
    obtain ⟨v, σ', H', J, rv, q⟩ := hs
    exact fin J rv q
  | next =>
    obtain ⟨σ', H', J, q⟩ := hs
    exact fin (v := V.non) (u := Value.none) J rfl q
  | brk =>
    obtain ⟨_, _, _, q⟩ := hs
    exact False.elim q
  | cont =>
    obtain ⟨_, _, _, q⟩ := hs
    exact False.elim q
section
variable {X : Cx} {x : Str} {st : Stmt} {k : Nat} {ps : List Str} {sp : Sp} {e : Expr} {es : List Expr} {t : TA} {p pos : Pos}
theorem pe_callQ (D : DefAtQ X.prog X.w X.K X.mg X.base x st k ps sp) (hr : RoomQ k X.A) (ha : PA X (e :: es) t) (hg : Gl X x := by rfl)
    (hdb : (x == ("__debug__" : Str)) = false := by decide) (he : starEach (e :: es) X.env = (false, eval e X.env) :: starEach es X.env := by rfl) (hpl : (backTo pos (starEach es X.env)).any (·.1) = false := by rfl) :
    PE X (.Call (.Name x p) (e :: es) [] pos) (tCall sp [] E0 t) := by
  obtain ⟨f, fd, hm, F, G, b⟩ := D.ex
  refine ⟨fun pins s σ H Q I h => ?_⟩
  refine wpAny_Call_Name_kw (ld_glob I hg hm ?_ hdb)
  refine PySem.W.callWith_K (h₀ := X.base) I.ok.mod.kin F.kp (thn (ha.run pos pins s σ H _ I h) fun us s1 ⟨vs, H1, I1, r, q⟩ => ⟨I1.kIn, ?_⟩) he hpl
  have q : sp vs H1 Q E0 := by
    have q' : sp (vs ++ []) H1 Q E0 := q
    rw [List.append_nil] at q'
    exact q'
  refine wpAny_call (codeAny_mono (G.run X.A X.stack s1 H1 ⟨us, []⟩ us vs Q E0 hr I1.env0 (binds0 b r (G.len _ _ _ _ q) I1.kIn) r q) fun q' s' hq => ?_)
  cases q' with
  | error e => exact False.elim hq
  | ok fl =>
    cases fl with
    | ret u => exact I1.after hq
    | next => exact False.elim hq
    | brk => exact False.elim hq
    | cont => exact False.elim hq
end
section
variable {K : PySem.W.Frag} {H : Hp} {Q : VK} {a D dd tp : Addr} {fs : List (Str × V)} {mg : Str → Option Value} {x : Str} {cs : List V} {us : List Value} {b : Bool}
theorem kit_any_nil {c : Value} : PySem.W.kitAny K c [] = some false := rfl
theorem kit_any_no {c u : Value} {us : List Value} {b : Bool} (h : PySem.W.kitOne K c u = some false) (k : PySem.W.kitAny K c us = some b) : PySem.W.kitAny K c (u :: us) = some b := by
  unfold PySem.W.kitAny
  rw [h]
  exact k
theorem kit_any_yes {c u : Value} {us : List Value} (h : PySem.W.kitOne K c u = some true) : PySem.W.kitAny K c (u :: us) = some true := by
  unfold PySem.W.kitAny
  rw [h]
theorem w_isET (hT : H tp = some (.tup cs)) (ea : H a = some (exh a (.ref D) (some dd))) (ed : H dd = some (.xd fs)) (T : ExAt K mg x D) (k : Paired ClsV cs us) (e : PySem.W.kitAny K (.ref D) us = some b) (q : Q (.bl b) H) : rIsET K [.ref a, .ref tp] H Q :=
  ⟨a, D, dd, tp, fs, mg, x, cs, us, b, rfl, hT, k, ea, ed, T, e, q⟩
end
/-- [list(one) for one in kept] -/
theorem l_copyL {K : PySem.W.Frag} {a : Addr} {ps : List Addr} {xss : List (List Int)} {σ : L2.St} {H : Hp} {Q : VK} {j : Nat} (hw : ∀ v, wipe ((wipe σ [j]).set j (some v)) [j] = wipe σ [j]) (hv : ∀ v, ((wipe σ [j]).set j (some v))[j]? = some (some v)) (hz : ps.length ≤ 100000)
    (ha : H a = some (.lst (ps.map V.ref))) (hl : ListsAt H ps xss)
    (hd : ∀ (L : Addr) (qs : List Addr) (H' : Hp), H L = none → Fr [] H H' → H' L = some (.lst (qs.map V.ref)) → ListsAt H' qs xss → (∀ q ∈ qs, H q = none) → L ∉ qs → qs.Nodup → Q (.ref L) H') :
    LcB (gName j) tYes (tCB (rListOf K) (tCons (tVar j) tNil)) [j] σ Q (Itl K a) H := by
  refine l_list (ps.map V.ref) (fun L i H' => ∃ qs : List Addr, Fr [] H H' ∧ H' L = some (.lst (qs.map V.ref)) ∧ ListsAt H' qs (xss.take i) ∧ L ∉ qs ∧ qs.length = i ∧ (∀ q ∈ qs, H q = none) ∧ qs.Nodup) (fun L hL => ⟨[], Fr.refl.new hL, upd_same, .nil, by simp, rfl, by simp, .nil⟩) (fun L i H' _ _ h => .of (h.choose_spec.1.at0 ha)) (fun L i x H' hL hx h => ?_) (fun L H3 hL h => ?_)
  · obtain ⟨qs, g1, g2, g3, g4, g5, g6, g7⟩ := h
    rw [List.getElem?_map] at hx
    obtain ⟨t, ht, rfl⟩ : ∃ t, ps[i]? = some t ∧ x = V.ref t := by
      cases e : ps[i]? with
      | none => rw [e] at hx; cases hx
      | some t =>
        rw [e] at hx
        cases hx
        exact ⟨t, rfl, rfl⟩
    have hil := (List.getElem?_eq_some_iff.mp ht).1
    obtain ⟨xs, hxs⟩ : ∃ xs, xss[i]? = some xs := ⟨_, List.getElem?_eq_getElem (by rw [← hl.len]; exact hil)⟩
    have htx : H' t = some (.lst (xs.map V.int)) := g1.at0 (hl.at_ i t xs ht hxs)
    refine w_gname ⟨hw _, w_tYes (w_iteT ?_)⟩
    refine w_CB (w_cons (w_var (hv _) (w_nil (w_listof (SqL.of htx) fun l nl => ?_))))
    have hLl : L ≠ l := ne_of_none g2 nl
    have hLq : L ∉ qs ++ [l] := by simp [g4, hLl]
    refine w_appER (at_upd g2 nl) (by omega) ⟨qs ++ [l], (g1.new nl).put (.inl hL), upd_same, ?_, hLq, by simp [g5], mem_snoc g6 (g1.free List.not_mem_nil nl), ?_⟩
    · rw [List.take_succ, hxs]
      exact ((g3.fr (Fr.refl.new nl)).app (.one (xs := xs) upd_same)).put hLq
    · refine List.nodup_append.mpr ⟨g7, by simp, fun q hq b hb => ?_⟩
      rw [List.mem_singleton.mp hb]
      intro e
      subst e
      obtain ⟨n, hn⟩ := List.getElem?_of_mem hq
      have hn2 := (List.getElem?_eq_some_iff.mp hn).1
      have hlen := g3.len
      obtain ⟨ys, hys⟩ : ∃ ys, (xss.take i)[n]? = some ys := ⟨_, List.getElem?_eq_getElem (by rw [← hlen]; exact hn2)⟩
      rw [g3.at_ n q ys hn hys] at nl
      cases nl
  · obtain ⟨qs, g1, g2, g3, g4, g5, g6, g7⟩ := h
    rw [List.length_map] at g5 g3
    rw [hl.len, List.take_length] at g3
    exact hd L qs H3 hL g1 g2 g3 g6 g4 g7
theorem Fr.drop {S T : List Addr} {H H1 H2 : Hp} (f : Fr S H H1) (g : Fr T H1 H2) (h : ∀ t ∈ T, t ∈ S ∨ H t = none) : Fr S H H2 := fun b o n e => g b o (fun hb => by
  rcases h b hb with z | z
  · exact n z
  · rw [z] at e
    cases e) (f b o n e)
/-- [f(one) for one in [x, y]], the element leaving all as it is -/
theorem l_two {K : PySem.W.Frag} {a x y : Addr} {v1 v2 : V} {σ : L2.St} {H : Hp} {Q : VK} {j : Nat} {te : TE} (hw : ∀ v, wipe ((wipe σ [j]).set j (some v)) [j] = wipe σ [j]) (ha : H a = some (.lst [.ref x, .ref y]))
    (e1 : ∀ (H' : Hp) (R : VK), Fr [] H H' → R v1 H' → te ((wipe σ [j]).set j (some (.ref x))) H' R)
    (e2 : ∀ (H' : Hp) (R : VK), Fr [] H H' → R v2 H' → te ((wipe σ [j]).set j (some (.ref y))) H' R)
    (hd : ∀ (L : Addr) (H' : Hp), H L = none → Fr [] H H' → H' L = some (.lst [v1, v2]) → Q (.ref L) H') : LcB (gName j) tYes te [j] σ Q (Itl K a) H := by
  refine l_list [.ref x, .ref y] (fun L i H' => Fr [] H H' ∧ H' L = some (.lst ([v1, v2].take i))) (fun L hL => ⟨Fr.refl.new hL, upd_same⟩) (fun L i H' _ _ h => .of (h.1.at0 ha)) (fun L i z H' hL hx h => ?_) (fun L H3 hL h => hd L H3 hL h.1 h.2)
  obtain ⟨g1, g2⟩ := h
  match i, hx, g2 with
  | 0, hx, g2 =>
    obtain rfl : V.ref x = z := by simpa using hx
    refine w_gname ⟨hw _, w_tYes (w_iteT (e1 H' _ g1 ?_))⟩
    exact w_appE g2 (by simp) ⟨g1.put (.inl hL), upd_same⟩
  | 1, hx, g2 =>
    obtain rfl : V.ref y = z := by simpa using hx
    refine w_gname ⟨hw _, w_tYes (w_iteT (e2 H' _ g1 ?_))⟩
    exact w_appE g2 (by simp) ⟨g1.put (.inl hL), upd_same⟩
  | i + 2, hx, g2 => simp at hx
theorem all_si {s : Str} {i : Int} (h : PyData.strOk s = true) : [V.str s, V.int i].all scal = true := by
  have h' : scal (.str s) = true := h
  simp [scal, h]
theorem all_sn {s : Str} (h : PyData.strOk s = true) : [V.str s, V.non].all scal = true := by
  have h' : scal (.str s) = true := h
  simp [scal, h]
theorem kc_xfH {X : Cx} {K : PySem.W.Frag} {e : Expr} {te : TE} (h : PE X e (tXfH X.K te)) (hk : X.K = K) : PE X e (tXfH K te) := hk ▸ h
/-! ### None, or a tuple of a word and a number -/
def DueAt (H : Hp) : Option (Str × Int) → V → Prop
  | none, v => v = .non
  | some (wd, y), v => ∃ t, v = .ref t ∧ H t = some (.tup [.str wd, .int y])
theorem DueAt.fr {H H' : Hp} {d : Option (Str × Int)} {v : V} (h : DueAt H d v) (f : Fr [] H H') : DueAt H' d v := by
  cases d with
  | none => exact h
  | some z =>
    obtain ⟨t, h1, h2⟩ := h
    exact ⟨t, h1, f.at0 h2⟩
theorem DueAt.made {H' : Hp} {wd : Str} {y : Int} {p : Addr} (h : H' p = some (.tup [.str wd, .int y])) : DueAt H' (some (wd, y)) (.ref p) := ⟨p, rfl, h⟩
theorem DueAt.pair {K : PySem.W.Frag} {H : Hp} {d : Option (Str × Int)} {v w : V} (ok : ∀ wd y, d = some (wd, y) → PyData.strOk wd = true) (h1 : DueAt H d v) (h2 : DueAt H d w) : ∃ x, Dp K H v x ∧ Dp K H w x ∧ SeqAt.shaped x = true ∧ PyData.eqv x x = true := by
  cases d with
  | none =>
    obtain rfl : v = .non := h1
    obtain rfl : w = .non := h2
    exact ⟨.none, .non, .non, by decide +kernel, by decide +kernel⟩
  | some z =>
    obtain ⟨wd, y⟩ := z
    obtain ⟨t, rfl, h1⟩ := h1
    obtain ⟨u, rfl, h2⟩ := h2
    obtain ⟨i1, i2, i3⟩ := scal_all (K := K) (H := H) (xs := [V.str wd, V.int y]) (all_si (ok wd y rfl))
    have c1 : PyData.canLay0 (.tuple ([V.str wd, V.int y].map sD)) = true := by simp only [PyData.canLay0]; exact i2
    have c2 : PyData.depth (.tuple ([V.str wd, V.int y].map sD)) ≤ 64 := by
      simp only [PyData.depth]
      omega
    refine ⟨.tuple ([V.str wd, V.int y].map sD), .tup (SqT.of h1) i1, .tup (SqT.of h2) i1, ?_, PySem.SeqAt.eqv_refl _ c1⟩
    unfold SeqAt.shaped
    rw [c1]
    simpa using c2
theorem w_neDue {K : PySem.W.Frag} {H : Hp} {Q : VK} {d : Option (Str × Int)} {v w : V} (ok : ∀ wd y, d = some (wd, y) → PyData.strOk wd = true) (h1 : DueAt H d v) (h2 : DueAt H d w) (k : Q (.bl false) H) : rNeD K v w H Q := by
  obtain ⟨x, a, b, s1, e⟩ := DueAt.pair (K := K) ok h1 h2
  exact ⟨x, x, a, b, s1, s1, by rw [e]; exact k⟩
/-! ### methods with a star parameter -/
def stSp (n : Nat) (sp : Sp) : Sp := fun vs H Q E => ∃ ws rest, vs = ws ++ rest ∧ ws.length = n ∧ rest.length ≤ sizeLine ∧ ∀ p, H p = none → sp (ws ++ [V.ref p]) (upd H p (.tup rest)) Q E
structure MDefAtS (P : Program) (w : World) (K : PySem.W.Frag) (mg : Str → Option Value) (base : Heap) (C : Addr) (m qual : Str) (st : Stmt) (k : Nat) (ps : List Str) (pv : Str) (sp : Sp) : Prop where
  ex : ∃ f fd, Meth K C m f ∧ Fun K m qual st f fd ∧ FnR P w K mg base (L2.CX P w) k f (stSp ps.length sp)
theorem MethAt.okS {P : Program} {w : World} {K : PySem.W.Frag} {mg : Str → Option Value} {base : Heap} {m qual pv : Str} {st : Stmt} {k : Nat} {ps N : List Str} {sp : Sp} {C : Addr} (F : MethAt K C m qual st) (S : FnScope N (ps ++ [pv]) (defScope st))
    (hb : ∀ (kV doc pm : Value) (an : Option Addr) (cdv ct : Value) (us rest : List Value), us.length = ps.length → bindArgs (PySem.W.fnOf m qual (defArgs st) (defBody st) (defScope st) .none kV doc pm an cdv ct) ⟨us ++ rest, []⟩ = (newTuple rest >>= fun t => pure (ps.zip us ++ [(pv, t)])))
    (hbody : ∀ (f : Addr) (cdv : Value) (A : Around) (outer : List Env) (s : Shared) (H : Hp) (vs : List V) (Q : VK) (E : XK), Room k (A.deeper (envOfC qual (defScope st) s.heap.objs.size f cdv)) → sp vs H Q E →
      ∃ t, PSs (cxOf (L2.CX P w) P w K mg base N qual (defScope st) f cdv A outer s H E) (defBody st) t ∧ t { nx := fun _ H' => Q .non H', rt := Q } (start N vs) H) : MDefAtS P w K mg base C m qual st (k + 1) ps pv sp := by
  obtain ⟨f, fd, hm, F⟩ := F.ex
  refine ⟨f, fd, hm, F, ?_⟩
  obtain ⟨oc, od, kV, doc, pm, an, cdv, ct, osl, rfl, lk, hcd⟩ := F.ex
  exact StX.fn_star lk hcd S StX.cxUp (hb kV doc pm an cdv ct) fun A outer s H vs Q E hr hsp => hbody f cdv A outer s H vs Q E hr hsp
section
variable {X : Cx} {m qual pv : Str} {st : Stmt} {k : Nat} {ps : List Str} {sp : Sp} {C : Addr} {e o : Expr} {es : List Expr} {t : TA} {ta : TE} {pos apos : Pos} {W : WX} {CX : CXT} {f : Addr}
theorem run_atR {pins : List (Addr × Obj)} {σ : L2.St} {H : Hp} {s : Shared} {Q : VK} {E : XK} {us : List Value} {vs : List V} {sq : Sp} (F : FnR X.prog X.w X.K X.mg X.base CX k f sq) (hr : Room k X.A) (hx : PassesAt CX X σ E)
    (I : Inv X pins σ H s) (r : Vals vs us) (h : sq vs H Q E) : wpAny (model X.prog X.w) X.A (call (.ref f) us) (EP X pins σ Q) X.xe s := by
  refine wpAny_call (codeAny_mono (F X.A X.stack s H us vs Q E hr I.env0 r h) fun q s' hq => ?_)
  cases q with
  | error e => exact hx pins H s e s' I hq
  | ok fl =>
    cases fl with
    | ret u => exact I.after hq
    | next => exact False.elim hq
    | brk => exact False.elim hq
    | cont => exact False.elim hq
theorem pe_methS {pl : Sem Bool} (he : PE X o ta) (T : Cls X.K C) (D : MDefAtS X.prog X.w X.K X.mg X.base C m qual st k ps pv sp) (hr : Room k X.A) (tkn : Takes X W) (ha : PA X (e :: es) t)
    (hst : starEach (e :: es) X.env = (false, eval e X.env) :: starEach es X.env := by rfl) (hpl : (backTo pos (starEach es X.env)).any (·.1) = false := by rfl)
    (ht : eval (.Call (.Attribute o m apos) (e :: es) [] pos) X.env = (do
      let ov ← eval o X.env
      standAt apos.atName
      let (f, first) ← holding [ov] (getMethod ov m pl)
      callWith pos f first (backTo pos (starEach (e :: es) X.env)) (backToKw pos (keywordEach [] X.env))) := by rfl) :
    PE X (.Call (.Attribute o m apos) (e :: es) [] pos) (tMethX C m (stSp ps.length sp) W ta t) := by
  obtain ⟨f, fd, hm, F, G⟩ := D.ex
  refine ⟨fun pins s σ H Q I h => ?_⟩
  refine PySem.W.methodCall_KW (pl := pl) (thn (he.run pins s σ H _ I h) fun u s1 ⟨x, H1, I1, rx, a, dx, fs, ex, ea, l, q⟩ => ?_) ht
  subst ex
  obtain rfl : u = Value.ref a := rx
  refine getmeth_ok I1 ea T hm l ?_
  refine PySem.W.callWith_K (first := [.ref a]) (h₀ := X.base) I.ok.mod.kin hm.kp (thn (ha.run pos pins s1 σ H1 _ I1 q) fun us s2 ⟨vs, H2, I2, r, q2⟩ => ⟨I2.kIn, ?_⟩) hst hpl
  have r2 : Vals (V.ref a :: vs) (Value.ref a :: us) := .cons rfl r
  exact run_atR (us := .ref a :: us) G hr (L2.passAt tkn σ) I2 r2 q2
theorem pe_methS0 {pl : Sem Bool} (he : PE X o ta) (T : Cls X.K C) (D : MDefAtS X.prog X.w X.K X.mg X.base C m qual st k ps pv sp) (hr : Room k X.A) (tkn : Takes X W)
    (ht : eval (.Call (.Attribute o m apos) [] [] pos) X.env = (do
      let ov ← eval o X.env
      standAt apos.atName
      let (f, first) ← holding [ov] (getMethod ov m pl)
      callWith pos f first (backTo pos (starEach [] X.env)) (backToKw pos (keywordEach [] X.env))) := by rfl) :
    PE X (.Call (.Attribute o m apos) [] [] pos) (tMethX C m (stSp ps.length sp) W ta tNil) := by
  obtain ⟨f, fd, hm, F, G⟩ := D.ex
  refine ⟨fun pins s σ H Q I h => ?_⟩
  refine PySem.W.methodCall_KW (pl := pl) (thn (he.run pins s σ H _ I h) fun u s1 ⟨x, H1, I1, rx, a, dx, fs, ex, ea, l, q⟩ => ?_) ht
  subst ex
  obtain rfl : u = Value.ref a := rx
  refine getmeth_ok I1 ea T hm l ?_
  refine PySem.W.callWith_K0 (first := [.ref a]) I1.kIn hm.kp ?_
  exact run_atR (us := [.ref a]) (vs := [V.ref a]) G hr (L2.passAt tkn σ) I1 (.cons rfl .nil) q
end
theorem w_listofT {K : PySem.W.Frag} {H : Hp} {Q : VK} {p : Addr} {xs : List V} (h : SqT K H p xs) (q : ∀ l, H l = none → Q (.ref l) (upd H l (.lst xs))) : rListOf K [.ref p] H Q := ⟨p, xs, rfl, .inr h, q⟩
theorem w_ixLastR {K : PySem.W.Frag} {H : Hp} {Q : VK} {p r : Addr} {ri : List Addr} (h : H p = some (.lst ((ri ++ [r]).map V.ref))) (q : Q (.ref r) H) : rIxL K (.ref p) (.int (-1)) H Q := by
  refine w_ixL (SqL.of h) ?_ q
  rw [List.map_append]
  exact atI_last _ _
theorem scal_sameT {K : PySem.W.Frag} {H : Hp} {p q : Addr} {xs : List V} (h1 : H p = some (.tup xs)) (h2 : H q = some (.tup xs)) (f : xs.all scal = true) : ∃ d, Dp K H (.ref p) d ∧ Dp K H (.ref q) d ∧ SeqAt.shaped d = true ∧ PyData.eqv d d = true := by
  obtain ⟨i1, i2, i3⟩ := scal_all (K := K) (H := H) f
  have c1 : PyData.canLay0 (.tuple (xs.map sD)) = true := by simp only [PyData.canLay0]; exact i2
  have c2 : PyData.depth (.tuple (xs.map sD)) ≤ 64 := by
    simp only [PyData.depth]
    omega
  refine ⟨.tuple (xs.map sD), .tup (SqT.of h1) i1, .tup (SqT.of h2) i1, ?_, PySem.SeqAt.eqv_refl _ c1⟩
  unfold SeqAt.shaped
  rw [c1]
  simpa using c2
theorem w_neScalT {K : PySem.W.Frag} {H : Hp} {Q : VK} {p q : Addr} {xs : List V} (h1 : H p = some (.tup xs)) (h2 : H q = some (.tup xs)) (f : xs.all scal = true) (k : Q (.bl false) H) : rNeD K (.ref p) (.ref q) H Q := by
  obtain ⟨d, a, b, c, e⟩ := scal_sameT (K := K) h1 h2 f
  exact ⟨d, d, a, b, c, c, by rw [e]; exact k⟩
theorem all_sbi {s : Str} {b : Bool} {i : Int} (h : PyData.strOk s = true) : [V.str s, V.bl b, V.int i].all scal = true := by
  simp [scal, h]
theorem w_cut {t1 : TS} {D : Ends} {σ : L2.St} {H : Hp} (I : L2.St → Hp → Prop) (h : ∀ N : L2.St → Hp → Prop, (∀ σ H, I σ H → N σ H) → t1 { D with nx := N } σ H) (k : ∀ σ H, I σ H → D.nx σ H) : t1 D σ H := h D.nx k
end Pg

namespace L2
open PySem PySem.Spec PyProof.Rows GenW
/-! ### a for within a generator -/
section
variable {M : Model} {A : Around} {R : GenEnd} {Y : Protocol} {n : Nat} {s₀ : Shared} {c : Code} {fs : List Frame} {s : Shared} {env : Env} {K : Flow → Sem PySem.Fin} {J : Value → Sem PySem.Fin} {gd : Bool → Bool} {lv : List Value → List Value}
theorem seg_For {tg iter : Expr} {body : List Stmt} {pos : Pos}
    (h : wpAny M (A.over c fs) (eval iter env) (fun x s₁ => wpAny M (A.over c fs) (pyIter x) (fun it s₂ => ∀ p, Seg M A R Y n s₀ (.forLoop tg it body [] env) (M.den (.forLoop tg it body [] env))
      (.ret (fun r => ((match r with | .ok f => (.pure f : Sem Flow) | .error e => .raise e).onRaise (cameBack env)).wrap K J gd lv) none (gd false) (lv []) c p [] :: fs) s₂) (fun x s' => Seg M A R Y n s₀ c (J x) fs s') s₁) (fun x s' => Seg M A R Y n s₀ c (J x) fs s') s)
    (hs : ∀ x, foldedSetIterable iter env x = pure x := by intro _; rfl) :
    Seg M A R Y n s₀ c ((exec (.For tg iter body [] pos) env).wrap K J gd lv) fs s := by
  rw [exec_For]
  refine seg_bind_wrap (wpAny_standAt ?_)
  refine seg_bind_wrap (wpAny_mono h (fun x s₁ h₁ => ?_) fun _ _ h' => h')
  refine seg_bind_wrap (wpAny_of_eq (hs x) ?_)
  refine seg_bind_wrap (wpAny_standAt ?_)
  refine seg_bind_wrap (wpAny_holding (wpAny_mono h₁ (fun it s₂ h₂ => ?_) fun _ _ h' => h'))
  exact seg_call fun p => h₂ p
end
section
variable {prog : Program} {w : World} {A : Around} {R : GenEnd} {Y : Protocol} {n : Nat} {s₀ : Shared} {fs : List Frame} {s : Shared} {env : Env}
/-- an exception leaves a loop's code -/
abbrev EOut (prog : Program) (w : World) (A : Around) (R : GenEnd) (Y : Protocol) (n : Nat) (s₀ : Shared) (c : Code) (env : Env) (fs : List Frame) (x : Value) (s' : Shared) : Prop :=
  Seg (model prog w) A R Y n s₀ c ((do noteFrame x env; theTreesLotGoes x : Sem Unit).wrap (fun _ => .raise x) .raise id id) fs s'
theorem seg_forLoop {tg : Expr} {it : Value} {body : List Stmt}
    (h : wpAny (model prog w) (A.over (.forLoop tg it body [] env) fs) (pyNext it) (fun r s₁ => match r with
        | none => Seg (model prog w) A R Y n s₀ (.block [] env) ((model prog w).den (.block [] env)) fs s₁
        | some v => wpAny (model prog w) (A.over (.forLoop tg it body [] env) fs) (letOwnedTupleGo tg it v) (fun _ s₁' => wpAny (model prog w) (A.over (.forLoop tg it body [] env) fs) (assign tg env v) (fun _ s₂ =>
            Seg (model prog w) A R Y n s₀ (.forLoop tg it body [] env) ((execs body env).wrap (fun f => match f with
              | .next | .cont => .pure (.again (.forLoop tg it body [] env))
              | .brk => .pure (.done .next)
              | .ret v => .pure (.done (.ret v))) (fun e => (do noteFrame e env; theTreesLotGoes e : Sem Unit).wrap (fun _ => .raise e) .raise id id) id id) fs s₂) (EOut prog w A R Y n s₀ (.forLoop tg it body [] env) env fs) s₁') (EOut prog w A R Y n s₀ (.forLoop tg it body [] env) env fs) s₁)
      (EOut prog w A R Y n s₀ (.forLoop tg it body [] env) env fs) s) :
    Seg (model prog w) A R Y n s₀ (.forLoop tg it body [] env) ((model prog w).den (.forLoop tg it body [] env)) fs s := by
  show Seg _ A R Y n s₀ _ ((forTurn tg it body [] env).onRaise (fun x => do noteFrame x env; theTreesLotGoes x)) fs s
  unfold forTurn
  rw [Sem.onRaise_eq_wrap]
  have ee : ∀ x s', EOut prog w A R Y n s₀ (.forLoop tg it body [] env) env fs x s' → Seg (model prog w) A R Y n s₀ (.forLoop tg it body [] env) ((do noteFrame x env; theTreesLotGoes x : Sem Unit).bind fun _ => .raise x) fs s' := fun x s' hx => by
    rw [Sem.bind_eq_wrap]; exact hx
  refine seg_bind_wrap (wpAny_standAt ?_)
  refine seg_bind_wrap (wpAny_onRaise (wpAny_mono h (fun r s₁ h₁ => ?_) fun x s' hx => wpAny_standAt (ee x s' hx)))
  cases r with
  | none => exact seg_again rfl h₁
  | some v =>
    refine seg_bind_wrap (wpAny_mono h₁ (fun _ s₁' h₂ => ?_) fun x s' hx => ee x s' hx)
    refine seg_bind_wrap (wpAny_mono h₂ (fun _ s₂ h₃ => ?_) fun x s' hx => ee x s' hx)
    rw [Sem.bind_eq_wrap', Sem.wrap_wrap]
    rw [Sem.wrap_congr (execs body env) _ _ (K' := fun f => match f with
            | .next | .cont => .pure (.again (.forLoop tg it body [] env))
            | .brk => .pure (.done .next)
            | .ret v => .pure (.done (.ret v))) (H' := (fun e => (do noteFrame e env; theTreesLotGoes e : Sem Unit).wrap (fun _ => .raise e) .raise id id))
        (fun f => by cases f <;> rfl)
        (fun e => by first | exact Sem.bind_eq_wrap _ _ | (show (do noteFrame e env; theTreesLotGoes e : Sem Unit).bind (fun _ => .raise e) = _; rw [Sem.bind_eq_wrap]))]
    exact h₃
end
section
variable {X : Cx} {rest : List Stmt} {pos : Pos}
def tGFor (wi : TI) (g : TG) (tb : TGn) : TGn := fun D ys σ H => wi σ H fun J H1 => ∃ W : Nat → Nat → List V → St → Hp → Prop, (∃ m, W 0 m ys σ H1) ∧ ∀ i m ys σ H, W i m ys σ H →
  (J.stop i H ∧ D.nx ys σ H) ∨ (J.go i H ∧ ∃ N : List V → St → Hp → Prop, (∀ ys' σ' H', N ys' σ' H' → ∃ m', m' < m ∧ W (i + 1) m' ys' σ' H') ∧ ∀ x H', J.yld i H x H' → g x σ H' fun σ2 H2 => tb { D with nx := N, ct := N, bk := D.nx } ys σ2 H2)
theorem gs_for {tg iter : Expr} {body : List Stmt} {wi : TI} {g : TG} {tb : TGn} (hp : PassesOwn (model X.prog X.w) X.A X.env X.xe) (hc : X.calm = true) (hi : PI X tg iter wi) (hg : PG X tg g) (hb : GSs X body tb)
    (hs : ∀ x, foldedSetIterable iter X.env x = pure x := by intro _; rfl) : GS X (.For tg iter body [] pos) (tGFor wi g tb) := by
  refine ⟨fun A S ip R n ys s₀ c fs K J gd lv s σ H D gg hn k hI ht => ?_⟩
  obtain ⟨acc, cc, r, I⟩ := hI
  refine seg_For ?_ hs
  rw [gg.over]
  refine wpAny_mono (hi.run _ s σ H _ I ht) (fun v s1 h1 => ?_) fun x s' hx => k.exc n s₀ x s' hx
  refine wpAny_mono h1 (fun itv s2 h2 p => ?_) fun x s' hx => k.exc n s₀ x s' hx
  obtain ⟨it, fp, tn, JJ, H2, e, I2, T, st2, f2, W, ⟨m0, w0⟩, turn⟩ := h2
  subst e
  have stat : ∀ {H' : Hp} {acc' : Array Value} {cc' : Nat}, (∀ b ∈ fp, H' b = none) → ∀ b ∈ fp, FpOk X ((S, lstObj acc' cc') :: ip) H' b := fun hn b hb => by
    obtain ⟨f0, f1, f2', f3, f4, f5⟩ := f2 b hb
    refine ⟨hn b hb, f1, f2', f3, f4, fun p hp => ?_⟩
    rcases List.mem_append.mp hp with z | z
    · exact f5 p (List.mem_append_left _ z)
    · rcases List.mem_cons.mp z with z | z
      · rw [z]
        exact f5 (S, lstObj acc cc) (List.mem_append_right _ List.mem_cons_self)
      · exact f5 p (List.mem_append_right _ (List.mem_cons_of_mem _ z))
  have nS : ∀ b ∈ fp, b ≠ S := fun b hb z => (f2 b hb).2.2.2.2.2 (S, lstObj acc cc) (List.mem_append_right _ List.mem_cons_self) z.symm
  have gl := fun (kk : Result → Sem PySem.Fin) => gc_loop (k := kk) (c' := .forLoop tg (.ref it) body [] X.env) (l := lv []) (kp := []) (p := p) gg rfl rfl
  have glb := fun (kk : Result → Sem PySem.Fin) => gc_loop (k := kk) (c' := .block [] X.env) (l := lv []) (kp := []) (p := p) gg rfl rfl
  have loop : ∀ (m i n : Nat) (ys : List V) (s₀ s : Shared) (σ : St) (H : Hp), n + ys.length = sizeLine → W i m ys σ H → GI X S ip ys σ H s → tn i s.heap → (∀ b ∈ fp, H b = none) →
      Seg (model X.prog X.w) A R (GY X S) n s₀ (.forLoop tg (.ref it) body [] X.env) ((model X.prog X.w).den (.forLoop tg (.ref it) body [] X.env))
        (.ret (fun r => ((match r with | .ok f => (.pure f : Sem Flow) | .error e => .raise e).onRaise (cameBack X.env)).wrap K J gd lv) none (gd false) (lv []) c p [] :: fs) s := by
    intro m
    induction m using Nat.strongRecOn with
    | ind m ih =>
      intro i n ys s₀ s σ H hn w hI hst hfr
      have ee : ∀ (n : Nat) (s₀ : Shared) (x : Value) (s' : Shared), X.xe x s' → EOut X.prog X.w A R (GY X S) n s₀ (.forLoop tg (.ref it) body [] X.env) X.env
          (.ret (fun r => ((match r with | .ok f => (.pure f : Sem Flow) | .error e => .raise e).onRaise (cameBack X.env)).wrap K J gd lv) none (gd false) (lv []) c p [] :: fs) x s' := fun n s₀ x s' hx => by
        refine seg_wrap ?_
        rw [(gl _).over]
        refine wpAny_bind (wpAny_mono (hp x s' hx) (fun _ s'' hcb => wpAny_theTreesLotGoes ?_) fun y s'' hcb => ?_)
        · exact seg_leaf (.error x) (seg_cameBack gg k hcb)
        · exact seg_leaf (.error y) (seg_cameBack gg k hcb)
      refine seg_forLoop ?_
      rw [(gl _).over]
      obtain ⟨acc, cc, r, I⟩ := hI
      rcases turn i m ys σ H w with ⟨stop, qn⟩ | ⟨go, N, hN, step⟩
      · refine wpAny_mono (T.done X rfl rfl rfl hc i _ s σ H X.xe I (stat hfr) hst stop) (fun r' s4 ⟨hr, I4⟩ => ?_) fun x s' hx => ee n s₀ x s' hx
        subst hr
        show Seg _ _ _ _ _ _ _ ((execs [] X.env).onRaise _ >>= fun f => .pure (.done f)) _ _
        refine seg_bind ?_
        rw [(glb _).over]
        refine wpAny_onRaise ?_
        refine wpAny_execs_nil ?_
        exact seg_leaf (.ok .next) (k.ok n ys s₀ s4 .next hn ⟨σ, H, ⟨acc, cc, r, I4⟩, qn⟩)
      · refine wpAny_mono (T.item X rfl rfl rfl hc i _ s σ H X.xe I (stat hfr) hst go) (fun r' s4 ⟨u, hr, h4⟩ => ?_) fun x s' hx => ee n s₀ x s' hx
        subst hr
        refine wpAny_mono h4 (fun _ s5 ⟨x, H5, I5, r5, y5, st5, fr5⟩ => ?_) fun x s' hx => ee n s₀ x s' hx
        have I5' := I5.pinned (stat fr5) (T.obj _ _ st5)
        refine wpAny_mono (hg.run _ s5 σ H5 x u _ I5' r5 (step x H5 y5)) (fun _ s6 ⟨σ6, H6, I6, q6⟩ => ?_) fun x s' hx => ee n s₀ x s' hx
        have gl' : GC X S (ip ++ pinsAt fp s5.heap) A (.forLoop tg (.ref it) body [] X.env) (.ret (fun r => ((match r with | .ok f => (.pure f : Sem Flow) | .error e => .raise e).onRaise (cameBack X.env)).wrap K J gd lv) none (gd false) (lv []) c p [] :: fs) id :=
          ⟨gg.pn, fun p hp => (List.mem_append.mp hp).elim (fun z => gg.ip p z) fun z => nS p.1 (of_pinsAt z).1, gg.apart, (gl _).over, (gl _).split, (gl _).guard, rfl⟩
        have back : ∀ {ys7 : List V} {σ7 : St} {H7 : Hp} {s7 : Shared}, GI X S (ip ++ pinsAt fp s5.heap) ys7 σ7 H7 s7 → GI X S ip ys7 σ7 H7 s7 ∧ tn (i + 1) s7.heap ∧ ∀ b ∈ fp, H7 b = none := fun {ys7 σ7 H7 s7} h7 => by
          obtain ⟨acc7, cc7, r7, I7⟩ := h7
          refine ⟨⟨acc7, cc7, r7, Inv.unpinned (pins := (S, lstObj acc7 cc7) :: ip) I7⟩, T.keep _ _ _ st5 fun b hb o e => (I7.pin (b, o) (List.mem_append_right _ (List.mem_cons_of_mem _ (List.mem_append_right _ (mem_pinsAt hb e))))).1, fun b hb => ?_⟩
          obtain ⟨o, e, d⟩ := T.obj _ _ st5 b hb
          exact (I7.pin (b, o) (List.mem_append_right _ (List.mem_cons_of_mem _ (List.mem_append_right _ (mem_pinsAt hb e))))).2.1
        refine hb.run A S (ip ++ pinsAt fp s5.heap) R n ys s₀ _ _ _ _ id id s6 σ6 H6 { D with nx := N, ct := N, bk := D.nx } gl' hn ⟨fun n' ys' s₀' s7 f hn' hs => ?_, fun n' s₀' x s7 hx => ee n' s₀' x s7 hx⟩ ⟨acc, cc, r, I6⟩ q6
        cases f with
        | next =>
          obtain ⟨σ7, H7, I7, n7⟩ := hs
          obtain ⟨m', hm, w7⟩ := hN ys' σ7 H7 n7
          obtain ⟨b1, b2, b3⟩ := back I7
          exact seg_again rfl (ih m' hm (i + 1) n' ys' s₀' s7 σ7 H7 hn' w7 b1 b2 b3)
        | cont =>
          obtain ⟨σ7, H7, I7, n7⟩ := hs
          obtain ⟨m', hm, w7⟩ := hN ys' σ7 H7 n7
          obtain ⟨b1, b2, b3⟩ := back I7
          exact seg_again rfl (ih m' hm (i + 1) n' ys' s₀' s7 σ7 H7 hn' w7 b1 b2 b3)
        | brk =>
          obtain ⟨σ7, H7, I7, n7⟩ := hs
          exact seg_leaf (.ok .next) (k.ok n' ys' s₀' s7 .next hn' ⟨σ7, H7, (back I7).1, n7⟩)
        | ret v =>
          obtain ⟨x7, σ7, H7, I7, r7, n7⟩ := hs
          exact seg_leaf (.ok (.ret v)) (k.ok n' ys' s₀' s7 (.ret v) hn' ⟨x7, σ7, H7, (back I7).1, r7, n7⟩)
  exact loop m0 0 n ys s₀ s2 σ H2 hn w0 ⟨acc, cc, r, I2⟩ st2 fun b hb => (f2 b hb).1
end
end L2
namespace Pg
open PySem PySem.Spec PyProof.Rows L2
/-! ### generator methods -/
structure MGnAt (P : Program) (w : World) (K : PySem.W.Frag) (mg : Str → Option Value) (base : Heap) (C : Addr) (m qual : Str) (st : Stmt) (k : Nat) (ps : List Str) (sp : SpG) : Prop where
  ex : ∃ f fd, Meth K C m f ∧ Fun K m qual st f fd ∧ GFn P w K mg base k f fd ps sp ∧ Binds K fd ps []
theorem MethAt.okGn {P : Program} {w : World} {K : PySem.W.Frag} {mg : Str → Option Value} {base : Heap} {C : Addr} {m qual : Str} {st : Stmt} {k : Nat} {ps N : List Str} {sp : SpG} (F : MethAt K C m qual st) (S : GScope N ps (defScope st)) (len : ∀ vs H Q E, sp vs H Q E → vs.length = ps.length)
    (hb : ∀ (kV doc pm : Value) (an : Option Addr) (cdv ct : Value) (us : List Value), us.length = ps.length → bindArgs (PySem.W.fnOf m qual (defArgs st) (defBody st) (defScope st) .none kV doc pm an cdv ct) ⟨us, []⟩ = pure (ps.zip us))
    (hbody : ∀ (f : Addr) (cdv : Value) (A : Around) (outer : List Env) (s : Shared) (H : Hp) (vs : List V) (Q : List V → Hp → Prop) (E : XK) (pn : List (Addr × Obj)), Room k (A.deeper (envOfC qual (defScope st) s.heap.objs.size f cdv)) → sp vs H Q E →
      ∃ t, GSs (gcxOf P w K mg base N qual (defScope st) f cdv A outer s H E pn) (defBody st) t ∧ t { nx := fun ys _ H' => Q ys H', rt := fun ys v H' => v = .non ∧ Q ys H' } [] (start N vs) H) : MGnAt P w K mg base C m qual st (k + 1) ps sp := by
  obtain ⟨f, fd, hm, F⟩ := F.ex
  refine ⟨f, fd, hm, F, ?_, F.binds hb⟩
  obtain ⟨oc, od, kV, doc, pm, an, cdv, ct, osl, rfl, lk, hcd⟩ := F.ex
  exact gfn_of lk hcd S len fun A outer s H vs Q E pn hr h => hbody f cdv A outer s H vs Q E pn hr h
section
variable {X : Cx} {x m qual : Str} {st : Stmt} {k : Nat} {ps ks : List Str} {sp : SpG} {C : Addr} {e o : Expr} {es : List Expr} {kws : List Keyword} {t tk : TA} {ta : TE} {p p0 pos pos' apos : Pos} {ix : List Nat}
theorem pe_listGM {pl : Sem Bool} (he : PE X o ta) (T : Cls X.K C) (D : MGnAt X.prog X.w X.K X.mg X.base C m qual st k ps sp) (hr : Room (k + 3) X.A) (hgl : Gl X "list") (hml : X.mg "list" = none) (ha : PA X (e :: es) t)
    (hst : starEach (e :: es) X.env = (false, eval e X.env) :: starEach es X.env := by rfl) (hpl : (backTo pos' (starEach es X.env)).any (·.1) = false := by rfl)
    (ht : eval (.Call (.Attribute o m apos) (e :: es) [] pos') X.env = (do
      let ov ← eval o X.env
      standAt apos.atName
      let (f, first) ← holding [ov] (getMethod ov m pl)
      callWith pos' f first (backTo pos' (starEach (e :: es) X.env)) (backToKw pos' (keywordEach [] X.env))) := by rfl)
    (he2 : starEach [.Call (.Attribute o m apos) (e :: es) [] pos'] X.env = (false, eval (.Call (.Attribute o m apos) (e :: es) [] pos') X.env) :: starEach [] X.env := by rfl) :
    PE X (.Call (.Name "list" p0) [.Call (.Attribute o m apos) (e :: es) [] pos'] [] pos) (tListG (tMethG C m sp [] E0 ta t)) := by
  obtain ⟨f, fd, hm, F, G, b⟩ := D.ex
  exact pe_listG (pgen_meth he T hm G (hr.mono (by omega)) b .nil ha hst hpl ht) (fun _ _ _ _ _ _ _ z => by
    obtain ⟨_, _, _, _, _, _, _, _, _, _, _, _, q⟩ := z
    exact q.elim) (fun _ _ _ z => z.elim) hr hgl hml boot_list (by decide) (by decide) he2
/-- o.m(k = v, ..) of a generator method -/
def tMethGK (C : Addr) (m : Str) (n : Nat) (ix : List Nat) (sp : SpG) (E : XK) (ta : TE) (tk : TA) : TGen := fun σ H cont => ta σ H fun x H1 => ∃ a dx fs, x = .ref a ∧ H1 a = some (.ins C dx fs) ∧ fs.lookup m = none ∧
  tk σ H1 fun zs H2 => zs.length = n ∧ sp (x :: pick ix zs) H2 cont E
theorem run_gfnK {pins : List (Addr × Obj)} {σ : L2.St} {H : Hp} {s : Shared} {us us' : List Value} {kw : List (Str × Value)} {vs : List V} {cont : List V → Hp → Prop} {E : XK} {f : Addr} {fd : FuncData} {E1 : Value → Shared → Prop} (F : GFn X.prog X.w X.K X.mg X.base k f fd ps sp) (hr : Room k X.A)
    (I : Inv X pins σ H s) (b : BindsTo s fd ⟨us, kw⟩ (ps.zip us')) (r : Vals vs us') (h : sp vs H cont E) :
    wpAny (model X.prog X.w) X.A (call (.ref f) us kw) (fun u s' => ∃ H1 sc ex, Inv X pins σ H1 sc ∧ ExOk X pins ex ∧ GMade X.prog X.w k X.stack H1 sc ex cont E u s') E1 s := by
  refine wpAny_call (codeAny_mono (F.run X.A X.stack s H ⟨us, kw⟩ us' vs cont E hr I.env0 b r h) fun r s' hq => ?_)
  cases r with
  | error e => exact False.elim hq
  | ok fl =>
    cases fl with
    | ret u => exact ⟨H, s, [], I, .nil, hq⟩
    | next => exact False.elim hq
    | brk => exact False.elim hq
    | cont => exact False.elim hq
theorem pgen_methK {E : XK} {pl : Sem Bool} (he : PE X o ta) (T : Cls X.K C) (D : MGnAt X.prog X.w X.K X.mg X.base C m qual st k ps sp) (hr : Room k X.A) (hkw : PK X kws tk) (B : KB0 m qual st ps ks 1 ix)
    (hall : (backToKw pos' (keywordEach kws X.env)).all (·.1.isSome) = true := by rfl) (hks : (backToKw pos' (keywordEach kws X.env)).filterMap (·.1) = ks := by rfl)
    (hpl : ((backTo pos' (starEach [] X.env)).any (·.1) || (backToKw pos' (keywordEach kws X.env)).any (·.1.isNone)) = false := by rfl)
    (ht : eval (.Call (.Attribute o m apos) [] kws pos') X.env = (do
      let ov ← eval o X.env
      standAt apos.atName
      let (f, first) ← holding [ov] (getMethod ov m pl)
      callWith pos' f first (backTo pos' (starEach [] X.env)) (backToKw pos' (keywordEach kws X.env))) := by rfl) :
    PGen X k (.Call (.Attribute o m apos) [] kws pos') (tMethGK C m ks.length ix sp E ta tk) E := by
  obtain ⟨f, fd, hm, F, G, b⟩ := D.ex
  refine ⟨fun pins s σ H cont I h => ?_⟩
  refine PySem.W.methodCall_KW (pl := pl) (thn (he.run pins s σ H _ I h) fun u s1 ⟨x, H1, I1, rx, a, dx, fs, ex, ea, l, q⟩ => ?_) ht
  subst ex
  obtain rfl : u = Value.ref a := rx
  refine getmeth_ok I1 ea T hm l ?_
  refine PySem.W.callWith_KW0 (first := [.ref a]) (h₀ := X.base) I.ok.mod.kin hm.kp hall ?_ hpl
  refine thn (hkw.run pos' pins s1 σ H1 _ I1 q) fun ws s2 ⟨zs, H2, I2, rz, l2, q2⟩ => ⟨I2.kIn, ?_⟩
  rw [hks]
  have r2 : Vals (V.ref a :: pick ix zs) (Value.ref a :: pick ix ws) := .cons rfl (pick_vals rz ix)
  exact run_gfnK (us := [.ref a]) G hr I2 ((B.kbn F).to s2 [.ref a] ws I2.kIn rfl (rz.length.symm.trans l2)) r2 q2
theorem pe_listGMK {pl : Sem Bool} (he : PE X o ta) (T : Cls X.K C) (D : MGnAt X.prog X.w X.K X.mg X.base C m qual st k ps sp) (hr : Room (k + 3) X.A) (hgl : Gl X "list") (hml : X.mg "list" = none) (hkw : PK X kws tk) (B : KB0 m qual st ps ks 1 ix)
    (hall : (backToKw pos' (keywordEach kws X.env)).all (·.1.isSome) = true := by rfl) (hks : (backToKw pos' (keywordEach kws X.env)).filterMap (·.1) = ks := by rfl)
    (hpl : ((backTo pos' (starEach [] X.env)).any (·.1) || (backToKw pos' (keywordEach kws X.env)).any (·.1.isNone)) = false := by rfl)
    (ht : eval (.Call (.Attribute o m apos) [] kws pos') X.env = (do
      let ov ← eval o X.env
      standAt apos.atName
      let (f, first) ← holding [ov] (getMethod ov m pl)
      callWith pos' f first (backTo pos' (starEach [] X.env)) (backToKw pos' (keywordEach kws X.env))) := by rfl)
    (he2 : starEach [.Call (.Attribute o m apos) [] kws pos'] X.env = (false, eval (.Call (.Attribute o m apos) [] kws pos') X.env) :: starEach [] X.env := by rfl) :
    PE X (.Call (.Name "list" p0) [.Call (.Attribute o m apos) [] kws pos'] [] pos) (tListG (tMethGK C m ks.length ix sp E0 ta tk)) :=
  pe_listG (pgen_methK he T D (hr.mono (by omega)) hkw B hall hks hpl ht) (fun _ _ _ _ _ _ _ z => by
    obtain ⟨_, _, _, _, _, _, _, _, _, _, _, _, q⟩ := z
    exact q.elim) (fun _ _ _ z => z.elim) hr hgl hml boot_list (by decide) (by decide) he2
/-- f(k = v, ..) of a generator def -/
def tCallGK (n : Nat) (ix : List Nat) (sp : SpG) (E : XK) (tk : TA) : TGen := fun σ H cont => tk σ H fun zs H2 => zs.length = n ∧ sp (pick ix zs) H2 cont E
theorem pgen_callK {E : XK} (D : GnAt X.prog X.w X.K X.mg X.base x st k ps sp) (hr : Room k X.A) (hkw : PK X kws tk) (B : KB0 x x st ps ks 0 ix) (hg : Gl X x := by rfl)
    (hall : (backToKw pos' (keywordEach kws X.env)).all (·.1.isSome) = true := by rfl) (hks : (backToKw pos' (keywordEach kws X.env)).filterMap (·.1) = ks := by rfl) (hdb : (x == ("__debug__" : Str)) = false := by decide)
    (hpl : ((backTo pos' (starEach [] X.env)).any (·.1) || (backToKw pos' (keywordEach kws X.env)).any (·.1.isNone)) = false := by rfl) :
    PGen X k (.Call (.Name x p) [] kws pos') (tCallGK ks.length ix sp E tk) E := by
  obtain ⟨f, fd, hm, F, G, b⟩ := D.ex
  refine ⟨fun pins s σ H cont I h => ?_⟩
  refine wpAny_Call_Name_kw (ld_glob I hg hm ?_ hdb)
  refine PySem.W.callWith_KW0 (h₀ := X.base) I.ok.mod.kin F.kp hall ?_ hpl
  refine thn (hkw.run pos' pins s σ H _ I h) fun ws s2 ⟨zs, H2, I2, rz, l2, q2⟩ => ⟨I2.kIn, ?_⟩
  rw [hks]
  exact run_gfnK (us := []) G hr I2 ((B.kbn F).to s2 [] ws I2.kIn rfl (rz.length.symm.trans l2)) (pick_vals rz ix) q2
theorem pe_listGDK (D : GnAt X.prog X.w X.K X.mg X.base x st k ps sp) (hr : Room (k + 3) X.A) (hgl : Gl X "list") (hml : X.mg "list" = none) (hkw : PK X kws tk) (B : KB0 x x st ps ks 0 ix) (hg : Gl X x := by rfl)
    (hall : (backToKw pos' (keywordEach kws X.env)).all (·.1.isSome) = true := by rfl) (hks : (backToKw pos' (keywordEach kws X.env)).filterMap (·.1) = ks := by rfl) (hdb : (x == ("__debug__" : Str)) = false := by decide)
    (hpl : ((backTo pos' (starEach [] X.env)).any (·.1) || (backToKw pos' (keywordEach kws X.env)).any (·.1.isNone)) = false := by rfl)
    (he2 : starEach [.Call (.Name x p) [] kws pos'] X.env = (false, eval (.Call (.Name x p) [] kws pos') X.env) :: starEach [] X.env := by rfl) :
    PE X (.Call (.Name "list" p0) [.Call (.Name x p) [] kws pos'] [] pos) (tListG (tCallGK ks.length ix sp E0 tk)) :=
  pe_listG (pgen_callK D (hr.mono (by omega)) hkw B hg hall hks hdb hpl) (fun _ _ _ _ _ _ _ z => by
    obtain ⟨_, _, _, _, _, _, _, _, _, _, _, _, q⟩ := z
    exact q.elim) (fun _ _ _ z => z.elim) hr hgl hml boot_list (by decide) (by decide) he2
section
variable {D : GEnds} {ys : List V} {σ : L2.St} {H : Hp} {sp : SpG} {dvs : List V} {E : XK} {cont : List V → Hp → Prop} {n : Nat} {a dx : Addr} {fs : List (Str × V)} {y : V}
def GRunE (sp : SpG) (E : XK) (cont : List V → Hp → Prop) : V → List V → Hp → Prop := fun x vs H2 => sp (x :: (vs ++ [])) H2 cont E
def GKwE (n : Nat) (ix : List Nat) (sp : SpG) (E : XK) (cont : List V → Hp → Prop) : V → List V → Hp → Prop := fun x zs H2 => zs.length = n ∧ sp (x :: pick ix zs) H2 cont E
def GKw0 (n : Nat) (ix : List Nat) (sp : SpG) (E : XK) (cont : List V → Hp → Prop) : List V → Hp → Prop := fun zs H2 => zs.length = n ∧ sp (pick ix zs) H2 cont E
theorem w_methG (h : ta σ H (MethXE C m t (GRunE sp E cont) σ)) : tMethG C m sp [] E ta t σ H cont := h
theorem w_methGK (h : ta σ H (MethXE C m tk (GKwE n ix sp E cont) σ)) : tMethGK C m n ix sp E ta tk σ H cont := h
theorem w_grunE {vs : List V} (h : sp (y :: (vs ++ [])) H cont E) : GRunE sp E cont y vs H := h
theorem w_gkwE {zs : List V} (e : zs.length = n) (h : sp (y :: pick ix zs) H cont E) : GKwE n ix sp E cont y zs H := ⟨e, h⟩
theorem w_callGK (h : tk σ H (GKw0 n ix sp E cont)) : tCallGK n ix sp E tk σ H cont := h
theorem w_gkw0 {zs : List V} (e : zs.length = n) (h : sp (pick ix zs) H cont E) : GKw0 n ix sp E cont zs H := ⟨e, h⟩
/-- the loop over what is walked -/
def GForB (g : TG) (tb : TGn) (D : GEnds) (ys : List V) (σ : L2.St) : It → Hp → Prop := fun J H1 => ∃ W : Nat → Nat → List V → L2.St → Hp → Prop, (∃ m, W 0 m ys σ H1) ∧ ∀ i m ys σ H, W i m ys σ H →
  (J.stop i H ∧ D.nx ys σ H) ∨ (J.go i H ∧ ∃ N : List V → L2.St → Hp → Prop, (∀ ys' σ' H', N ys' σ' H' → ∃ m', m' < m ∧ W (i + 1) m' ys' σ' H') ∧ ∀ x H', J.yld i H x H' → g x σ H' fun σ2 H2 => tb { D with nx := N, ct := N, bk := D.nx } ys σ2 H2)
theorem w_gFor {wi : TI} {g : TG} {tb : TGn} (h : wi σ H (GForB g tb D ys σ)) : tGFor wi g tb D ys σ H := h
/-- a for over a list that stays as it is -/
theorem g_list {K : PySem.W.Frag} {g : TG} {tb : TGn} (xs : List V) (Pv : Nat → List V → L2.St → Hp → Prop) (h0 : Pv 0 ys σ H) (hl : ∀ i ys σ H, i ≤ xs.length → Pv i ys σ H → SqL K H a xs)
    (hs : ∀ i x ys σ H, xs[i]? = some x → Pv i ys σ H → g x σ H fun σ2 H2 => tb { D with nx := Pv (i + 1), ct := Pv (i + 1), bk := D.nx } ys σ2 H2) (hd : ∀ ys σ H, Pv xs.length ys σ H → D.nx ys σ H) : GForB g tb D ys σ (Itl K a) H := by
  refine ⟨fun i m ys σ H => m = xs.length - i ∧ i ≤ xs.length ∧ Pv i ys σ H, ⟨xs.length, by simp, Nat.zero_le _, h0⟩, ?_⟩
  rintro i m ys σ H ⟨rfl, hi, p⟩
  have q := hl i ys σ H hi p
  by_cases hlt : i < xs.length
  · refine .inr ⟨⟨xs, xs[i], q, by simp [hlt]⟩, Pv (i + 1), fun ys' σ' H' p' => ⟨xs.length - (i + 1), by omega, rfl, hlt, p'⟩, fun x H' y => ?_⟩
    obtain ⟨e, y⟩ := y
    subst e
    exact hs i x ys σ _ (y xs q) p
  · have e : i = xs.length := by omega
    subst e
    exact .inl ⟨⟨xs, q, Nat.le_refl _⟩, hd ys σ H p⟩
end
end
/-! ### list(range(..)) -/
def RgLE (Q : VK) : Int → Int → Hp → Prop := fun a b H1 => RgOk a b ∧ ∀ q, H1 q = none → Q (.ref q) (upd H1 q (.lst (rgV a b)))
def Rg2E (R : Int → Int → Hp → Prop) : V → V → Hp → Prop := fun x y H2 => ∃ i j, x = .int i ∧ y = .int j ∧ R i j H2
def Rg1E (R : Int → Int → Hp → Prop) : V → Hp → Prop := fun x H1 => ∃ n, x = .int n ∧ R 0 n H1
def rgI (a b : Int) : List Int := (List.range (b - a).toNat).map fun i => a + (i : Nat)
theorem rgV_ints (a b : Int) : rgV a b = (rgI a b).map V.int := by simp [rgV, rgI]
section
variable {σ : L2.St} {H : Hp} {ta tb : TE} {te : L2.St → Hp → (Int → Int → Hp → Prop) → Prop} {Q : VK} {R : Int → Int → Hp → Prop} {i j : Int}
theorem w_listRg (h : te σ H (RgLE Q)) : tLstRg te σ H Q := h
theorem w_rg2 (h : ta σ H fun x H1 => tb σ H1 (Rg2E R x)) : tRg2 ta tb σ H R := h
theorem w_rg1 (h : ta σ H (Rg1E R)) : tRg1 ta σ H R := h
theorem w_rg2E (h : R i j H) : Rg2E R (.int i) (.int j) H := ⟨i, j, rfl, rfl, h⟩
theorem w_rg1E (h : R 0 i H) : Rg1E R (.int i) H := ⟨i, rfl, h⟩
theorem w_rgLE (h0 : 0 ≤ i) (h1 : j ≤ 16777216) (h2 : i ≤ 16777216) (h3 : 0 ≤ j) (k : ∀ q, H q = none → Q (.ref q) (upd H q (.lst ((rgI i j).map V.int)))) : RgLE Q i j H := ⟨RgOk.of_le h0 h1 h2 h3, fun q hq => by rw [rgV_ints]; exact k q hq⟩
end
end Pg
namespace L2
open PySem PySem.Spec PyProof.Rows GenW
/-! ### generators that raise when they are woken -/
def RErr (P : Program) (w : World) (outer : List Env) (H : Hp) (s : Shared) (a : Addr) (g : Nat) (E : XK) : GenEnd := fun n s₀ r s1 => ((r = .ok (.ret .none) ∨ r = .ok .next) ∧ False) ∨ ∃ e, r = .error e ∧ (CX P w outer H s E e s1 ∧ s1.heap.IsGen a g)
def GRMade (P : Program) (w : World) (k : Nat) (outer : List Env) (H : Hp) (s : Shared) (E : XK) (u : Value) (s' : Shared) : Prop :=
  ∃ (a : Addr) (g : Nat) (c : Code), u = .ref a ∧ s.heap.objs.size ≤ a ∧ a < s'.heap.objs.size ∧ s'.heap.IsGen a g ∧ s'.gens[g]? = some (.fresh c) ∧ s'.os = s.os ∧ AllBare s'.gens ∧ s'.heap.NoLimit ∧ (∀ b o, s.heap.get? b = some o → s'.heap.get? b = some o) ∧
    ∀ (A : Around) (s2 : Shared), Room k A → A.frames = some outer → (∀ b o, s'.heap.get? b = some o → s2.heap.get? b = some o) → s2.os = s.os → AllBare s2.gens →
      Seg (model P w) A (RErr P w outer H s a g E) (fun _ _ _ _ _ => False) 0 s2 c ((model P w).den c) [] s2
abbrev SpR := List V → Hp → XK → Prop
structure GRFn (P : Program) (w : World) (K : PySem.W.Frag) (mg : Str → Option Value) (base : Heap) (k : Nat) (f : Addr) (fd : FuncData) (ps : List Str) (sp : SpR) : Prop where
  len : ∀ vs H E, sp vs H E → vs.length = ps.length
  run : ∀ (A : Around) (outer : List Env) (s : Shared) (H : Hp) (args : Args) (us : List Value) (vs : List V) (E : XK), Room k A → Env0 P w K mg base A outer s H → BindsTo s fd args (ps.zip us) → Vals vs us → sp vs H E →
    codeAny (model P w) A (.call (.ref f) args) (fun r s' => match r with | .ok (.ret u) => GRMade P w k outer H s E u s' | _ => False) s
theorem grfn_of {P : Program} {w : World} {K : PySem.W.Frag} {mg : Str → Option Value} {base : Heap} {k : Nat} {f : Addr} {name qual : Str} {params : Arguments} {st : Stmt} {rest : List Stmt} {scope : Scope} {dV kV doc pm cdv ct oc : Value} {an od : Option Addr}
    {osl : Array (Option Value)} {N ps : List Str} {sp : SpR} (lk : K.lookup f = some ⟨oc, od, .func (PySem.W.fnOf name qual params (st :: rest) scope dV kV doc pm an cdv ct), osl⟩) (hcd : PySem.W.codeIn K cdv qual = true) (S : GScope N ps scope)
    (len : ∀ vs H E, sp vs H E → vs.length = ps.length)
    (hbody : ∀ (A : Around) (outer : List Env) (s : Shared) (H : Hp) (vs : List V) (E : XK) (pn : List (Addr × Obj)), Room k (A.deeper (envOfC qual scope s.heap.objs.size f cdv)) → sp vs H E →
      ∃ t, PS (gcxOf P w K mg base N qual scope f cdv A outer s H E pn) st t ∧ t { nx := fun _ _ => False, rt := fun _ _ => False } (start N vs) H) :
    GRFn P w K mg base (k + 1) f (PySem.W.fnOf name qual params (st :: rest) scope dV kV doc pm an cdv ct) ps sp := by
  refine ⟨len, fun A outer s H args us vs E hr e0 hb r hsp => ?_⟩
  have hl := len _ _ _ hsp
  have KX : K.In s.heap := e0.mod.kin.keeps fun b o e => (e0.bs b o e).1
  have lim : s.heap.NoLimit := e0.mod.nolimit.keeps fun b o e => (e0.bs b o e).1
  have hkind : ∀ y ∈ ps.zip us, scope.names.lookup y.1 = some .local ∨ (scope.names.lookup y.1 = some .cell ∧ ((cellsFrom (s.heap.objs.size + 1) scope.names []).lookup y.1).isSome = true) := fun ⟨n, v⟩ hy => by
    rcases S.par n (List.of_mem_zip hy).1 with q | q
    · exact .inl q
    · exact .inr ⟨q, PySem.W.cellsFrom_some _ _ _ (.inl q)⟩
  refine codeAny_call_generator hr.depth (KX _ _ lk) rfl S.co S.gen rfl (PySem.W.codeRec_of KX hcd) (hb _ _ _ _ ?_)
  refine wpAny_newFunctionEnv_cells S.kind hkind fun env he s1 x => ?_
  subst he
  have lim1 : s1.heap.NoLimit := lim.keeps x.toInCall.keep
  refine ⟨lim1, ?_⟩
  obtain ⟨h1, tk, es1, hk1⟩ := x.done
  have os1 : s1.os = s.os := by rw [es1]
  have gen1 : s1.gens = s.gens := by rw [es1]
  have lt1 : s.heap.objs.size < s1.heap.objs.size := x.toInCall.ns.lt
  have sz1 : s.heap.objs.size ≤ s1.heap.objs.size := Nat.le_of_lt lt1
  have kp1 : ∀ b o, s.heap.get? b = some o → s1.heap.get? b = some o := x.toInCall.keep
  have main : ∀ (go : Obj) (nm qn : Value) (tk2 : Nat), go.cls = .type "generator" → go.data = .fields #[.int s1.gens.size 0, nm, qn] → go.slots = #[] → (∀ h : Heap, (h.push go).get? h.objs.size = some go) →
      GRMade P w (k + 1) outer H s E (.ref s1.heap.objs.size) { s1 with gens := s1.gens.push (.fresh (.func (st :: rest) (envOfC qual scope s.heap.objs.size f cdv))), toks := tk2, heap := s1.heap.push go } := by
    intro go nm qn tk2 hgc hgd0 hgs hgp
    have hgen : ∀ h : Heap, h.get? s1.heap.objs.size = some go → h.IsGen s1.heap.objs.size s1.gens.size := fun h e => ⟨go, nm, qn, e, hgc, hgd0, hgs⟩
    have hpushed : (s1.heap.push go).get? s1.heap.objs.size = some go := hgp _
    refine ⟨s1.heap.objs.size, s1.gens.size, _, rfl, sz1, ?_, hgen _ hpushed, Array.getElem?_push_size .., os1, ?_, lim1.keeps fun b o e => Heap.get?_push_of_some _ e, fun b o e => Heap.get?_push_of_some _ (kp1 b o e), ?_⟩
    · show _ < (s1.heap.push _).objs.size
      rw [Heap.size_push]; exact Nat.lt_succ_self _
    · exact AllBare.push (by rw [gen1]; exact e0.bare) rfl
    intro Aw s2 hrw hfr hk2 hos hba
    have e0w : Env0 P w K mg base Aw outer s H := ⟨hfr, e0.mod, e0.bs, e0.bsz, e0.funs, e0.frf, e0.hok, e0.bare⟩
    obtain ⟨t, ht, hq⟩ := hbody Aw outer s H vs E [(s1.heap.objs.size, go)] (hrw.deeper _) hsp
    have I1 : Inv (gcxOf P w K mg base N qual scope f cdv Aw outer s H E []) [] (start N vs) H s1 := inv_startG S hrw.hd e0w hl r x
    have kp2 : ∀ b o, s1.heap.get? b = some o → s2.heap.get? b = some o := fun b o e => hk2 b o (Heap.get?_push_of_some _ e)
    have I2 : Inv (gcxOf P w K mg base N qual scope f cdv Aw outer s H E []) [] (start N vs) H s2 :=
      I1.call' (ch := []) (hos.trans os1.symm) (Un.kept kp2) (I1.hok.kept kp2) hba fun b z => by simp at z
    have hea : s2.heap.get? s1.heap.objs.size = some go := hk2 s1.heap.objs.size go hpushed
    have hgd : ∀ v, go.data ≠ .cell v := fun v q => by rw [hgd0] at q; cases q
    have I3 : Inv (gcxOf P w K mg base N qual scope f cdv Aw outer s H E [(s1.heap.objs.size, go)]) [] (start N vs) H s2 := Inv.pinnedG I2 fun p hp => by
      rw [List.append_nil] at hp
      rw [List.mem_singleton.mp hp]
      exact ⟨hea, I1.hok.fresh (Nat.le_refl _), Nat.ne_of_gt lt1, I1.nofs (Nat.le_refl _), hgd⟩
    refine seg_func ?_
    refine seg_execs_cons ?_
    refine seg_wrap ?_
    rw [over_func]
    refine wpAny_mono (ht.run [] s2 (start N vs) H _ I3 hq) (fun fl s' hs => ?_) fun e s' hx => ?_
    · cases fl with
      | next => obtain ⟨_, _, _, q⟩ := hs; exact False.elim q
      | brk => obtain ⟨_, _, _, q⟩ := hs; exact False.elim q
      | cont => obtain ⟨_, _, _, q⟩ := hs; exact False.elim q
      | ret u => obtain ⟨_, _, _, _, _, q⟩ := hs; exact False.elim q
    · refine seg_wrap ?_
      rw [over_func]
      refine wpAny_mono (show wpAny (model P w) (Aw.deeper (envOfC qual scope s.heap.objs.size f cdv)) (leaving (envOfC qual scope s.heap.objs.size f cdv) e) (fun _ s'' => CX P w outer H s E e s'' ∧ ∀ p ∈ [(s1.heap.objs.size, go)], s''.heap.get? p.1 = some p.2) (fun _ _ => False) s' from hx) (fun _ s'' q => ?_) fun _ s'' q => q.elim
      exact seg_end (.error e) (.inr ⟨e, rfl, q.1, hgen _ (q.2 (s1.heap.objs.size, go) (List.mem_singleton.mpr rfl))⟩)
  exact main _ _ _ _ rfl rfl rfl fun h => Heap.get?_push_size _ rfl
/-- an expression whose value is a generator that raises when it is woken -/
abbrev TGr := L2.St → Hp → XK → Prop
structure PGenR (X : Cx) (k : Nat) (e : Expr) (tg : TGr) : Prop where
  run : ∀ (pins : List (Addr × Obj)) (s : Shared) (σ : L2.St) (H : Hp) (E : XK), Inv X pins σ H s → tg σ H E → wpAny (model X.prog X.w) X.A (eval e X.env)
    (fun u s' => ∃ H1 sc, Inv X pins σ H1 sc ∧ GRMade X.prog X.w k X.stack H1 sc E u s') X.xe s
def tForGR (K : PySem.W.Frag) (tg : TGr) (W : WX) : TS := fun D σ H => tg σ H fun cls d H' => PySem.W.subIn K cls (.type "StopIteration") = some false ∧ W cls d σ H'
theorem ps_forGR {X : Cx} {k : Nat} {tg iter : Expr} {body : List Stmt} {pos : Pos} {tr : TGr} {W : WX} (hp : PassesOwn (model X.prog X.w) X.A X.env X.xe) (hc : X.calm = true) (tkn : Takes X W) (h : PGenR X k iter tr) (hr : Room (k + 3) X.A)
    (hs : ∀ x, foldedSetIterable iter X.env x = pure x := by intro _; rfl) : PS X (.For tg iter body [] pos) (tForGR X.K tr W) := by
  refine ⟨fun pins s σ H D I hw => ?_⟩
  refine wpAny_For (thn (h.run pins s σ H _ I hw) fun v s1 h1 => ?_) hs
  obtain ⟨H1, sc, I1, a, g, c, rfl, ha1, ha2, hg, hgs, hos, hb, hl, hkp, wake⟩ := h1
  refine wpAny_pyIter_gen hg ?_
  refine codeAny_forLoop_any (fun n s' => s' = s1) (fun n s2 e => ?_) 0 rfl
  subst e
  refine wpAny_passesOwn hp ?_
  refine next_genG (P := X.prog) (w := X.w) (A := X.A) (F := fun _ _ _ => False) (Er := fun e s1' => CX X.prog X.w X.stack H1 sc (fun cls d H' => PySem.W.subIn X.K cls (.type "StopIteration") = some false ∧ W cls d σ H') e s1' ∧ s1'.heap.IsGen a g) (Y := fun _ _ _ _ _ => False) (n := 0) hr.hd hl (by have := hr.dp; omega) hg hgs ⟨rfl, ?_⟩ (fun _ _ _ _ q => q.elim) (fun _ q => q.elim) (fun e s₁ he => ?_)
  · refine wake _ _ ⟨hr.hd, ?_, ?_⟩ I1.ok.frames (fun b o e => e) hos (allBare_setGen hb rfl)
    · have := hr.dp
      show X.A.depth + 3 * k + 5 < _
      omega
    · have := hr.un
      show X.A.units + 1 + 16 * k + 200 < _
      omega
  · obtain ⟨hcx, hgen⟩ := he
    have kin : X.K.In s₁.heap := by
      obtain ⟨a', B, H', cls, d, _, fl, _, ub, _⟩ := id hcx
      refine I1.ok.mod.kin.keeps fun b o eb => fl.1 b o (ub.keep b o (I1.bs b o eb).1 (I1.bs b o eb).2 fun hm => ?_)
      rcases List.mem_cons.mp (I1.stkSub b hm) with z | z
      · have h1 := Heap.lt_size eb
        have h2 := Nat.le_trans I1.ok.bsz I1.ok.above
        rw [z] at h1
        exact absurd (Nat.lt_of_lt_of_le h1 h2) (Nat.lt_irrefl _)
      · exact I1.ok.nofr eb z
    refine ⟨hgen, notStop_of (fun cls d H' z => z.1) kin hcx, ?_⟩
    refine tkn e _ (XE.of_call I1 (E := fun cls d H' => PySem.W.subIn X.K cls (.type "StopIteration") = some false ∧ W cls d σ H') (fun _ _ _ h => h.2) ?_)
    obtain ⟨a', B, H', cls, d, z1, fl, z2, ub, z3, z4, z5, z6⟩ := hcx
    exact ⟨a', B, H', cls, d, z1, fl, z2, ub, z3, z4, allBare_setGen z5 rfl, z6⟩
end L2
namespace Pg
open PySem PySem.Spec PyProof.Rows L2
/-! ### generator methods that raise when they are woken -/
structure MGRAt (P : Program) (w : World) (K : PySem.W.Frag) (mg : Str → Option Value) (base : Heap) (C : Addr) (m qual : Str) (st : Stmt) (k : Nat) (ps : List Str) (sp : SpR) : Prop where
  ex : ∃ f fd, Meth K C m f ∧ Fun K m qual st f fd ∧ GRFn P w K mg base k f fd ps sp ∧ Binds K fd ps []
theorem MethAt.okGR {P : Program} {w : World} {K : PySem.W.Frag} {mg : Str → Option Value} {base : Heap} {C : Addr} {m qual : Str} {st b₀ : Stmt} {rest : List Stmt} {k : Nat} {ps N : List Str} {sp : SpR} (F : MethAt K C m qual st) (S : GScope N ps (defScope st)) (eb : defBody st = b₀ :: rest) (len : ∀ vs H E, sp vs H E → vs.length = ps.length)
    (hb : ∀ (kV doc pm : Value) (an : Option Addr) (cdv ct : Value) (us : List Value), us.length = ps.length → bindArgs (PySem.W.fnOf m qual (defArgs st) (defBody st) (defScope st) .none kV doc pm an cdv ct) ⟨us, []⟩ = pure (ps.zip us))
    (hbody : ∀ (f : Addr) (cdv : Value) (A : Around) (outer : List Env) (s : Shared) (H : Hp) (vs : List V) (E : XK) (pn : List (Addr × Obj)), Room k (A.deeper (envOfC qual (defScope st) s.heap.objs.size f cdv)) → sp vs H E →
      ∃ t, PS (gcxOf P w K mg base N qual (defScope st) f cdv A outer s H E pn) b₀ t ∧ t { nx := fun _ _ => False, rt := fun _ _ => False } (start N vs) H) : MGRAt P w K mg base C m qual st (k + 1) ps sp := by
  obtain ⟨f, fd, hm, F⟩ := F.ex
  refine ⟨f, fd, hm, F, ?_, F.binds hb⟩
  obtain ⟨oc, od, kV, doc, pm, an, cdv, ct, osl, rfl, lk, hcd⟩ := F.ex
  rw [eb] at lk ⊢
  exact grfn_of lk hcd S len fun A outer s H vs E pn hr h => hbody f cdv A outer s H vs E pn hr h
def GRunR (sp : SpR) (E : XK) : V → List V → Hp → Prop := fun x vs H2 => sp (x :: vs) H2 E
def tMethGR (C : Addr) (m : Str) (sp : SpR) (ta : TE) (t : TA) : TGr := fun σ H E => ta σ H (MethXE C m t (GRunR sp E) σ)
section
variable {X : Cx} {x y m qual : Str} {st : Stmt} {k i : Nat} {ps : List Str} {C : Addr} {e o : Expr} {es : List Expr} {t : TA} {ta : TE} {p p0 pos pos' apos : Pos}
theorem pgenR_meth {sp : SpR} {pl : Sem Bool} (he : PE X o ta) (T : Cls X.K C) (D : MGRAt X.prog X.w X.K X.mg X.base C m qual st k ps sp) (hr : Room k X.A) (ha : PA X (e :: es) t)
    (hst : starEach (e :: es) X.env = (false, eval e X.env) :: starEach es X.env := by rfl) (hpl : (backTo pos' (starEach es X.env)).any (·.1) = false := by rfl)
    (ht : eval (.Call (.Attribute o m apos) (e :: es) [] pos') X.env = (do
      let ov ← eval o X.env
      standAt apos.atName
      let (f, first) ← holding [ov] (getMethod ov m pl)
      callWith pos' f first (backTo pos' (starEach (e :: es) X.env)) (backToKw pos' (keywordEach [] X.env))) := by rfl) :
    PGenR X k (.Call (.Attribute o m apos) (e :: es) [] pos') (tMethGR C m sp ta t) := by
  obtain ⟨f, fd, hm, F, G, b⟩ := D.ex
  refine ⟨fun pins s σ H E I h => ?_⟩
  refine PySem.W.methodCall_KW (pl := pl) (thn (he.run pins s σ H _ I h) fun u s1 ⟨x, H1, I1, rx, a, dx, fs, ex, ea, l, q⟩ => ?_) ht
  subst ex
  obtain rfl : u = Value.ref a := rx
  refine getmeth_ok I1 ea T hm l ?_
  refine PySem.W.callWith_K (first := [.ref a]) (h₀ := X.base) I.ok.mod.kin hm.kp (thn (ha.run pos' pins s1 σ H1 _ I1 q) fun us s2 ⟨vs, H2, I2, r, q2⟩ => ⟨I2.kIn, ?_⟩) hst hpl
  have r2 : Vals (V.ref a :: vs) (Value.ref a :: us) := .cons rfl r
  refine wpAny_call (codeAny_mono (G.run X.A X.stack s2 H2 ⟨.ref a :: us, []⟩ (.ref a :: us) (.ref a :: vs) E hr I2.env0 (binds0 b r2 (G.len _ _ _ q2) I2.kIn) r2 q2) fun r s' hq => ?_)
  cases r with
  | error e => exact False.elim hq
  | ok fl =>
    cases fl with
    | ret u => exact ⟨H2, s2, I2, hq⟩
    | next => exact False.elim hq
    | brk => exact False.elim hq
    | cont => exact False.elim hq
theorem ps_forGRM {sp : SpR} {W : WX} {pl : Sem Bool} {tg : Expr} {body : List Stmt} (hp : PassesOwn (model X.prog X.w) X.A X.env X.xe) (hc : X.calm = true) (tkn : Takes X W) (he : PE X o ta) (T : Cls X.K C) (D : MGRAt X.prog X.w X.K X.mg X.base C m qual st k ps sp) (hr : Room (k + 3) X.A) (ha : PA X (e :: es) t)
    (hst : starEach (e :: es) X.env = (false, eval e X.env) :: starEach es X.env := by rfl) (hpl : (backTo pos' (starEach es X.env)).any (·.1) = false := by rfl)
    (ht : eval (.Call (.Attribute o m apos) (e :: es) [] pos') X.env = (do
      let ov ← eval o X.env
      standAt apos.atName
      let (f, first) ← holding [ov] (getMethod ov m pl)
      callWith pos' f first (backTo pos' (starEach (e :: es) X.env)) (backToKw pos' (keywordEach [] X.env))) := by rfl)
    (hs : ∀ x, foldedSetIterable (.Call (.Attribute o m apos) (e :: es) [] pos') X.env x = pure x := by intro _; rfl) :
    PS X (.For tg (.Call (.Attribute o m apos) (e :: es) [] pos') body [] pos) (tForGR X.K (tMethGR C m sp ta t) W) :=
  ps_forGR hp hc tkn (pgenR_meth he T D (hr.mono (by omega)) ha hst hpl ht) hr hs
theorem kc_forGR {K : PySem.W.Frag} {st : Stmt} {tg : TGr} {W : WX} (h : PS X st (tForGR X.K tg W)) (q : X.K = K) : PS X st (tForGR K tg W) := q ▸ h
/-! ### classmethods, classes held in a local -/
structure CMethAt (K : PySem.W.Frag) (C : Addr) (m qual : Str) (st : Stmt) : Prop where
  ex : ∃ p g fd mc, ClX.CRead K C mc ∧ ClX.CMet K C mc m p g ∧ Fun K m qual st g fd
structure CMDefAtX (P : Program) (w : World) (K : PySem.W.Frag) (mg : Str → Option Value) (base : Heap) (C : Addr) (m qual : Str) (st : Stmt) (k : Nat) (ps : List Str) (sp : Sp) : Prop where
  ex : ∃ p g fd mc, ClX.CRead K C mc ∧ ClX.CMet K C mc m p g ∧ Fun K m qual st g fd ∧ FnOk P w K mg base (L2.CX P w) k g fd ps sp ∧ Binds K fd ps []
theorem CMethAt.okX {P : Program} {w : World} {K : PySem.W.Frag} {mg : Str → Option Value} {base : Heap} {N : List Str} {sp : Sp} (F : CMethAt K C m qual st) (S : FnScope N ps (defScope st)) (len : ∀ vs H Q E, sp vs H Q E → vs.length = ps.length)
    (hb : ∀ (kV doc pm : Value) (an : Option Addr) (cdv ct : Value) (us : List Value), us.length = ps.length → bindArgs (PySem.W.fnOf m qual (defArgs st) (defBody st) (defScope st) .none kV doc pm an cdv ct) ⟨us, []⟩ = pure (ps.zip us))
    (hbody : ∀ (f : Addr) (cdv : Value) (A : Around) (outer : List Env) (s : Shared) (H : Hp) (vs : List V) (Q : VK) (E : XK), Room k (A.deeper (envOfC qual (defScope st) s.heap.objs.size f cdv)) → sp vs H Q E →
      ∃ t, PSs (cxOf (L2.CX P w) P w K mg base N qual (defScope st) f cdv A outer s H E) (defBody st) t ∧ t { nx := fun _ H' => Q .non H', rt := Q } (start N vs) H) : CMDefAtX P w K mg base C m qual st (k + 1) ps sp := by
  obtain ⟨p, g, fd, mc, h1, h2, F⟩ := F.ex
  exact ⟨p, g, fd, mc, h1, h2, F, F.okX S len (fun cdv A outer s H vs Q E hr h => hbody g cdv A outer s H vs Q E hr h), F.binds hb⟩
def CMetE (C : Addr) (t : TA) (R : V → List V → Hp → Prop) (σ : L2.St) : V → Hp → Prop := fun x H1 => x = .ref C ∧ t σ H1 (R (.ref C))
def tCMethX (C : Addr) (sp : Sp) (W : WX) (ta : TE) (t : TA) : TE := fun σ H Q => ta σ H (CMetE C t (MRunXE sp W σ Q) σ)
theorem pe_cmethX {sp : Sp} {W : WX} {pl : Sem Bool} (he : PE X o ta) (D : CMDefAtX X.prog X.w X.K X.mg X.base C m qual st k ps sp) (hr : Room k X.A) (tkn : Takes X W) (ha : PA X (e :: es) t)
    (hst : starEach (e :: es) X.env = (false, eval e X.env) :: starEach es X.env := by rfl) (hpl : (backTo pos (starEach es X.env)).any (·.1) = false := by rfl)
    (ht : eval (.Call (.Attribute o m apos) (e :: es) [] pos) X.env = (do
      let ov ← eval o X.env
      standAt apos.atName
      let (f, first) ← holding [ov] (getMethod ov m pl)
      callWith pos f first (backTo pos (starEach (e :: es) X.env)) (backToKw pos (keywordEach [] X.env))) := by rfl) :
    PE X (.Call (.Attribute o m apos) (e :: es) [] pos) (tCMethX C sp W ta t) := by
  obtain ⟨p, g, fd, mc, r, c, F, G, b⟩ := D.ex
  refine ⟨fun pins s σ H Q I h => ?_⟩
  refine PySem.W.methodCall_KW (pl := pl) (thn (he.run pins s σ H _ I h) fun u s1 ⟨x, H1, I1, rx, ex, q⟩ => ?_) ht
  subst ex
  obtain rfl : u = Value.ref C := rx
  refine ClX.getmethcm_ok I1 r c fun s2 I2 => ?_
  refine ClX.callwith_cm I2 (ClX.base_none I1 (Nat.le_refl _)) c.fi (thn (ha.run pos _ s2 σ H1 _ I2 q) fun us s3 ⟨vs, H2, I3, rv, q2⟩ => ⟨⟨ClX.pin_at I3, I3.kIn⟩, ?_⟩) hst hpl
  have r2 : Vals (V.ref C :: vs) (Value.ref C :: us) := .cons rfl rv
  have z : wpAny (model X.prog X.w) X.A (call (.ref s1.heap.objs.size) us) (EP X ((s1.heap.objs.size, PySem.W.methodObj (.ref g) (.ref C)) :: pins) σ Q) X.xe s3 := by
    refine wpAny_call (PySem.W.method_call (ClX.pin_at I3) (codeAny_mono (G.run X.A X.stack s3 H2 ⟨.ref C :: us, []⟩ (.ref C :: us) (.ref C :: vs) Q _ hr I3.env0 (binds0 b r2 (G.len _ _ _ _ q2) I3.kIn) r2 q2) fun q s' hq => ?_))
    cases q with
    | error e => exact (L2.passAt tkn σ) _ H2 s3 e s' I3 hq
    | ok fl =>
      cases fl with
      | ret u => exact I3.after hq
      | next => exact False.elim hq
      | brk => exact False.elim hq
      | cont => exact False.elim hq
  exact thn z fun _ _ y => ClX.unpinE y
def tMakeLX (i : Nat) (C : Addr) (sp : Sp) (W : WX) (t : TA) : TE := fun σ H Q => σ[i]? = some (some (.ref C)) ∧ tMakeX C sp W t σ H Q
theorem pe_makeLX {sp : Sp} {W : WX} (hv : PE X (.Name x p) (tVar i)) (T : ClsAt X.K X.mg y C) (D : MDefAtX X.prog X.w X.K X.mg X.base C "__init__" qual st k ps sp) (hr : Room (k + 1) X.A) (tkn : Takes X W) (ha : PA X (e :: es) t)
    (he : starEach (e :: es) X.env = (false, eval e X.env) :: starEach es X.env := by rfl) (hpl : (backTo pos (starEach es X.env)).any (·.1) = false := by rfl) :
    PE X (.Call (.Name x p) (e :: es) [] pos) (tMakeLX i C sp W t) := by
  obtain ⟨f, fd, hm, F, G, b⟩ := D.ex
  refine ⟨fun pins s σ H Q I h => ?_⟩
  obtain ⟨hs, h⟩ := h
  refine wpAny_Call_Name_kw (thn (hv.run pins s σ H (fun v H1 => v = .ref C ∧ H1 = H) I ⟨.ref C, hs, rfl, rfl⟩) fun u s1 ⟨v, H1, I1, r1, q1⟩ => ?_)
  obtain ⟨rfl, rfl⟩ := q1
  obtain rfl : u = Value.ref C := r1
  refine PySem.W.callWith_K (h₀ := X.base) I.ok.mod.kin T.kp (thn (ha.run pos pins s1 σ _ _ I1 h) fun us s2 ⟨vs, H2, I2, r, q⟩ => ⟨I2.kIn, ?_⟩) he hpl
  refine run_makeAt (us := us) ⟨T.mks, hm.at_, hm.fn, T.kp⟩ G hr (L2.passAt tkn σ) I2 (fun s' a hl hk => ?_) r q
  have r2 : Vals (V.ref a :: vs) (Value.ref a :: us) := .cons rfl r
  exact binds0 b r2 hl hk
end
section
variable {D : Ends} {σ : L2.St} {H : Hp} {K : PySem.W.Frag} {sp : Sp} {sr : SpR} {W : WX} {E : XK} {Q : VK} {C a : Addr} {m : Str} {i : Nat} {ta : TE} {t : TA} {tg : TGr} {y : V}
theorem w_forGR (h : tg σ H fun cls d H' => PySem.W.subIn K cls (.type "StopIteration") = some false ∧ W cls d σ H') : tForGR K tg W D σ H := h
theorem w_methGR (h : ta σ H (MethXE C m t (GRunR sr E) σ)) : tMethGR C m sr ta t σ H E := h
theorem w_grunR {vs : List V} (h : sr (y :: vs) H E) : GRunR sr E y vs H := h
theorem w_cmetX (h : ta σ H (CMetE C t (MRunXE sp W σ Q) σ)) : tCMethX C sp W ta t σ H Q := h
theorem w_cmetE {R : V → List V → Hp → Prop} (h : t σ H (R (.ref C))) : CMetE C t R σ (.ref C) H := ⟨rfl, h⟩
theorem w_makeLX (e : σ[i]? = some (some (.ref C))) (h : tMakeX C sp W t σ H Q) : tMakeLX i C sp W t σ H Q := ⟨e, h⟩
end
end Pg


/-! generators that sleep while other code runs: their states stay -/
namespace GenW
open PySem
open Sem (wp)
theorem no_runs {M : Model} {u : String} : ∀ {Γ : Ctx} {p : Pos} {fs : List Frame} {s s' : Shared} {e : End}, ¬ Runs M Γ p (.unsupported u) fs s e s' := by
  intro Γ p fs s s' e h
  generalize ht : (Sem.unsupported u : Sem PySem.Fin) = t at h
  induction h <;> cases ht <;> exact (by assumption : (Sem.unsupported u : Sem PySem.Fin) = Sem.unsupported u → False) rfl
def Susp : GenState → Bool
  | .suspended .. => true
  | _ => false
def stFrame (F : Frame) : Frame := .ret (fun _ => .unsupported "") none false [] F.where_.1 F.where_.2 []
/-- seen alike, but nobody can wake it -/
def stuck : GenState → GenState
  | .suspended _ l c p fs cl => .suspended (fun _ => .unsupported "") l c p (fs.map stFrame) cl
  | y => y
theorem st_where (F : Frame) : (stFrame F).where_ = F.where_ := rfl
theorem stuck_seen (y : GenState) : (stuck y).seen = y.seen := by
  cases y with
  | suspended k l c p fs cl =>
    show (GenStatus.suspended, some ((c, p) :: (fs.map stFrame).map Frame.where_)) = (GenStatus.suspended, some ((c, p) :: fs.map Frame.where_))
    rw [List.map_map]
    rfl
  | _ => rfl
theorem stuck_bare (y : GenState) : (stuck y).bare = y.bare := by cases y <;> rfl
theorem split_st : ∀ fs : List Frame, splitAtGen (fs.map stFrame) = none
  | [] => rfl
  | F :: fs => by
    show (splitAtGen (fs.map stFrame)).map _ = none
    rw [split_st fs]
    rfl
def pick (G : Array GenState) (i : Nat) (x : GenState) : GenState := match G[i]? with
  | some y => if Susp y = true then y else x
  | none => x
def mer (G W : Array GenState) : Array GenState := W.mapIdx (pick G)
def un (G : Array GenState) (s : Shared) : Shared := { s with gens := mer G s.gens }
structure Slp (G : Array GenState) (s : Shared) : Prop where
  sz : G.size ≤ s.gens.size
  old : ∀ (i : Nat) (y : GenState), G[i]? = some y → Susp y = true → s.gens[i]? = some (stuck y)
  fr : ∀ (i : Nat) k l c p fs cl, s.gens[i]? = some (.suspended k l c p fs cl) → splitAtGen fs = none
theorem mer_at {G W : Array GenState} {i : Nat} : (mer G W)[i]? = (W[i]?).map (pick G i) := by
  unfold mer
  rw [Array.getElem?_mapIdx]
theorem mer_size {G W : Array GenState} : (mer G W).size = W.size := by simp [mer]
theorem pick_new {G : Array GenState} {i : Nat} {x : GenState} (h : G.size ≤ i) : pick G i x = x := by
  unfold pick
  rw [Array.getElem?_eq_none h]
theorem mer_push {G W : Array GenState} {x : GenState} (h : G.size ≤ W.size) : mer G (W.push x) = (mer G W).push x := by
  apply Array.ext_getElem?
  intro i
  rw [mer_at, Array.getElem?_push, Array.getElem?_push, mer_at, mer_size]
  by_cases hi : i = W.size
  · rw [if_pos hi, if_pos hi, hi]
    show some (pick G W.size x) = some x
    rw [pick_new h]
  · rw [if_neg hi, if_neg hi]
theorem pick_no {G : Array GenState} {i : Nat} {x : GenState} (h : ∀ y, G[i]? = some y → Susp y = true → False) : pick G i x = x := by
  unfold pick
  split
  · rename_i y e
    rw [if_neg (fun z => h y e z)]
  · rfl
theorem mer_set {G W : Array GenState} {g : Nat} {x : GenState} (h : ∀ y, G[g]? = some y → Susp y = true → False) : mer G (W.setIfInBounds g x) = (mer G W).setIfInBounds g x := by
  apply Array.ext_getElem?
  intro i
  rw [mer_at, Array.getElem?_setIfInBounds, Array.getElem?_setIfInBounds, mer_at, mer_size]
  by_cases hi : g = i
  · subst hi
    rw [if_pos rfl, if_pos rfl]
    split
    · show some (pick G g x) = some x
      rw [pick_no h]
    · rfl
  · rw [if_neg hi, if_neg hi]
theorem un_set {G : Array GenState} {s : Shared} {g : Nat} {x : GenState} (h : ∀ y, G[g]? = some y → Susp y = true → False) : un G (s.setGen g x) = (un G s).setGen g x := by
  unfold un Shared.setGen
  rw [mer_set h]
theorem Slp.set {G : Array GenState} {s : Shared} {g : Nat} {x : GenState} (S : Slp G s) (h : ∀ y, G[g]? = some y → Susp y = true → False) (hx : ∀ k l c p fs cl, x = .suspended k l c p fs cl → splitAtGen fs = none) : Slp G (s.setGen g x) := by
  refine ⟨by rw [setGen_size]; exact S.sz, fun i y e z => ?_, fun i k l c p fs cl e => ?_⟩
  · show (s.gens.setIfInBounds g x)[i]? = _
    rw [Array.getElem?_setIfInBounds_ne (fun w => by subst w; exact h y e z)]
    exact S.old i y e z
  · have e : (s.gens.setIfInBounds g x)[i]? = some (.suspended k l c p fs cl) := e
    rw [Array.getElem?_setIfInBounds] at e
    split at e
    · split at e
      · exact hx k l c p fs cl (Option.some.inj e)
      · cases e
    · exact S.fr i k l c p fs cl e
theorem Slp.free {G : Array GenState} {s : Shared} {g : Nat} {x : GenState} (S : Slp G s) (e : s.gens[g]? = some x) (n : Susp x = false) : ∀ y, G[g]? = some y → Susp y = true → False := fun y e2 z => by
  have := S.old g y e2 z
  rw [e] at this
  cases this
  cases y with
  | suspended k l c p fs cl =>
    have n' : true = false := n
    cases n'
  | _ => cases z
theorem un_at {G : Array GenState} {s : Shared} {g : Nat} {x : GenState} (h : ∀ y, G[g]? = some y → Susp y = true → False) (e : s.gens[g]? = some x) : (un G s).gens[g]? = some x := by
  show (mer G s.gens)[g]? = some x
  rw [mer_at, e]
  show some (pick G g x) = some x
  rw [pick_no h]
/-- the state that is woken is none of those that sleep -/
theorem Slp.woken {M : Model} {Γ : Ctx} {p p₀ : Pos} {G : Array GenState} {s s₁ : Shared} {g : Nat} {k₀ : Resume → Sem PySem.Fin} {l₀ : List Value} {c₀ : Code} {fs : List Frame} {cl : Bool} {r : Resume} {e₁ : End} {sx : Shared} (S : Slp G s) (e : s.gens[g]? = some (.suspended k₀ l₀ c₀ p₀ fs cl))
    (h : Runs M Γ p (k₀ r) fs sx e₁ s₁) : ∀ y, G[g]? = some y → Susp y = true → False := fun y e2 z => by
  have := S.old g y e2 z
  rw [e] at this
  cases y with
  | suspended k l c p fs cl =>
    have e3 := Option.some.inj this
    unfold stuck at e3
    cases e3
    exact no_runs h
  | _ => cases z
def End.plain : End → Prop
  | .ret _ => True
  | .susp _ _ _ _ _ _ fs => splitAtGen fs = none
theorem plain_state {e : End} (h : End.plain e) : ∀ k l c p fs cl, e.genState = .suspended k l c p fs cl → splitAtGen fs = none := by
  cases e with
  | ret r => intro k l c p fs cl z; cases z
  | susp v g l k c p fs => intro k' l' c' p' fs' cl z; cases z; exact h
theorem split_app : ∀ {a b : List Frame}, splitAtGen a = none → splitAtGen b = none → splitAtGen (a ++ b) = none
  | [], b, _, h => h
  | .ret k h' g l c p kp :: a, b, ha, hb => by
    have ha' : splitAtGen a = none := by
      have : (splitAtGen a).map _ = none := ha
      exact Option.map_eq_none_iff.mp this
    show (splitAtGen (a ++ b)).map _ = none
    rw [split_app ha' hb]
    rfl
  | .gen .. :: a, b, ha, hb => by cases ha
theorem split_tail {F : Frame} {fs : List Frame} (h : splitAtGen (F :: fs) = none) : splitAtGen fs = none := by
  cases F with
  | ret k h' g l c p kp =>
    have : (splitAtGen fs).map _ = none := h
    exact Option.map_eq_none_iff.mp this
  | gen => cases h
theorem Slp.seen {G : Array GenState} {s : Shared} {g : Nat} {st : GenState} (S : Slp G s) (hg : s.gens[g]? = some st) : (pick G g st).seen = st.seen := by
  unfold pick
  split
  · rename_i y e2
    split
    · rename_i z
      have := S.old g y e2 z
      rw [hg] at this
      rw [Option.some.inj this, stuck_seen]
    · rfl
  · rfl
theorem un_get {G : Array GenState} {s : Shared} {g : Nat} {st : GenState} (hg : s.gens[g]? = some st) : (un G s).gens[g]? = some (pick G g st) := by
  show (mer G s.gens)[g]? = _
  rw [mer_at, hg]
  rfl
theorem un_size {G : Array GenState} {s : Shared} : (un G s).gens.size = s.gens.size := mer_size
theorem Slp.push {G : Array GenState} {s : Shared} {c : Code} (S : Slp G s) : Slp G { s with gens := s.gens.push (.fresh c) } := by
  refine ⟨by show G.size ≤ (s.gens.push _).size; rw [Array.size_push]; have := S.sz; omega, fun i y e z => ?_, fun i k l c p fs cl e => ?_⟩
  · show (s.gens.push _)[i]? = _
    have h1 := (Array.getElem?_eq_some_iff.mp (S.old i y e z)).1
    rw [Array.getElem?_push, if_neg (by omega)]
    exact S.old i y e z
  · have e : (s.gens.push _)[i]? = _ := e
    rw [Array.getElem?_push] at e
    split at e
    · cases e
    · exact S.fr i k l c p fs cl e
theorem un_push {G : Array GenState} {s : Shared} {c : Code} (S : Slp G s) : un G { s with gens := s.gens.push (.fresh c) } = { un G s with gens := (un G s).gens.push (.fresh c) } := by
  unfold un
  show ({ s with gens := mer G (s.gens.push (.fresh c)) } : Shared) = _
  rw [mer_push S.sz]
theorem runs_mer {M : Model} {G : Array GenState} {Γ : Ctx} {p : Pos} {t : Sem PySem.Fin} {fs : List Frame} {s s' : Shared} {e : End} (h : Runs M Γ p t fs s e s') : splitAtGen fs = none → Slp G s → Slp G s' ∧ End.plain e ∧ Runs M Γ p t fs (un G s) e (un G s') := by
  induction h with
  | done => exact fun _ S => ⟨S, trivial, .done⟩
  | raise => exact fun _ S => ⟨S, trivial, .raise⟩
  | again hq _ ih => exact fun f S => let ⟨a, b, c⟩ := ih rfl S; ⟨a, b, .again hq c⟩
  | rule _ ih => exact fun f S => let ⟨a, b, c⟩ := ih rfl S; ⟨a, b, .rule c⟩
  | «at» _ ih => exact fun f S => let ⟨a, b, c⟩ := ih rfl S; ⟨a, b, .at c⟩
  | load ho _ ih => exact fun f S => let ⟨a, b, c⟩ := ih rfl S; ⟨a, b, .load ho c⟩
  | update ho _ ih => exact fun f S => let ⟨a, b, c⟩ := ih rfl ⟨S.sz, S.old, S.fr⟩; ⟨a, b, .update ho c⟩
  | loadIfAlive _ ih => exact fun f S => let ⟨a, b, c⟩ := ih rfl S; ⟨a, b, .loadIfAlive c⟩
  | point _ ih => exact fun f S => let ⟨a, b, c⟩ := ih rfl S; ⟨a, b, .point c⟩
  | alloc _ ih => exact fun f S => let ⟨a, b, c⟩ := ih rfl ⟨S.sz, S.old, S.fr⟩; ⟨a, b, .alloc c⟩
  | fresh _ ih => exact fun f S => let ⟨a, b, c⟩ := ih rfl ⟨S.sz, S.old, S.fr⟩; ⟨a, b, .fresh c⟩
  | ask _ ih => exact fun f S => let ⟨a, b, c⟩ := ih rfl S; ⟨a, b, .ask c⟩
  | choose hn _ ih => exact fun f S => let ⟨a, b, c⟩ := ih rfl ⟨S.sz, S.old, S.fr⟩; ⟨a, b, .choose hn c⟩
  | os _ ih => exact fun f S => let ⟨a, b, c⟩ := ih rfl ⟨S.sz, S.old, S.fr⟩; ⟨a, b, .os c⟩
  | handled _ ih => exact fun f S => let ⟨a, b, c⟩ := ih rfl S; ⟨a, b, .handled c⟩
  | genState hg _ ih =>
    intro f S
    obtain ⟨a, b, c⟩ := ih rfl S
    exact ⟨a, b, .genState (un_get hg) (by rw [S.seen hg]; exact c)⟩
  | stack _ ih => exact fun f S => let ⟨a, b, c⟩ := ih rfl S; ⟨a, b, .stack c⟩
  | thread _ ih => exact fun f S => let ⟨a, b, c⟩ := ih rfl S; ⟨a, b, .thread c⟩
  | newGen _ ih =>
    intro f S
    obtain ⟨a, b, d⟩ := ih rfl S.push
    rw [un_push S] at d
    exact ⟨a, b, .newGen (by rw [un_size]; exact d)⟩
  | call _ _ ih1 ih2 => exact fun f S => let ⟨a, _, c⟩ := ih1 rfl S; let ⟨a2, b2, c2⟩ := ih2 rfl a; ⟨a2, b2, .call c c2⟩
  | callSusp _ ih => exact fun f S => let ⟨a, b, c⟩ := ih rfl S; ⟨a, split_app b rfl, .callSusp c⟩
  | yield => exact fun _ S => ⟨S, rfl, .yield⟩
  | resumeFresh hg _ hq _ ih1 ih2 =>
    intro f S
    have nf := S.free hg rfl
    obtain ⟨a, b, c⟩ := ih1 rfl (S.set nf (fun _ _ _ _ _ _ z => by cases z))
    obtain ⟨a2, b2, c2⟩ := ih2 rfl (a.set nf (plain_state b))
    rw [un_set nf] at c c2
    exact ⟨a2, b2, .resumeFresh (un_at nf hg) c hq c2⟩
  | resumeSuspended hg hr hq _ ih1 ih2 =>
    intro f S
    have nf := S.woken hg hr
    obtain ⟨a, b, c⟩ := ih1 (S.fr _ _ _ _ _ _ _ hg) (S.set nf (fun _ _ _ _ _ _ z => by cases z))
    obtain ⟨a2, b2, c2⟩ := ih2 rfl (a.set nf (plain_state b))
    rw [un_set nf] at c c2
    exact ⟨a2, b2, .resumeSuspended (un_at nf hg) c hq c2⟩
  | resumeJustStarted hg hv _ ih =>
    intro f S
    obtain ⟨a, b, c⟩ := ih rfl S
    exact ⟨a, b, .resumeJustStarted (un_at (S.free hg rfl) hg) hv c⟩
  | resumeThrowFresh hg _ ih =>
    intro f S
    have nf := S.free hg rfl
    obtain ⟨a, b, c⟩ := ih rfl (S.set nf (fun _ _ _ _ _ _ z => by cases z))
    rw [un_set nf] at c
    exact ⟨a, b, .resumeThrowFresh (un_at nf hg) c⟩
  | resumeRunning hg _ ih =>
    intro f S
    obtain ⟨a, b, c⟩ := ih rfl S
    exact ⟨a, b, .resumeRunning (un_at (S.free hg rfl) hg) c⟩
  | resumeFinished hg _ ih =>
    intro f S
    obtain ⟨a, b, c⟩ := ih rfl S
    exact ⟨a, b, .resumeFinished (un_at (S.free hg rfl) hg) c⟩
  | segRet _ _ ih1 ih2 =>
    intro f S
    obtain ⟨a, b, c⟩ := ih1 rfl S
    obtain ⟨a2, b2, c2⟩ := ih2 (split_tail f) a
    exact ⟨a2, b2, .segRet c c2⟩
  | segGen _ _ _ _ => exact fun f S => by cases f
  | segSuspOut hf _ ih =>
    intro f S
    obtain ⟨a, b, c⟩ := ih rfl S
    exact ⟨a, split_app b hf, .segSuspOut hf c⟩
  | segSuspGen hf _ _ _ _ _ => exact fun f S => by rw [hf] at f; cases f
theorem wakes_mer {M : Model} {G : Array GenState} {Γ : Ctx} {p : Pos} {g : Nat} {r : Resume} {s s' : Shared} {res : GenResult} (h : Wakes M Γ p g r s res s') (S : Slp G s) : Slp G s' ∧ Wakes M Γ p g r (un G s) res (un G s') := by
  unfold Wakes at h
  split at h
  · exact h.elim
  · rename_i c hg
    have nf := S.free hg rfl
    have hg' := un_at nf hg
    split at h
    · obtain ⟨e₁, s₁, hr, hq, rfl, rfl⟩ := h
      obtain ⟨a, b, d⟩ := runs_mer hr rfl (S.set nf (fun _ _ _ _ _ _ z => by cases z))
      rw [un_set nf] at d
      refine ⟨a.set nf (plain_state b), ?_⟩
      unfold Wakes
      rw [hg']
      exact ⟨e₁, _, d, hq, rfl, un_set nf⟩
    · rename_i hv
      obtain ⟨rfl, rfl⟩ := h
      refine ⟨S, ?_⟩
      unfold Wakes
      rw [hg']
      dsimp only
      split
      · rename_i z
        injection z with z
        exact absurd z hv
      · exact ⟨rfl, rfl⟩
      · rename_i z
        cases z
    · obtain ⟨rfl, rfl⟩ := h
      refine ⟨S.set nf (fun _ _ _ _ _ _ z => by cases z), ?_⟩
      unfold Wakes
      rw [hg']
      exact ⟨rfl, un_set nf⟩
  · rename_i hg
    obtain ⟨e₁, s₁, hr, hq, rfl, rfl⟩ := h
    have nf := S.woken hg hr
    obtain ⟨a, b, d⟩ := runs_mer hr (S.fr _ _ _ _ _ _ _ hg) (S.set nf (fun _ _ _ _ _ _ z => by cases z))
    rw [un_set nf] at d
    refine ⟨a.set nf (plain_state b), ?_⟩
    unfold Wakes
    rw [un_at nf hg]
    exact ⟨e₁, _, d, hq, rfl, un_set nf⟩
  · rename_i hg
    obtain ⟨rfl, rfl⟩ := h
    refine ⟨S, ?_⟩
    unfold Wakes
    rw [un_at (S.free hg rfl) hg]
    exact ⟨rfl, rfl⟩
  · rename_i hg
    obtain ⟨rfl, rfl⟩ := h
    refine ⟨S, ?_⟩
    unfold Wakes
    rw [un_at (S.free hg rfl) hg]
    exact ⟨rfl, rfl⟩
def Over {α : Type} (G : Array GenState) (Q : α → Pos → Shared → Prop) : α → Pos → Shared → Prop := fun a p s' => ∃ s1, Slp G s1 ∧ s' = un G s1 ∧ Q a p s1
theorem Slp.of {G : Array GenState} {s s' : Shared} (S : Slp G s) (h : s'.gens = s.gens) : Slp G s' := by
  obtain ⟨a, b, c⟩ := S
  exact ⟨by rw [h]; exact a, by rw [h]; exact b, by rw [h]; exact c⟩
theorem wp_mer {α : Type} {M : Model} {Γ : Ctx} {G : Array GenState} (t : Sem α) : ∀ (Q : α → Pos → Shared → Prop) (E : Value → Pos → Shared → Prop) (p : Pos) (s : Shared), Slp G s → wp M Γ t Q E p s → wp M Γ t (Over G Q) (Over G E) p (un G s) := by
  induction t with
  | pure a => intro Q E p s S h; exact ⟨s, S, rfl, h⟩
  | raise e => intro Q E p s S h; exact ⟨s, S, rfl, h⟩
  | unsupported _ => intro Q E p s _ h; exact h
  | finish _ => intro Q E p s _ h; exact h
  | rule _ k ih => intro Q E p s S h; exact ih () Q E p s S h
  | «at» p' k ih => intro Q E p s S h; exact ih () Q E p' s S h
  | load a _ k ih => intro Q E p s S h; obtain ⟨o, ho, h⟩ := h; exact ⟨o, ho, ih o Q E p s S h⟩
  | update a _ f k ih => intro Q E p s S h; exact ⟨h.1, ih () Q E p { s with heap := s.heap.update a f } (S.of rfl) h.2⟩
  | loadIfAlive a k ih => intro Q E p s S h; exact ih _ Q E p s S h
  | point _ k ih => intro Q E p s S h; exact ih () Q E p s S h
  | register _ _ => intro Q E p s _ h; exact h
  | alloc o k ih => intro Q E p s S h; exact ih s.heap.objs.size Q E p { s with heap := s.heap.push o } (S.of rfl) h
  | fresh k ih => intro Q E p s S h; exact ih s.toks Q E p { s with toks := s.toks + 1 } (S.of rfl) h
  | ask k ih => intro Q E p s S h; exact ih _ Q E p s S h
  | choose src m k ih => intro Q E p s S h; exact ⟨h.1, ih (M.w.draws src (s.drawn.get src) % m) Q E p { s with drawn := s.drawn.bump src } (S.of rfl) h.2⟩
  | os q _ k ih => intro Q E p s S h; exact ih (Os.step s.os q).2 Q E p { s with os := (Os.step s.os q).1 } (S.of rfl) h
  | call c hd _ _ k ih =>
    intro Q E p s S h
    obtain ⟨r, s', hr, h⟩ := h
    obtain ⟨a, _, d⟩ := runs_mer hr rfl S
    exact ⟨r, _, d, ih r Q E p s' a h⟩
  | handled own k ih => intro Q E p s S h; exact ih _ Q E p s S h
  | genState g k ih =>
    intro Q E p s S h
    obtain ⟨st, hg, h⟩ := h
    exact ⟨_, un_get hg, by rw [S.seen hg]; exact ih _ Q E p s S h⟩
  | newGen c k ih =>
    intro Q E p s S h
    have d := ih _ Q E p _ S.push h
    rw [un_push S] at d
    show wp M Γ (k (un G s).gens.size) (Over G Q) (Over G E) p { un G s with gens := (un G s).gens.push (.fresh c) }
    rw [un_size]
    exact d
  | resume g r _ k ih =>
    intro Q E p s S h
    obtain ⟨res, s', hw, h⟩ := h
    obtain ⟨a, d⟩ := wakes_mer hw S
    exact ⟨res, _, d, ih res Q E p s' a h⟩
  | yield _ _ _ _ => intro Q E p s _ h; exact h
  | stack k ih => intro Q E p s S h; exact ih _ Q E p s S h
  | fork _ _ => intro Q E p s _ h; exact h
  | thread k ih => intro Q E p s S h; exact ih _ Q E p s S h
  | await _ _ _ _ _ => intro Q E p s _ h; exact h
/-- all that are suspended sleep fast -/
def deep (s : Shared) : Shared := { s with gens := s.gens.map stuck }
theorem deep_slp (s : Shared) : Slp s.gens (deep s) := by
  refine ⟨by show s.gens.size ≤ (s.gens.map stuck).size; rw [Array.size_map]; exact Nat.le_refl _, fun i y e _ => ?_, fun i k l c p fs cl e => ?_⟩
  · show (s.gens.map stuck)[i]? = _
    rw [Array.getElem?_map, e]
    rfl
  · have e : (s.gens.map stuck)[i]? = _ := e
    rw [Array.getElem?_map] at e
    obtain ⟨y, _, e2⟩ := Option.map_eq_some_iff.mp e
    cases y with
    | suspended k' l' c' p' fs' cl' =>
      unfold stuck at e2
      cases e2
      exact split_st fs'
    | _ => cases e2
theorem un_deep (s : Shared) : un s.gens (deep s) = s := by
  have : mer s.gens (s.gens.map stuck) = s.gens := by
    apply Array.ext_getElem?
    intro i
    rw [mer_at, Array.getElem?_map]
    cases e : s.gens[i]? with
    | none => rfl
    | some y =>
      show some (pick s.gens i (stuck y)) = some y
      unfold pick
      rw [e]
      cases y <;> rfl
  show ({ s with gens := mer s.gens (s.gens.map stuck) } : Shared) = s
  rw [this]
/-- what sleeps stays as it is -/
def Stays (s s' : Shared) : Prop := ∀ (g : Nat) (y : GenState), s.gens[g]? = some y → Susp y = true → s'.gens[g]? = some y
theorem Stays.refl (s : Shared) : Stays s s := fun _ _ e _ => e
theorem Stays.trans {a b c : Shared} (h : Stays a b) (k : Stays b c) : Stays a c := fun g y e z => k g y (h g y e z) z
/-- s' is one of the states that Q speaks of, but for what sleeps -/
def Woke (s : Shared) (Q : Shared → Prop) (s' : Shared) : Prop := Stays s s' ∧ ∃ G, Q { s' with gens := G } ∧ (PyProof.Rows.AllBare s.gens → PyProof.Rows.AllBare G → PyProof.Rows.AllBare s'.gens)
theorem bare_deep {s : Shared} (h : PyProof.Rows.AllBare s.gens) : PyProof.Rows.AllBare (deep s).gens := fun y hy => by
  obtain ⟨z, hz, rfl⟩ := Array.mem_map.mp (show y ∈ s.gens.map stuck from hy)
  rw [stuck_bare]
  exact h z hz
theorem wpAny_deep {α : Type} {M : Model} {A : Around} {t : Sem α} {Q : α → Shared → Prop} {E : Value → Shared → Prop} {s : Shared} (h : wpAny M A t Q E (deep s)) :
    wpAny M A t (fun a s' => Woke s (Q a) s') (fun e s' => Woke s (E e) s') s := by
  have go : ∀ {φ : Shared → Prop} {s1 : Shared}, Slp s.gens s1 → φ s1 → Woke s φ (un s.gens s1) := fun {φ s1} S hq => by
    refine ⟨fun g y e z => ?_, s1.gens, hq, fun hb hG y hy => ?_⟩
    · show (mer s.gens s1.gens)[g]? = _
      rw [mer_at, S.old g y e z]
      show some (pick s.gens g (stuck y)) = _
      unfold pick
      rw [e]
      show some (if Susp y = true then y else stuck y) = some y
      rw [if_pos z]
    · obtain ⟨i, hi⟩ := Array.mem_iff_getElem?.mp (show y ∈ mer s.gens s1.gens from hy)
      rw [mer_at] at hi
      obtain ⟨x, hx, e⟩ := Option.map_eq_some_iff.mp hi
      unfold pick at e
      split at e
      · rename_i z ez
        split at e
        · rw [← e]; exact hb z (Array.mem_of_getElem? ez)
        · rw [← e]; exact hG x (Array.mem_of_getElem? hx)
      · rw [← e]; exact hG x (Array.mem_of_getElem? hx)
  intro Γ p hΓ
  have h2 := wp_mer t _ _ p (deep s) (deep_slp s) (h Γ p hΓ)
  rw [un_deep] at h2
  exact Sem.wp_mono M Γ t (fun a _ s' ⟨s1, S, e, q⟩ => by rw [e]; exact go S q) (fun a _ s' ⟨s1, S, e, q⟩ => by rw [e]; exact go S q) p s h2
end GenW

/-! generators whose consumer does other things between their turns: contexts that begin anew at each turn -/
namespace L2
open PySem PySem.Spec PyProof.Rows GenW
/-- the heap below an address -/
def cutH (L : Nat) (h : Heap) : Heap := ⟨h.objs.extract 0 L, h.life⟩
theorem cutH_get {L b : Nat} {h : Heap} : (cutH L h).get? b = if b < L then h.get? b else none := by
  have e : (h.objs.extract 0 L)[b]? = if b < L then h.objs[b]? else none := by
    by_cases hb : b < L
    · rw [if_pos hb]
      by_cases hs : b < h.objs.size
      · rw [Array.getElem?_extract, if_pos (by omega), Nat.zero_add]
      · rw [Array.getElem?_eq_none (by rw [Array.size_extract]; omega), Array.getElem?_eq_none (by omega)]
    · rw [if_neg hb, Array.getElem?_eq_none (by rw [Array.size_extract]; omega)]
  unfold Heap.get? cutH
  dsimp only
  rw [e]
  by_cases hb : b < L
  · rw [if_pos hb, if_pos hb]
  · rw [if_neg hb, if_neg hb]
theorem cutH_of {L : Nat} {h : Heap} {b : Addr} {o : Obj} (e : (cutH L h).get? b = some o) : b < L ∧ h.get? b = some o := by
  rw [cutH_get] at e
  split at e
  · rename_i hb
    exact ⟨hb, e⟩
  · cases e
theorem cutH_in {L : Nat} {h : Heap} {b : Addr} {o : Obj} (hb : b < L) (e : h.get? b = some o) : (cutH L h).get? b = some o := by
  rw [cutH_get, if_pos hb]
  exact e
theorem cutH_size {L : Nat} {h : Heap} : (cutH L h).objs.size ≤ L := by
  show (h.objs.extract 0 L).size ≤ L
  rw [Array.size_extract]
  omega
theorem cutH_big {L : Nat} {h : Heap} {n : Nat} (h1 : n ≤ L) (h2 : n ≤ h.objs.size) : n ≤ (cutH L h).objs.size := by
  show n ≤ (h.objs.extract 0 L).size
  rw [Array.size_extract]
  omega
theorem funs_cut {L : Nat} {base h : Heap} : ∀ {l : List Env}, (∀ b ∈ frs l, b < L) → h.FunFrames base l → (cutH L h).FunFrames base l
  | [], _, _ => trivial
  | env :: r, hl, ⟨hk, ⟨L', o, hf, hn, ho, hd⟩, hr⟩ => by
    have h1 : L' < L := hl L' (by unfold frs; rw [List.filterMap_cons, hf]; exact List.mem_cons_self)
    exact ⟨hk, ⟨L', o, hf, hn, cutH_in h1 ho, hd⟩, funs_cut (fun b hb => hl b (by unfold frs; rw [List.filterMap_cons, hf]; exact List.mem_cons_of_mem _ hb)) hr⟩
theorem frs_lt {base h : Heap} {l : List Env} (x : h.FunFrames base l) : ∀ b ∈ frs l, b < h.objs.size := fun b hb => by
  obtain ⟨_, o, ho, _⟩ := x.mem hb
  exact Heap.lt_size ho
/-- what a consumer does with each turn: at most n turns more than the first; ok: where a turn may begin; yd: what is handed out; rt: the end -/
structure GPost where
  n : Nat
  ok : Nat → Hp → Prop
  yd : Nat → V → Hp → Hp → Prop
  rt : Nat → Hp → Hp → Prop
abbrev SpN := List V → Hp → GPost → Prop
/-- where a turn begins: the state, and what must stay although it lies above the cut -/
structure NTurn extends Shared where
  pn : List (Addr × Obj)
instance : Coe NTurn Shared := ⟨NTurn.toShared⟩
/-- the context of one turn: it began at s, H -/
def ncxOf (P : Program) (w : World) (K : PySem.W.Frag) (mg : Str → Option Value) (base : Heap) (N : List Str) (qual : Str) (scope : Scope) (f : Addr) (cd : Value) (A : Around) (outer : List Env) (L : Addr) (s : NTurn) (H : Hp) : Cx where
  prog := P
  w := w
  K := K
  mg := mg
  base := base
  A := A.deeper (envOfC qual scope L f cd)
  N := N
  s_0 := { s.toShared with heap := cutH L s.heap }
  H_0 := H
  env := envOfC qual scope L f cd
  outer := outer
  stack := envOfC qual scope L f cd :: outer
  ex := []
  calm := true
  fn := fun _ => true
  pn := s.pn
  xe := fun _ _ => False
theorem owns_ncx {P : Program} {w : World} {K : PySem.W.Frag} {mg : Str → Option Value} {base : Heap} {N : List Str} {qual : Str} {scope : Scope} {f : Addr} {cd : Value} {A : Around} {outer : List Env} {L : Addr} {s : NTurn} {H : Hp} :
    PassesOwn (model P w) (ncxOf P w K mg base N qual scope f cd A outer L s H).A (ncxOf P w K mg base N qual scope f cd A outer L s H).env (ncxOf P w K mg base N qual scope f cd A outer L s H).xe := fun _ _ h => h.elim
theorem takes_ncx {P : Program} {w : World} {K : PySem.W.Frag} {mg : Str → Option Value} {base : Heap} {N : List Str} {qual : Str} {scope : Scope} {f : Addr} {cd : Value} {A : Around} {outer : List Env} {L : Addr} {s : NTurn} {H : Hp} :
    Takes (ncxOf P w K mg base N qual scope f cd A outer L s H) (fun _ _ _ _ => False) := fun _ _ ⟨_, _, _, _, _, _, _, _, _, _, _, _, _, _, _, _, h⟩ => h.elim
abbrev Tag := Nat → NTurn → Hp → Prop
def Back (P : Program) (w : World) (outer : List Env) (L : Addr) (s₀ s1 : Shared) (H₀ H1 : Hp) : Prop := s1.os = s₀.os ∧ AllBare s1.gens ∧ Un (frs outer) [] H₀ H1 (cutH L s₀.heap) s1.heap ∧ HOk P w H1 s1.heap
def FN (P : Program) (w : World) (outer : List Env) (L : Addr) (T : Tag) (G : GPost) : Nat → Shared → Shared → Prop := fun n s₀ s1 => ∃ γ H₀ H1, T n ⟨s₀, γ⟩ H₀ ∧ Back P w outer L s₀ s1 H₀ H1 ∧ (∀ p ∈ γ, s1.heap.get? p.1 = some p.2 ∧ H1 p.1 = none) ∧ G.rt (G.n - n) H₀ H1
def NR (P : Program) (w : World) (outer : List Env) (L : Addr) (T : Tag) (G : GPost) : GenEnd := fun n s₀ r s1 => ((r = .ok (.ret .none) ∨ r = .ok .next) ∧ FN P w outer L T G n s₀ s1) ∨ ∃ e, r = .error e ∧ False
/-- what a sleeping generator calls its own is as it was -/
def Kept (pn : List (Addr × Obj)) (ow : List (Addr × Obj)) (s : Shared) (H : Hp) : Prop := ∀ p ∈ ow, s.heap.get? p.1 = some p.2 ∧ H p.1 = none ∧ ∀ q ∈ pn, q.1 ≠ p.1
/-- the pinned ones of a turn are not the pins of the context -/
def Dis (ip : List (Addr × Obj)) (s : NTurn) : Prop := ∀ p ∈ ip, ∀ q ∈ s.pn, q.1 ≠ p.1
def NY (P : Program) (w : World) (outer : List Env) (L : Addr) (T : Tag) (G : GPost) : Protocol := fun m s₀ v s1 kap =>
  ∃ γ H₀ x H1 ow, T (m + 1) ⟨s₀, γ⟩ H₀ ∧ RelV x v ∧ Back P w outer L s₀ s1 H₀ H1 ∧ (∀ p ∈ ow, s1.heap.get? p.1 = some p.2 ∧ H1 p.1 = none ∧ L ≤ p.1 ∧ (∀ v, p.2.data ≠ .cell v) ∧ ∀ q ∈ γ, q.1 ≠ p.1) ∧ (∀ p ∈ γ, s1.heap.get? p.1 = some p.2 ∧ H1 p.1 = none) ∧ (s1.heap.NoLimit ∧ ∃ oL, (L, oL) ∈ ow) ∧ G.yd (G.n - (m + 1)) x H₀ H1 ∧
    ∀ (s2 : NTurn) H2, T m s2 H2 → Kept s2.pn ow s2 H2 → kap (.send .none) s2
def TagOk (P : Program) (w : World) (K : PySem.W.Frag) (mg : Str → Option Value) (base : Heap) (A : Around) (outer : List Env) (L : Addr) (T : Tag) (G : GPost) : Prop :=
  ∀ n s H, T n s H → 1 ≤ n ∧ n ≤ G.n ∧ G.ok (G.n - n) H ∧ Env0 P w K mg base A outer s.toShared H ∧ L ≤ s.heap.objs.size ∧ ∀ p ∈ s.pn, (s.heap.get? p.1 = some p.2 ∧ H p.1 = none) ∧ p.1 ≠ L ∧ p.1 ∉ frs outer ∧ ∀ v, p.2.data ≠ .cell v
/-- what stands fast about a generator's frame -/
structure NStat (N : List Str) (scope : Scope) (base : Heap) (A : Around) (outer : List Env) (L : Addr) : Prop where
  kind : scope.kind = .function
  hd : A.handled = none
  nc : cellsFrom (L + 1) scope.names [] = []
  no : ∀ x, scope.names.lookup x ≠ some .cell ∧ scope.names.lookup x ≠ some .free
  bl : base.objs.size ≤ L
  fl : ∀ b ∈ frs outer, b < L
section
variable {P : Program} {w : World} {K : PySem.W.Frag} {mg : Str → Option Value} {base : Heap} {N : List Str} {qual : Str} {scope : Scope} {f : Addr} {cd : Value} {A : Around} {outer : List Env} {L : Addr} {T : Tag} {G : GPost}
theorem ncx_ok (S : NStat N scope base A outer L) {s : NTurn} {H : Hp} (e : Env0 P w K mg base A outer s H) : (ncxOf P w K mg base N qual scope f cd A outer L s H).Ok := by
  have nc : ∀ x c, (cellsFrom (L + 1) scope.names []).lookup x = some c → False := fun x c h => by
    rw [S.nc] at h
    cases h
  refine ⟨e.mod, S.kind, rfl, rfl, cutH_size, fun y z c h1 _ => (nc y c h1).elim, fun y hy => ?_, fun y c _ h => (nc y c h).elim, fun _ => S.hd, Around.frames_deeper e.frames, .inr ⟨rfl, rfl⟩, (fun b z => nomatch z), fun b o h => ?_, cutH_big S.bl e.bsz, (fun b _ _ z => nomatch z), (fun b z => nomatch z), funs_cut S.fl e.funs, e.frf⟩
  · have hy : scope.names.lookup y = some .cell ∨ scope.names.lookup y = some .free := hy
    rcases hy with hy | hy
    · exact absurd hy (S.no y).1
    · exact absurd hy (S.no y).2
  · obtain ⟨h1, h2⟩ := e.bs b o h
    exact ⟨cutH_in (Nat.lt_of_lt_of_le (Heap.lt_size h) S.bl) h1, h2⟩
/-- where the generator's names stand -/
def NLoc (N : List Str) (qual : Str) (scope : Scope) (L f : Addr) (cd : Value) (σ : L2.St) (h : Heap) : Prop := ∃ m, h.Ns L m ∧ ∀ (i : Nat) (x : Str) (v : V), N[i]? = some x → σ[i]? = some (some v) → Vis scope x → ∃ u, RelV v u ∧ Look (envOfC qual scope L f cd) h m x u
/-- the next turn begins: its own dict is as it was -/
theorem ncx_wake (S : NStat N scope base A outer L) {s1 : Shared} {s2 : NTurn} {H2 : Hp} {σ : L2.St} {oL : Obj} (Il : NLoc N qual scope L f cd σ s1.heap) (Ilen : σ.length = N.length) (e1 : s1.heap.get? L = some oL)
    (e : Env0 P w K mg base A outer s2 H2) (e2 : s2.heap.get? L = some oL) (hL : H2 L = none) (hp : ∀ p ∈ s2.pn, (s2.heap.get? p.1 = some p.2 ∧ H2 p.1 = none) ∧ p.1 ≠ L ∧ p.1 ∉ frs outer ∧ ∀ v, p.2.data ≠ .cell v) {ip : List (Addr × Obj)} (hi : ∀ p ∈ ip, (s2.heap.get? p.1 = some p.2 ∧ H2 p.1 = none) ∧ p.1 ≠ L ∧ p.1 ∉ frs outer ∧ ∀ v, p.2.data ≠ .cell v) : Inv (ncxOf P w K mg base N qual scope f cd A outer L s2 H2) ip σ H2 s2 := by
  have nc : ∀ x c, (cellsFrom (L + 1) scope.names []).lookup x = some c → False := fun x c h => by
    rw [S.nc] at h
    cases h
  obtain ⟨m, ⟨o, es, ep, ho, r⟩, hl⟩ := Il
  have eo : o = oL := Option.some.inj (ho.symm.trans e1)
  subst eo
  refine ⟨ncx_ok S e, rfl, e.bare, Un.kept fun b u q => (cutH_of q).2, ⟨m, ⟨o, es, ep, e2, r⟩, fun i x v h1 h2 h3 => ?_⟩, fun x c h => (nc x c h).elim, hL, fun x c h => (nc x c h).elim, fun p hm => ?_, e.hok, Ilen⟩
  · obtain ⟨u, ru, l⟩ := hl i x v h1 h2 h3
    refine ⟨u, ru, ?_⟩
    rcases l with l | ⟨_, c, h, _⟩
    · exact .inl l
    · exact (nc x c h).elim
  · rcases List.mem_append.mp (show p ∈ s2.pn ++ ip from hm) with hm | hm
    · exact ⟨(hp p hm).1.1, (hp p hm).1.2, (hp p hm).2.1, (hp p hm).2.2.1, (hp p hm).2.2.2⟩
    · exact ⟨(hi p hm).1.1, (hi p hm).1.2, (hi p hm).2.1, (hi p hm).2.2.1, (hi p hm).2.2.2⟩
/-- ends of a statement: the turn's number, its heap at the beginning -/
structure GEn where
  nx : Nat → Hp → L2.St → Hp → Prop
  rt : Nat → Hp → VK
  bk : Nat → Hp → L2.St → Hp → Prop := fun _ _ _ _ => False
  ct : Nat → Hp → L2.St → Hp → Prop := fun _ _ _ _ => False
def GEn.at (D : GEn) (j : Nat) (H₀ : Hp) : Ends := { nx := D.nx j H₀, rt := D.rt j H₀, bk := D.bk j H₀, ct := D.ct j H₀ }
abbrev TGm := GPost → GEn → Nat → Hp → L2.St → Hp → Prop
structure NC (A : Around) (qual : Str) (scope : Scope) (L f : Addr) (cd : Value) (c : Code) (fs : List Frame) (gd : Bool → Bool) : Prop where
  over : A.over c fs = A.deeper (envOfC qual scope L f cd)
  split : splitAtGen fs = none
  guard : fs.any Frame.guarded = false
  gd : gd false = false
structure NK (P : Program) (w : World) (K : PySem.W.Frag) (mg : Str → Option Value) (base : Heap) (N : List Str) (qual : Str) (scope : Scope) (f : Addr) (cd : Value) (A : Around) (outer : List Env) (L : Addr) (T : Tag) (G : GPost) (ip : List (Addr × Obj)) (c : Code) (fs : List Frame) (k : Flow → Sem PySem.Fin) (D : GEn) : Prop where
  ok : ∀ (n : Nat) (s₀ : NTurn) (H₀ : Hp) (s : Shared) (fl : Flow), n ≤ G.n → T n s₀ H₀ → Dis ip s₀ → SP (ncxOf P w K mg base N qual scope f cd A outer L s₀ H₀) ip (D.at (G.n - n) H₀) fl s → Seg (model P w) A (NR P w outer L T G) (NY P w outer L T G) n s₀ c (k fl) fs s
structure NS (P : Program) (w : World) (K : PySem.W.Frag) (mg : Str → Option Value) (base : Heap) (N : List Str) (qual : Str) (scope : Scope) (f : Addr) (cd : Value) (A : Around) (outer : List Env) (L : Addr) (st : Stmt) (t : TGm) : Prop where
  run : ∀ (ip : List (Addr × Obj)) (T : Tag) (G : GPost) (n : Nat) (s₀ : NTurn) (H₀ : Hp) (c : Code) (fs : List Frame) (k : Flow → Sem PySem.Fin) (J : Value → Sem PySem.Fin) (gd : Bool → Bool) (lv : List Value → List Value) (s : Shared) (σ : L2.St) (H : Hp) (D : GEn),
    NStat N scope base A outer L → TagOk P w K mg base A outer L T G → NC A qual scope L f cd c fs gd → n ≤ G.n → T n s₀ H₀ → Dis ip s₀ → (∀ p ∈ ip, L ≤ p.1) → NK P w K mg base N qual scope f cd A outer L T G ip c fs k D → Inv (ncxOf P w K mg base N qual scope f cd A outer L s₀ H₀) ip σ H s → t G D (G.n - n) H₀ σ H →
    Seg (model P w) A (NR P w outer L T G) (NY P w outer L T G) n s₀ c ((exec st (envOfC qual scope L f cd)).wrap k J gd lv) fs s
structure NSs (P : Program) (w : World) (K : PySem.W.Frag) (mg : Str → Option Value) (base : Heap) (N : List Str) (qual : Str) (scope : Scope) (f : Addr) (cd : Value) (A : Around) (outer : List Env) (L : Addr) (st : List Stmt) (t : TGm) : Prop where
  run : ∀ (ip : List (Addr × Obj)) (T : Tag) (G : GPost) (n : Nat) (s₀ : NTurn) (H₀ : Hp) (c : Code) (fs : List Frame) (k : Flow → Sem PySem.Fin) (J : Value → Sem PySem.Fin) (gd : Bool → Bool) (lv : List Value → List Value) (s : Shared) (σ : L2.St) (H : Hp) (D : GEn),
    NStat N scope base A outer L → TagOk P w K mg base A outer L T G → NC A qual scope L f cd c fs gd → n ≤ G.n → T n s₀ H₀ → Dis ip s₀ → (∀ p ∈ ip, L ≤ p.1) → NK P w K mg base N qual scope f cd A outer L T G ip c fs k D → Inv (ncxOf P w K mg base N qual scope f cd A outer L s₀ H₀) ip σ H s → t G D (G.n - n) H₀ σ H →
    Seg (model P w) A (NR P w outer L T G) (NY P w outer L T G) n s₀ c ((execs st (envOfC qual scope L f cd)).wrap k J gd lv) fs s
def tN0 (t : TS) : TGm := fun _ D j H₀ σ H => t (D.at j H₀) σ H
theorem ns_ps {st : Stmt} {t : TS} (h : ∀ s H, PS (ncxOf P w K mg base N qual scope f cd A outer L s H) st t) : NS P w K mg base N qual scope f cd A outer L st (tN0 t) := by
  refine ⟨fun ip T G n s₀ H₀ c fs k J gd lv s σ H D S tg g hn hT ds hip kk I ht => ?_⟩
  refine seg_wrap ?_
  rw [g.over]
  exact wpAny_mono ((h s₀ H₀).run _ s σ H _ I ht) (fun fl s' hs => kk.ok n s₀ H₀ s' fl hn hT ds hs) fun x s' hx => hx.elim
def tNil0 : TGm := fun _ D j H₀ σ H => D.nx j H₀ σ H
theorem nss_nil : NSs P w K mg base N qual scope f cd A outer L [] tNil0 := by
  refine ⟨fun ip T G n s₀ H₀ c fs k J gd lv s σ H D S tg g hn hT ds hip kk I ht => ?_⟩
  exact seg_execs_nil (kk.ok n s₀ H₀ s .next hn hT ds ⟨σ, H, I, ht⟩)
def tNThen (t u : TGm) : TGm := fun G D j H₀ σ H => t G { D with nx := fun j' H₀' σ' H' => u G D j' H₀' σ' H' } j H₀ σ H
theorem nss_cons {st : Stmt} {rest : List Stmt} {t u : TGm} (a : NS P w K mg base N qual scope f cd A outer L st t) (b : NSs P w K mg base N qual scope f cd A outer L rest u) : NSs P w K mg base N qual scope f cd A outer L (st :: rest) (tNThen t u) := by
  refine ⟨fun ip T G n s₀ H₀ c fs k J gd lv s σ H D S tg g hn hT ds hip kk I ht => ?_⟩
  refine seg_execs_cons ?_
  refine a.run ip T G n s₀ H₀ c fs _ J gd lv s σ H { D with nx := fun j' H₀' σ' H' => u G D j' H₀' σ' H' } S tg g hn hT ds hip ⟨fun n' s₀' H₀' s' fl hn' hT' ds' hs => ?_⟩ I ht
  cases fl with
  | next =>
    obtain ⟨σ', H', I', q⟩ := hs
    exact b.run ip T G n' s₀' H₀' c fs k J gd lv s' σ' H' D S tg g hn' hT' ds' hip kk I' q
  | brk => exact kk.ok n' s₀' H₀' s' .brk hn' hT' ds' hs
  | cont => exact kk.ok n' s₀' H₀' s' .cont hn' hT' ds' hs
  | ret u => exact kk.ok n' s₀' H₀' s' (.ret u) hn' hT' ds' hs
def tNYield (te : TE) : TGm := fun G D j H₀ σ H => te σ H fun x H1 => G.yd j x H₀ H1 ∧ ∀ H2, G.ok (j + 1) H2 → D.nx (j + 1) H2 σ H2
theorem ns_yield {e : Expr} {yp pos : Pos} {te : TE} (he : ∀ s H, PE (ncxOf P w K mg base N qual scope f cd A outer L s H) e te) (hco : (envOfC qual scope L f cd).scope.isCoroutine = false := by rfl) (hi : interactive (envOfC qual scope L f cd) = false := by rfl) :
    NS P w K mg base N qual scope f cd A outer L (.Expr (.Yield (some e) yp) pos) (tNYield te) := by
  refine ⟨fun ip T G n s₀ H₀ c fs k J gd lv s σ H D S tg g hn hT ds hip kk I ht => ?_⟩
  have hlt := (tg n s₀ H₀ hT).1
  obtain ⟨m, rfl⟩ : ∃ m, n = m + 1 := ⟨n - 1, by omega⟩
  refine seg_Expr_Yield g.split g.gd g.guard ?_ hco hi
  rw [g.over]
  refine wpAny_mono ((he s₀ H₀).run _ s σ H _ I ht) (fun v s' hv => ?_) fun x s' hx => hx.elim
  obtain ⟨x, H1, I1, rv, hy, hn2⟩ := hv
  intro kap hk
  obtain ⟨mm, ⟨oL, es, ep, hoL, r⟩, _⟩ := id I1.loc
  have hLd : ∀ v, oL.data ≠ .cell v := fun v q => by
    have := r.1
    rw [this] at q
    cases q
  have hL0 : ∀ q ∈ s₀.pn, q.1 ≠ L := fun q hq => (I1.pin q (List.mem_append_left _ hq)).2.2.1
  refine ⟨s₀.pn, H₀, x, H1, (L, oL) :: ip, hT, rv, ⟨I1.os, I1.bare, I1.base, I1.hok⟩, fun p hp => ?_, fun p hp => ?_, ⟨I1.nolimit, oL, List.mem_cons_self⟩, hy, fun s2 H2 hT2 e2 => hk .none s2 ?_⟩
  · rcases List.mem_cons.mp hp with z | hp
    · rw [z]
      exact ⟨hoL, I1.free, Nat.le_refl _, hLd, hL0⟩
    · have := I1.pin p (List.mem_append_right _ hp)
      exact ⟨this.1, this.2.1, hip p hp, this.2.2.2.2, ds p hp⟩
  · have := I1.pin p (List.mem_append_left _ hp)
    exact ⟨this.1, this.2.1⟩
  · obtain ⟨_, q1, q2, q3, _, q5⟩ := tg m s2 H2 hT2
    obtain ⟨w1, w2, w3⟩ := e2 (L, oL) List.mem_cons_self
    have ds2 : Dis ip s2 := fun p hp => (e2 p (List.mem_cons_of_mem _ hp)).2.2
    refine kk.ok m s2 H2 s2 .next q1 hT2 ds2 ⟨σ, H2, ncx_wake S I1.loc I1.len hoL q3 w1 w2 q5 (fun p hp => ?_), ?_⟩
    · have z := e2 p (List.mem_cons_of_mem _ hp)
      have y := I1.pin p (List.mem_append_right _ hp)
      exact ⟨⟨z.1, z.2.1⟩, y.2.2.1, y.2.2.2.1, y.2.2.2.2⟩
    · have e3 : G.n - (m + 1) + 1 = G.n - m := by omega
      rw [e3] at hn2
      exact hn2 H2 q2
def tNWhile (c : TT) (tb : TGm) : TGm := fun G D j H₀ σ H => ∃ W : Nat → Nat → Hp → L2.St → Hp → Prop, (∃ m, W m j H₀ σ H) ∧ ∀ m j H₀ σ H, W m j H₀ σ H →
  c σ H fun b H1 => if b = true then ∃ M : Nat → Hp → L2.St → Hp → Prop, (∀ j' H₀' σ' H', M j' H₀' σ' H' → ∃ m', m' < m ∧ W m' j' H₀' σ' H') ∧ tb G { D with nx := M, ct := M, bk := D.nx } j H₀ σ H1 else D.nx j H₀ σ H1
theorem nc_loop {c c' : Code} {fs : List Frame} {gd : Bool → Bool} {k : Result → Sem PySem.Fin} {l kp : List Value} {p : Pos} (g : NC A qual scope L f cd c fs gd) (hw : c'.weight = 0) (hu : c'.cUnits = 0) : NC A qual scope L f cd c' (.ret k none (gd false) l c p kp :: fs) id where
  over := (over_loop hw hu).trans g.over
  split := by
    show (splitAtGen fs).map _ = none
    rw [g.split]; rfl
  guard := by
    show (gd false || fs.any Frame.guarded) = false
    rw [g.gd, g.guard]; rfl
  gd := rfl
theorem ns_while {test : Expr} {body : List Stmt} {pos : Pos} {tc : TT} {tb : TGm} (hc : ∀ s H, PT (ncxOf P w K mg base N qual scope f cd A outer L s H) test tc) (hb : NSs P w K mg base N qual scope f cd A outer L body tb) : NS P w K mg base N qual scope f cd A outer L (.While test body [] pos) (tNWhile tc tb) := by
  refine ⟨fun ip T G n s₀ H₀ c fs k J gd lv s σ H D S tg g hn hT ds hip kk I ht => ?_⟩
  obtain ⟨W, ⟨m0, w0⟩, turn⟩ := ht
  refine seg_While fun p => ?_
  have gl := fun (q : Result → Sem PySem.Fin) => nc_loop (k := q) (c' := .whileLoop test body [] (envOfC qual scope L f cd)) (l := lv []) (kp := []) (p := p) g rfl rfl
  have loop : ∀ (m n : Nat) (s₀ : NTurn) (H₀ : Hp) (s : Shared) (σ : L2.St) (H : Hp), n ≤ G.n → T n s₀ H₀ → Dis ip s₀ → W m (G.n - n) H₀ σ H → Inv (ncxOf P w K mg base N qual scope f cd A outer L s₀ H₀) ip σ H s →
      Seg (model P w) A (NR P w outer L T G) (NY P w outer L T G) n s₀ (.whileLoop test body [] (envOfC qual scope L f cd)) ((model P w).den (.whileLoop test body [] (envOfC qual scope L f cd)))
        (.ret (fun r => ((match r with | .ok f => (.pure f : Sem Flow) | .error e => .raise e).onRaise (cameBack (envOfC qual scope L f cd))).wrap k J gd lv) none (gd false) (lv []) c p [] :: fs) s := by
    intro m
    induction m using Nat.strongRecOn with
    | ind m ih =>
      intro n s₀ H₀ s σ H hn hT ds w I
      refine seg_whileLoop ?_
      rw [(gl _).over]
      refine wpAny_mono ((hc s₀ H₀).run _ s σ H _ I (turn m (G.n - n) H₀ σ H w)) (fun b s' hb' => ?_) fun x s' hx => hx.elim
      obtain ⟨H2, I2, q2⟩ := hb'
      cases b with
      | true =>
        obtain ⟨M, hM, q2⟩ := q2
        rw [if_pos rfl]
        refine hb.run ip T G n s₀ H₀ _ _ _ _ id id s' σ H2 { D with nx := M, ct := M, bk := D.nx } S tg (gl _) hn hT ds hip ⟨fun n' s₀' H₀' s3 fl hn' hT' ds' hs => ?_⟩ I2 q2
        cases fl with
        | next =>
          obtain ⟨σ3, H3, I3, n3⟩ := hs
          obtain ⟨m', hm, w3⟩ := hM _ _ σ3 H3 n3
          exact seg_again rfl (ih m' hm n' s₀' H₀' s3 σ3 H3 hn' hT' ds' w3 I3)
        | cont =>
          obtain ⟨σ3, H3, I3, n3⟩ := hs
          obtain ⟨m', hm, w3⟩ := hM _ _ σ3 H3 n3
          exact seg_again rfl (ih m' hm n' s₀' H₀' s3 σ3 H3 hn' hT' ds' w3 I3)
        | brk => exact seg_leaf (.ok .next) (kk.ok n' s₀' H₀' s3 .next hn' hT' ds' hs)
        | ret v => exact seg_leaf (.ok (.ret v)) (kk.ok n' s₀' H₀' s3 (.ret v) hn' hT' ds' hs)
      | false =>
        rw [if_neg Bool.false_ne_true]
        refine seg_execs_nil ?_
        exact seg_leaf (.ok .next) (kk.ok n s₀ H₀ s' .next hn hT ds ⟨σ, H2, I2, q2⟩)
  exact loop m0 n s₀ H₀ s σ H hn hT ds w0 I
end
/-! ### a call makes one -/
/-- what the first turn leaves alone: all generators -/
def Rg : GenEnd := fun _ s₀ _ s' => s'.gens = s₀.gens
def Yg : Protocol := fun _ s₀ _ s' _ => s'.gens = s₀.gens
def FirstQ (P : Program) (w : World) (K : PySem.W.Frag) (mg : Str → Option Value) (base : Heap) (k : Nat) (outer : List Env) (L : Addr) (oL : Obj) (c : Code) (fx : Hp → Prop) : Prop :=
  ∀ (A : Around) (s2 : Shared) (H2 : Hp), Room k A → A.frames = some outer → Env0 P w K mg base A outer s2 H2 → L ≤ s2.heap.objs.size → s2.heap.get? L = some oL → H2 L = none → fx H2 → Seg (model P w) A Rg Yg 1 s2 c ((model P w).den c) [] s2
def NMade (P : Program) (w : World) (K : PySem.W.Frag) (mg : Str → Option Value) (base : Heap) (k : Nat) (outer : List Env) (s : Shared) (PG : GPost → Prop) (fx : Hp → Prop) (u : Value) (s' : Shared) : Prop :=
  ∃ (L a : Addr) (g : Nat) (c : Code) (go oL : Obj), u = .ref a ∧ s.heap.objs.size ≤ L ∧ L < a ∧ a < s'.heap.objs.size ∧ s'.heap.get? L = some oL ∧ (∀ v, oL.data ≠ .cell v) ∧ s'.heap.get? a = some go ∧ (∀ v, go.data ≠ .cell v) ∧ (∀ h : Heap, h.get? a = some go → h.IsGen a g) ∧
    s'.gens[g]? = some (.fresh c) ∧ s'.os = s.os ∧ AllBare s'.gens ∧ (∀ b o, s.heap.get? b = some o → s'.heap.get? b = some o) ∧ ((∀ (i : Nat) y, s.gens[i]? = some y → s'.gens[i]? = some y) ∧ s.gens.size ≤ g) ∧ FirstQ P w K mg base k outer L oL c fx ∧
    ∀ (A : Around) (T : Tag) (G : GPost), PG G → Room k A → A.frames = some outer → TagOk P w K mg base A outer L T G → ∀ (s2 : NTurn) H2, T G.n s2 H2 → Kept s2.pn [(L, oL)] s2 H2 →
      Seg (model P w) A (NR P w outer L T G) (NY P w outer L T G) G.n s2 c ((model P w).den c) [] s2
structure NFn (P : Program) (w : World) (K : PySem.W.Frag) (mg : Str → Option Value) (base : Heap) (k : Nat) (f : Addr) (fd : FuncData) (ps : List Str) (sp : SpN) (spx : List V → Hp → Prop) : Prop where
  run : ∀ (A : Around) (outer : List Env) (s : Shared) (H : Hp) (args : Args) (us : List Value) (vs : List V), Room k A → Env0 P w K mg base A outer s H → BindsTo s fd args (ps.zip us) → Vals vs us → vs.length = ps.length →
    codeAny (model P w) A (.call (.ref f) args) (fun r s' => match r with | .ok (.ret u) => NMade P w K mg base k outer s (sp vs H) (spx vs) u s' | _ => False) s
theorem nfn_of {P : Program} {w : World} {K : PySem.W.Frag} {mg : Str → Option Value} {base : Heap} {k : Nat} {f : Addr} {name qual : Str} {params : Arguments} {body : List Stmt} {scope : Scope} {dV kV doc pm cdv ct oc : Value} {an od : Option Addr}
    {osl : Array (Option Value)} {N ps : List Str} {sp : SpN} {spx : List V → Hp → Prop} (lk : K.lookup f = some ⟨oc, od, .func (PySem.W.fnOf name qual params body scope dV kV doc pm an cdv ct), osl⟩) (hcd : PySem.W.codeIn K cdv qual = true) (S : GScope N ps scope)
    (hnc : ∀ n, cellsFrom n scope.names [] = []) (hno : ∀ x, scope.names.lookup x ≠ some .cell ∧ scope.names.lookup x ≠ some .free)
    (hbody : ∀ (A : Around) (outer : List Env) (L : Addr) (vs : List V) (H : Hp), Room k (A.deeper (envOfC qual scope L f cdv)) →
      ∃ t, NSs P w K mg base N qual scope f cdv A outer L body t ∧ ∀ G, sp vs H G → ∀ H₀, G.ok 0 H₀ → t G { nx := fun j H₀ _ H' => G.rt j H₀ H', rt := fun j H₀ v H' => v = .non ∧ G.rt j H₀ H' } 0 H₀ (start N vs) H₀)
    (hfirst : ∀ (A : Around) (outer : List Env) (L : Addr) (vs : List V) (s2 : NTurn) (H2 : Hp), A.handled = none → Room k (A.deeper (envOfC qual scope L f cdv)) → spx vs H2 → Inv (ncxOf P w K mg base N qual scope f cdv A outer L s2 H2) [] (start N vs) H2 s2 →
      Seg (model P w) A Rg Yg 1 s2 (.func body (envOfC qual scope L f cdv)) ((model P w).den (.func body (envOfC qual scope L f cdv))) [] s2) :
    NFn P w K mg base (k + 1) f (PySem.W.fnOf name qual params body scope dV kV doc pm an cdv ct) ps sp spx := by
  refine ⟨fun A outer s H args us vs hr e0 hb r hl => ?_⟩
  have KX : K.In s.heap := e0.mod.kin.keeps fun b o e => (e0.bs b o e).1
  have lim : s.heap.NoLimit := e0.mod.nolimit.keeps fun b o e => (e0.bs b o e).1
  have hkind : ∀ y ∈ ps.zip us, scope.names.lookup y.1 = some .local ∨ (scope.names.lookup y.1 = some .cell ∧ ((cellsFrom (s.heap.objs.size + 1) scope.names []).lookup y.1).isSome = true) := fun ⟨n, v⟩ hy => by
    rcases S.par n (List.of_mem_zip hy).1 with q | q
    · exact .inl q
    · exact absurd q (hno n).1
  refine codeAny_call_generator hr.depth (KX _ _ lk) rfl S.co S.gen rfl (PySem.W.codeRec_of KX hcd) (hb _ _ _ _ ?_)
  refine wpAny_newFunctionEnv_cells S.kind hkind fun env he s1 x => ?_
  subst he
  have lim1 : s1.heap.NoLimit := lim.keeps x.toInCall.keep
  refine ⟨lim1, ?_⟩
  obtain ⟨h1, tk, es1, hk1⟩ := x.done
  have os1 : s1.os = s.os := by rw [es1]
  have gen1 : s1.gens = s.gens := by rw [es1]
  have lt1 : s.heap.objs.size < s1.heap.objs.size := x.toInCall.ns.lt
  have kp1 : ∀ b o, s.heap.get? b = some o → s1.heap.get? b = some o := x.toInCall.keep
  have main : ∀ (go : Obj) (nm qn : Value) (tk2 : Nat), go.cls = .type "generator" → go.data = .fields #[.int s1.gens.size 0, nm, qn] → go.slots = #[] → (∀ h : Heap, (h.push go).get? h.objs.size = some go) →
      NMade P w K mg base (k + 1) outer s (sp vs H) (spx vs) (.ref s1.heap.objs.size) { s1 with gens := s1.gens.push (.fresh (.func body (envOfC qual scope s.heap.objs.size f cdv))), toks := tk2, heap := s1.heap.push go } := by
    intro go nm qn tk2 hgc hgd0 hgs hgp
    have hgen : ∀ h : Heap, h.get? s1.heap.objs.size = some go → h.IsGen s1.heap.objs.size s1.gens.size := fun h e => ⟨go, nm, qn, e, hgc, hgd0, hgs⟩
    have hgd : ∀ v, go.data ≠ .cell v := fun v q => by rw [hgd0] at q; cases q
    have I1 : Inv (gcxOf P w K mg base N qual scope f cdv A outer s H (fun _ _ _ => False) []) [] (start N vs) H s1 := inv_startG S hr.hd e0 hl r x
    obtain ⟨m, ⟨oL, es, ep, hoL, rL⟩, hlk⟩ := id I1.loc
    have hoL : s1.heap.get? s.heap.objs.size = some oL := hoL
    have hLd : ∀ v, oL.data ≠ .cell v := fun v q => by
      have := rL.1
      rw [this] at q
      cases q
    refine ⟨s.heap.objs.size, s1.heap.objs.size, s1.gens.size, _, go, oL, rfl, Nat.le_refl _, lt1, ?_, Heap.get?_push_of_some _ hoL, hLd, hgp _, hgd, hgen, Array.getElem?_push_size .., os1, ?_, fun b o e => Heap.get?_push_of_some _ (kp1 b o e), ⟨fun i y e => by
      show (s1.gens.push _)[i]? = some y
      rw [gen1, Array.getElem?_push, if_neg (Nat.ne_of_lt (Array.getElem?_eq_some_iff.mp e).1)]
      exact e, by rw [gen1]; exact Nat.le_refl _⟩, ?_, ?_⟩
    · show _ < (s1.heap.push _).objs.size
      rw [Heap.size_push]; exact Nat.lt_succ_self _
    · exact AllBare.push (by rw [gen1]; exact e0.bare) rfl
    · intro Aw s2 H2 hrw hfr e2 q3 w1 w2 hx
      have St : NStat N scope base Aw outer s.heap.objs.size := ⟨S.kind, hrw.hd, hnc _, hno, e0.bsz, frs_lt e0.funs⟩
      exact hfirst Aw outer s.heap.objs.size vs ⟨s2, []⟩ H2 hrw.hd (hrw.deeper _) hx (ncx_wake (s2 := ⟨s2, []⟩) St I1.loc I1.len hoL e2 w1 w2 (fun p hp => absurd hp List.not_mem_nil) (fun p hp => absurd hp List.not_mem_nil))
    intro Aw T G hPG hrw hfr tg s2 H2 hT e2
    obtain ⟨t, ht, hq⟩ := hbody Aw outer s.heap.objs.size vs H (hrw.deeper _)
    have St : NStat N scope base Aw outer s.heap.objs.size := ⟨S.kind, hrw.hd, hnc _, hno, e0.bsz, frs_lt e0.funs⟩
    obtain ⟨q0, q1, q2, q3, _, q5⟩ := tg G.n s2 H2 hT
    obtain ⟨w1, w2, w3⟩ := e2 (s.heap.objs.size, oL) List.mem_cons_self
    have I2 : Inv (ncxOf P w K mg base N qual scope f cdv Aw outer s.heap.objs.size s2 H2) [] (start N vs) H2 s2 := ncx_wake St I1.loc I1.len hoL q3 w1 w2 q5 (fun p hp => by simp at hp)
    rw [Nat.sub_self] at q2
    refine seg_func ?_
    refine ht.run [] T G G.n s2 H2 _ [] _ _ id id s2 (start N vs) H2 { nx := fun j H₀ _ H' => G.rt j H₀ H', rt := fun j H₀ v H' => v = .non ∧ G.rt j H₀ H' } St tg ⟨over_func, rfl, rfl, rfl⟩ (Nat.le_refl _) hT (fun p hp => by simp at hp) (fun p hp => by simp at hp) ⟨fun n s₀ H₀ s' fl hn hT' _ hs => ?_⟩ I2 (by rw [Nat.sub_self]; exact hq G hPG H2 q2)
    cases fl with
    | next =>
      obtain ⟨σ', H', I', hQ⟩ := hs
      exact seg_end (.ok (.ret .none)) (.inl ⟨.inl rfl, _, H₀, H', hT', ⟨I'.os, I'.bare, I'.base, I'.hok⟩, fun p hp => ⟨(I'.pin p (List.mem_append_left _ hp)).1, (I'.pin p (List.mem_append_left _ hp)).2.1⟩, hQ⟩)
    | brk => obtain ⟨_, _, _, q⟩ := hs; exact q.elim
    | cont => obtain ⟨_, _, _, q⟩ := hs; exact q.elim
    | ret u =>
      obtain ⟨v, σ', H', I', rv, ev, hQ⟩ := hs
      subst ev
      have eu : u = Value.none := rv
      subst eu
      exact seg_end (.ok (.ret .none)) (.inl ⟨.inl rfl, _, H₀, H', hT', ⟨I'.os, I'.bare, I'.base, I'.hok⟩, fun p hp => ⟨(I'.pin p (List.mem_append_left _ hp)).1, (I'.pin p (List.mem_append_left _ hp)).2.1⟩, hQ⟩)
  exact main _ _ _ _ rfl rfl rfl fun h => Heap.get?_push_size _ rfl
end L2

/-! a for over a generator, with a body -/
namespace L2
open PySem PySem.Spec PyProof.Rows GenW
section
variable {P : Program} {w : World} {A : Around} {s : Shared}
def KapN (M : Model) (A : Around) (R : GenEnd) (Y : Protocol) (gs : GenState) : Nat → Resume → Shared → Prop
  | 0 => fun _ _ => False
  | m + 1 => fun r s => gs.Goes M A R Y m r s
theorem wake_susp {M : Model} {R : GenEnd} {Y : Protocol} {n : Nat} {E : Value → Shared → Prop} {g : Nat} {gs : GenState}
    {r : Resume} {l : List Value} {α : Type} {k : GenResult → Sem α} {Q : α → Shared → Prop} (hg : s.gens[g]? = some gs)
    (hgo : gs.Goes M A R Y n r (s.setGen g .running))
    (hR : ∀ x s₁, R n (s.setGen g .running) x s₁ → wpAny M A (k (End.ret x).result) Q E (s₁.setGen g .finished))
    (hY : ∀ v s₁ gs', gs'.bare = true → Susp gs' = true → Y (n - 1) (s.setGen g .running) v s₁ (KapN M A R Y gs' n) →
      wpAny M A (k (.yielded v)) Q E (s₁.setGen g gs')) :
    wpAny M A (.resume g r l k) Q E s := by
  intro Γ p hΓ
  rw [Sem.wp_resume]
  have hB : ∀ c, (Γ.wake c p).Woken A := fun c => hΓ.wake c p
  have fin : ∀ e₁ s₁, SegEnd R Y n (Seg.next M A R Y n) (s.setGen g .running) e₁ s₁ →
      Sem.wp M Γ (k e₁.result) (fun a _ s' => Q a s') (fun e _ s' => E e s') p (s₁.setGen g e₁.genState) := by
    intro e₁ s₁ he
    cases e₁ with
    | ret x => exact hR x s₁ he Γ p hΓ
    | susp v g₀ l₀ k₀ c₀ p₀ fs₀ =>
      refine hY v s₁ _ (End.bare_of_quiet he.1) rfl ?_ Γ p hΓ
      cases n with
      | zero => exact he.2
      | succ m => exact he.2
  have hqt : ∀ e₁ s₁, SegEnd R Y n (Seg.next M A R Y n) (s.setGen g .running) e₁ s₁ → e₁.quiet = true := by
    intro e₁ s₁ he
    cases e₁ with
    | ret x => rfl
    | susp v g₀ l₀ k₀ c₀ p₀ fs₀ => exact he.1
  cases gs with
  | fresh c =>
    obtain ⟨rfl, hs⟩ := hgo
    obtain ⟨e₁, s₁, hr, he⟩ := seg_iff.mp hs (Γ.wake c p) p rfl (hB c)
    exact ⟨_, _, by unfold Wakes; rw [hg]; exact ⟨e₁, s₁, hr, hqt e₁ s₁ he, rfl, rfl⟩, fin e₁ s₁ he⟩
  | suspended k₀ l₀ c₀ p₀ fs₀ cl =>
    obtain ⟨e₁, s₁, hr, he⟩ := seg_iff.mp hgo (Γ.wake c₀ p) p₀ rfl (hB c₀)
    exact ⟨_, _, by unfold Wakes; rw [hg]; exact ⟨e₁, s₁, hr, hqt e₁ s₁ he, rfl, rfl⟩, fin e₁ s₁ he⟩
  | running => exact hgo.elim
  | finished => exact hgo.elim
theorem next_susp {E : Value → Shared → Prop} {a : Addr} {g n : Nat} {gs : GenState} {F : Nat → Shared → Shared → Prop} {Y : Protocol} {Q : Option Value → Shared → Prop} (hh : A.handled = none)
    (hl : s.heap.NoLimit) (hroom : A.depth < recursionLimit) (hg : s.heap.IsGen a g) (hgs : s.gens[g]? = some gs)
    (hgo : gs.Goes (model P w) A.in1 (fun n s₀ r s₁ => ((r = .ok (.ret .none) ∨ r = .ok .next) ∧ F n s₀ s₁) ∨ ∃ e, r = .error e ∧ False) Y n (.send .none) (s.setGen g .running))
    (hY : ∀ v s₁ gs', gs'.bare = true → Susp gs' = true → Y (n - 1) (s.setGen g .running) v s₁ (KapN (model P w) A.in1 (fun n s₀ r s₁ => ((r = .ok (.ret .none) ∨ r = .ok .next) ∧ F n s₀ s₁) ∨ ∃ e, r = .error e ∧ False) Y gs' n) → Q (some v) (s₁.setGen g gs'))
    (hP : ∀ s₁, F n (s.setGen g .running) s₁ → ∀ h', (∀ b o, s₁.heap.get? b = some o → h'.get? b = some o) → Q none { s₁.setGen g .finished with heap := h' }) :
    wpAny (model P w) A (pyNext (.ref a)) Q E s := by
  unfold pyNext
  refine wpAny_bind (wpAny_attempt (wpAny_callSpecial?_slot (name := Str.ofString "__next__") hg.typeIs slot_gen_next
    (wpAny_call_entry slot_gen_next hg.typeIs entry_gen_next ?_ (args_gen_next _))))
  show wpAny _ A.in1 (Builtin.Generator.genWake (.ref a) (.send .none)) _ _ s
  unfold Builtin.Generator.genWake
  refine wpAny_bind (wpAny_holding (wpAny_genNumber hg (wpAny_bind (wpAny_genState hgs ?_))))
  cases gs with
  | running => exact hgo.elim
  | finished => exact hgo.elim
  | _ =>
    refine wpAny_bind (wpAny_roomToWake hl hroom ?_)
    show wpAny _ A.in1 (.resume g (.send .none) [] _) _ _ s
    refine wake_susp hgs hgo (fun x s₁ hx => ?_) (fun v s₁ gs' hb hsu hv => ?_)
    · rcases hx with ⟨hr, hp⟩ | ⟨e, rfl, he⟩
      · have hres : End.result (.ret x) = .returned .none := by
          rcases hr with hr | hr <;> rw [hr] <;> rfl
        first | rw [hres] | simp only [hres]
        show wpAny _ A.in1 (newExc (.type "StopIteration") [] >>= _) _ _ _
        refine wpAny_bind ?_
        simp only [newExc, newTuple]
        refine wpAny_bind (wpAny_newObj_type ?_ (by size_fits))
        refine wpAny_bind (m := firstArgMember _ _) (wpAny_of_eq (a := Value.none) (by first | rfl | (simp only [firstArgMember]; rfl)) ?_)
        refine wpAny_newObj_type ?_ (by size_fits)
        simp only [raiseNew]
        refine wpAny_bind (wpAny_bind (wpAny_handled ?_))
        first | rw [show A.in1.handled = none from hh] | rw [hh]
        refine wpAny_throw ?_
        refine wpAny_bind (wpAny_isInstance (T := "StopIteration") (b := true) ⟨_, Heap.get?_push_size _ rfl, rfl⟩ isSubtype_stop ?_)
        exact wpAny_pure (hP s₁ hp _ fun b o hb => Heap.get?_push_of_some _ (Heap.get?_push_of_some _ hb))
      · exact he.elim
    · exact wpAny_pure ⟨v, rfl, wpAny_pure (hY v s₁ gs' hb hsu hv)⟩
end
section
variable {X : Cx} {pins : List (Addr × Obj)} {σ : L2.St} {H H1 : Hp} {s s' : Shared}
theorem Inv.regen {G : Array GenState} (I : Inv X pins σ H s) (h : AllBare G) : Inv X pins σ H { s with gens := G } := ⟨I.ok, I.os, h, I.base, I.loc, I.cell, I.free, I.freeC, I.pin, I.hok, I.len⟩
theorem Inv.deep (I : Inv X pins σ H s) : Inv X pins σ H (deep s) := I.regen (bare_deep I.bare)
theorem Inv.woke {G : Array GenState} (I : Inv X pins σ H { s with gens := G }) (h : AllBare s.gens) : Inv X pins σ H s := ⟨I.ok, I.os, h, I.base, I.loc, I.cell, I.free, I.freeC, I.pin, I.hok, I.len⟩
/-- behind a turn of a generator -/
theorem Inv.back {L : Nat} {s1 : Shared} (I : Inv X pins σ H s) (h0 : X.env.locals < L) (hc : ∀ x c, X.env.cells.lookup x = some c → c < L) (hp : ∀ p ∈ X.pn ++ pins, p.1 < L) (B : Back X.prog X.w X.stack L s s1 H H1) : Inv X pins σ H1 s1 := by
  obtain ⟨os, bare, un, hok⟩ := B
  have mem : ∀ b : Nat, b ∈ List.range' L (s.heap.objs.size - L) ↔ L ≤ b ∧ b < s.heap.objs.size := fun b => by
    rw [List.mem_range'_1]
    constructor
    · rintro ⟨h1, h2⟩
      exact ⟨h1, by omega⟩
    · rintro ⟨h1, h2⟩
      exact ⟨h1, by omega⟩
  have cut : ∀ b o, s.heap.get? b = some o → b ∉ List.range' L (s.heap.objs.size - L) → (cutH L s.heap).get? b = some o := fun b o e hx => by
    have h1 := Heap.lt_size e
    refine cutH_in ?_ e
    exact Nat.lt_of_not_le fun z => hx ((mem b).mpr ⟨z, h1⟩)
  have u : Un (frs X.stack) (List.range' L (s.heap.objs.size - L)) H H1 s.heap s1.heap :=
    ⟨fun b o q n hb hx => un.keep b o (cut b o q hx) n hb (by simp), fun b o q n hb hx => un.slot b o (cut b o q hx) n hb (by simp), fun b o q n hx => un.free b o (cut b o q hx) n (by simp), fun b o q hx => un.there b o (cut b o q hx) (by simp), un.tups, un.frzs, un.tbls⟩
  refine I.call' os u hok bare fun b hb => ?_
  have hb1 := ((mem b).mp hb).1
  have h2 := I.ok.above
  refine ⟨.inr (Nat.le_trans h2 (Nat.le_trans (Nat.le_of_lt h0) hb1)), fun z => Nat.lt_irrefl _ (Nat.lt_of_lt_of_le (z ▸ h0) hb1), fun x c e z => ?_, fun p hm z => ?_⟩
  · exact Nat.lt_irrefl _ (Nat.lt_of_lt_of_le (z ▸ hc x c e) hb1)
  · exact Nat.lt_irrefl _ (Nat.lt_of_lt_of_le (z ▸ hp p hm) hb1)
end
theorem PSs.stays {X : Cx} {body : List Stmt} {tb : TS} (hb : PSs X.nox body tb) {pins : List (Addr × Obj)} {σ : L2.St} {H : Hp} {s : Shared} {D : Ends} (I : Inv X pins σ H s) (h : tb D σ H) :
    wpAny (model X.prog X.w) X.A (execs body X.env) (fun f s' => SP X pins D f s' ∧ Stays s s') (fun _ _ => False) s := by
  refine wpAny_mono (wpAny_deep (hb.run pins (deep s) σ H D ((I.wish _).deep) h)) (fun f s' hw => ?_) fun e s' hw => ?_
  · obtain ⟨st, G, q, hbr⟩ := hw
    refine ⟨?_, st⟩
    cases f with
    | next => obtain ⟨σ', H', I', q⟩ := q; exact ⟨σ', H', I'.unwish.woke (hbr I.bare I'.bare), q⟩
    | brk => obtain ⟨σ', H', I', q⟩ := q; exact ⟨σ', H', I'.unwish.woke (hbr I.bare I'.bare), q⟩
    | cont => obtain ⟨σ', H', I', q⟩ := q; exact ⟨σ', H', I'.unwish.woke (hbr I.bare I'.bare), q⟩
    | ret u => obtain ⟨v, σ', H', I', r, q⟩ := q; exact ⟨v, σ', H', I'.unwish.woke (hbr I.bare I'.bare), r, q⟩
  · obtain ⟨_, _, q, _⟩ := hw
    exact q.elim
theorem PG.stays {X : Cx} {tg : Expr} {g : TG} (hg : PG X.nox tg g) {pins : List (Addr × Obj)} {σ : L2.St} {H : Hp} {s : Shared} {v : V} {u : Value} {Q : L2.St → Hp → Prop} (I : Inv X pins σ H s) (r : RelV v u) (h : g v σ H Q) :
    wpAny (model X.prog X.w) X.A (assign tg X.env u) (fun _ s' => (∃ σ' H', Inv X pins σ' H' s' ∧ Q σ' H') ∧ Stays s s') (fun _ _ => False) s := by
  refine wpAny_mono (wpAny_deep (hg.run pins (deep s) σ H v u Q ((I.wish _).deep) r h)) (fun f s' hw => ?_) fun e s' hw => ?_
  · obtain ⟨st, G, ⟨σ', H', I', q⟩, hbr⟩ := hw
    exact ⟨⟨σ', H', I'.unwish.woke (hbr I.bare I'.bare), q⟩, st⟩
  · obtain ⟨_, _, q, _⟩ := hw
    exact q.elim
abbrev TGenN := L2.St → Hp → ((GPost → Prop) → Hp → Prop) → Prop
structure PGenN (X : Cx) (k : Nat) (e : Expr) (tg : TGenN) : Prop where
  run : ∀ (pins : List (Addr × Obj)) (s : Shared) (σ : L2.St) (H : Hp) (C : (GPost → Prop) → Hp → Prop), Inv X pins σ H s → tg σ H C → wpAny (model X.prog X.w) X.A (eval e X.env)
    (fun u s' => ∃ H1 sc PG, Inv X pins σ H1 sc ∧ NMade X.prog X.w X.K X.mg X.base k X.stack sc PG (fun _ => False) u s' ∧ C PG H1) X.xe s
/-- the consumer's wish: n turns at most, Pv ahead of each -/
def forG (n : Nat) (Pv : Nat → L2.St → Hp → Prop) (D : Ends) (g : TG) (tb : TS) : GPost where
  n := n + 1
  ok := fun j H => ∃ σ, Pv j σ H
  yd := fun j x H1 H2 => j < n ∧ ∀ σ, Pv j σ H1 → g x σ H2 fun σ2 H3 => tb { D with nx := Pv (j + 1), ct := Pv (j + 1), bk := D.nx } σ2 H3
  rt := fun j H1 H2 => ∀ σ, Pv j σ H1 → D.nx σ H2
def tForN (tr : TGenN) (g : TG) (tb : TS) : TS := fun D σ H => tr σ H fun PG H1 => ∃ (n : Nat) (Pv : Nat → L2.St → Hp → Prop), Pv 0 σ H1 ∧ PG (forG n Pv D g tb)
theorem ps_forN {X : Cx} {k : Nat} {tg iter : Expr} {body : List Stmt} {pos : Pos} {tr : TGenN} {g : TG} {tb : TS} (hp : PassesOwn (model X.prog X.w) X.A X.env X.xe) (hc : X.calm = true) (h : PGenN X k iter tr) (hr : Room (k + 3) X.A) (hg : PG X.nox tg g) (hb : PSs X.nox body tb)
    (hs : ∀ x, foldedSetIterable iter X.env x = pure x := by intro _; rfl) : PS X (.For tg iter body [] pos) (tForN tr g tb) := by
  refine ⟨fun pins s σ H D I hw => ?_⟩
  refine wpAny_For (thn (h.run pins s σ H _ I hw) fun v s1 h1 => ?_) hs
  obtain ⟨H1, sc, PG, I1, ⟨L, a, gn, c, go, oL, rfl, hL1, hLa, ha2, eL, dL, ea, da, hgen, hgs, hos, hbr, kp, _, _, wake⟩, n, Pv, p0, hPG⟩ := h1
  have hL0 : X.env.locals < L := Nat.lt_of_lt_of_le I1.lt hL1
  have hLc : ∀ x c, X.env.cells.lookup x = some c → c < L := fun x c e => by
    obtain ⟨v, o, ho, _⟩ := I1.cell x c e
    exact Nat.lt_of_lt_of_le (Heap.lt_size ho) hL1
  have hLp : ∀ p ∈ X.pn ++ pins, p.1 < L := fun p hp => Nat.lt_of_lt_of_le (Heap.lt_size (I1.pin p hp).1) hL1
  have hfs : ∀ b ∈ X.fs, b < L := fun b hb => Nat.lt_of_lt_of_le (frs_lt I1.funs b hb) hL1
  have hst : ∀ b ∈ frs X.stack, b < L := fun b hb => Nat.lt_of_lt_of_le (frs_lt I1.env0.funs b hb) hL1
  have nofs : ∀ b, L ≤ b → b ∉ X.fs := fun b hb z => absurd (hfs b z) (Nat.not_lt.mpr hb)
  have I2 : Inv X pins σ H1 s1 := I1.call' (ch := []) hos (Un.kept kp) (I1.hok.kept kp) hbr fun b z => by simp at z
  have hHL : H1 L = none := I1.hok.fresh hL1
  have hHa : H1 a = none := I1.hok.fresh (Nat.le_trans hL1 (Nat.le_of_lt hLa))
  have pinned : ∀ {ow : List (Addr × Obj)} {σ' : L2.St} {H' : Hp} {s' : Shared}, Inv X pins σ' H' s' → (∀ p ∈ ow, s'.heap.get? p.1 = some p.2 ∧ H' p.1 = none ∧ L ≤ p.1 ∧ ∀ v, p.2.data ≠ .cell v) → s'.heap.get? a = some go → H' a = none → Inv X (ow ++ (a, go) :: pins) σ' H' s' := fun {ow σ' H' s'} J e e2 n2 => J.pins_of fun p hp => by
    rcases List.mem_append.mp hp with z | hp
    · obtain ⟨z1, z2, z3, z4⟩ := e p z
      exact ⟨z1, z2, Nat.ne_of_gt (Nat.lt_of_lt_of_le hL0 z3), nofs _ z3, z4⟩
    rcases List.mem_cons.mp hp with z | hp
    · rw [z]
      exact ⟨e2, n2, Nat.ne_of_gt (Nat.lt_trans hL0 hLa), nofs a (Nat.le_of_lt hLa), da⟩
    · exact J.pin p (List.mem_append_right _ hp)
  have unpin : ∀ {ow : List (Addr × Obj)} {σ' : L2.St} {H' : Hp} {s' : Shared}, Inv X (ow ++ (a, go) :: pins) σ' H' s' → Inv X pins σ' H' s' ∧ (∀ p ∈ ow, s'.heap.get? p.1 = some p.2 ∧ H' p.1 = none) ∧ s'.heap.get? a = some go ∧ H' a = none := fun {ow σ' H' s'} J => by
    have q2 := J.pin (a, go) (List.mem_append_right _ (List.mem_append_right _ List.mem_cons_self))
    exact ⟨J.pins_of fun p hp => J.pin p (List.mem_append_right _ (List.mem_append_right _ (List.mem_cons_of_mem _ hp))), fun p hp => ⟨(J.pin p (List.mem_append_right _ (List.mem_append_left _ hp))).1, (J.pin p (List.mem_append_right _ (List.mem_append_left _ hp))).2.1⟩, q2.1, q2.2.1⟩
  obtain ⟨G, hG⟩ : ∃ G, G = forG n Pv D g tb := ⟨_, rfl⟩
  have hGn : G.n = n + 1 := by rw [hG]; rfl
  have hGok : G.ok = fun j H => ∃ σ, Pv j σ H := by rw [hG]; rfl
  have hGyd : ∀ j x H1 H2, G.yd j x H1 H2 → j < n ∧ ∀ σ, Pv j σ H1 → g x σ H2 fun σ2 H3 => tb { D with nx := Pv (j + 1), ct := Pv (j + 1), bk := D.nx } σ2 H3 := by rw [hG]; exact fun _ _ _ _ z => z
  have hGrt : ∀ j H1 H2, G.rt j H1 H2 → ∀ σ, Pv j σ H1 → D.nx σ H2 := by rw [hG]; exact fun _ _ _ z => z
  rw [← hG] at hPG
  clear hG
  obtain ⟨T, hT⟩ : ∃ T : Tag, T = fun m s H => s.pn = [(a, go)] ∧ 1 ≤ m ∧ m ≤ n + 1 ∧ ∃ σ ow, Inv X (ow ++ (a, go) :: pins) σ H s.toShared ∧ Pv (n + 1 - m) σ H := ⟨_, rfl⟩
  have Tm : ∀ {m : Nat} {s : Shared} {H : Hp} {σ : L2.St} {ow : List (Addr × Obj)}, 1 ≤ m → m ≤ n + 1 → Inv X (ow ++ (a, go) :: pins) σ H s → Pv (n + 1 - m) σ H → T m ⟨s, [(a, go)]⟩ H := fun h1 h2 J p => by
    rw [hT]
    exact ⟨rfl, h1, h2, _, _, J, p⟩
  have Tg : ∀ {m : Nat} {s : NTurn} {H : Hp}, T m s H → s.pn = [(a, go)] ∧ 1 ≤ m ∧ m ≤ n + 1 ∧ ∃ σ ow, Inv X (ow ++ (a, go) :: pins) σ H s.toShared ∧ Pv (n + 1 - m) σ H := fun z => by
    rw [hT] at z
    exact z
  clear hT
  have hd : X.A.handled = none := I1.ok.hd hc
  have tag : TagOk X.prog X.w X.K X.mg X.base X.A.in1 X.stack L T G := fun m s' H' z => by
    obtain ⟨h0, h1, h2, σ', ow', J, p⟩ := Tg z
    obtain ⟨J', q1, q3, q4⟩ := unpin J
    refine ⟨h1, by rw [hGn]; exact h2, by rw [hGok, hGn]; exact ⟨σ', p⟩, J.env0.in1, Nat.le_of_lt (Nat.lt_trans hLa (Heap.lt_size q3)), fun p hp => ?_⟩
    rw [h0] at hp
    rw [List.mem_singleton.mp hp]
    exact ⟨⟨q3, q4⟩, Nat.ne_of_gt hLa, fun z => absurd (hst a z) (Nat.not_lt.mpr (Nat.le_of_lt hLa)), da⟩
  have room : Room k X.A.in1 := ⟨hd, by have := hr.dp; show X.A.depth + 3 * k + 5 < _; omega, by have := hr.un; show X.A.units + 1 + 16 * k + 200 < _; omega⟩
  have wake2 := wake X.A.in1 T G hPG room I1.ok.frames tag
  clear wake hPG
  refine wpAny_pyIter_gen (hgen _ ea) ?_
  refine codeAny_forLoop_any (fun m s' => 1 ≤ m ∧ m ≤ n + 1 ∧ ∃ σ' H' ow' st, (∀ p ∈ ow', L ≤ p.1 ∧ (∀ v, p.2.data ≠ .cell v) ∧ a ≠ p.1) ∧ Inv X (ow' ++ (a, go) :: pins) σ' H' s' ∧ Pv (n + 1 - m) σ' H' ∧ s'.gens[gn]? = some st ∧ ∀ (s2 : NTurn) H2, T m s2 H2 → Kept s2.pn ow' s2 H2 →
    st.Goes (model X.prog X.w) X.A.in1 (NR X.prog X.w X.stack L T G) (NY X.prog X.w X.stack L T G) m (.send .none) s2) ?_ (n + 1)
    ⟨by omega, Nat.le_refl _, σ, H1, [(L, oL)], _, fun p hp => by rw [List.mem_singleton.mp hp]; exact ⟨Nat.le_refl _, dL, Nat.ne_of_gt hLa⟩, pinned I2 (fun p hp => by rw [List.mem_singleton.mp hp]; exact ⟨eL, hHL, Nat.le_refl _, dL⟩) ea hHa, by rw [Nat.sub_self]; exact p0, hgs, fun s2 H2 hT2 e2 => ⟨rfl, by rw [hGn] at wake2; exact wake2 s2 H2 hT2 e2⟩⟩
  rintro m s3 ⟨hm1, hmn, σ3, H3, ow3, st, ow3k, I3, p3, hgs3, hgo⟩
  obtain ⟨I3', e3L, e3a, n3a⟩ := unpin I3
  have I3r : Inv X (ow3 ++ (a, go) :: pins) σ3 H3 (s3.setGen gn .running) := I3.regen (allBare_setGen I3.bare rfl)
  have goes := hgo ⟨s3.setGen gn .running, [(a, go)]⟩ H3 (Tm hm1 hmn I3r p3) fun p hp => ⟨(e3L p hp).1, (e3L p hp).2, fun q hq => by rw [List.mem_singleton.mp hq]; exact (ow3k p hp).2.2⟩
  have hgn3 : gn < s3.gens.size := (Array.getElem?_eq_some_iff.mp hgs3).1
  refine wpAny_passesOwn hp ?_
  refine wpAny_gsz (n := gn + 1) hgn3 ?_
  refine next_susp (P := X.prog) (w := X.w) (A := X.A) (F := FN X.prog X.w X.stack L T G) (Y := NY X.prog X.w X.stack L T G) (n := m) hd I3.nolimit (by have := hr.dp; omega) (hgen _ e3a) hgs3 goes (fun v s4 gs' hbare hsusp hv => ?_) (fun s4 hv h' hk => ?_)
  · intro hsz
    obtain ⟨γ, H₀, x, H4, ow4, hT4, rv, B, how4, hpn4, nl4, hy, hk⟩ := hv
    obtain ⟨m', rfl⟩ : ∃ m', m = m' + 1 := ⟨m - 1, by omega⟩
    have em : m' + 1 - 1 = m' := rfl
    rw [em] at hT4 hy hk
    obtain ⟨eγ, _, _, σ₀, ow₀, I0, p4⟩ := Tg hT4
    have eγ : γ = [(a, go)] := eγ
    subst eγ
    obtain ⟨I0', e0L, e0a, n0a⟩ := unpin I0
    obtain ⟨eA, nA⟩ := hpn4 (a, go) (List.mem_singleton.mpr rfl)
    have I4 : Inv X pins σ₀ H4 s4 := I0'.back hL0 hLc hLp B
    have hgn4 : gn < s4.gens.size := by
      have q : (s4.setGen gn gs').gens.size = s4.gens.size := setGen_size _ _ _
      have hsz' : gn + 1 ≤ (s4.setGen gn gs').gens.size := hsz
      omega
    have ow4k : ∀ p ∈ ow4, L ≤ p.1 ∧ (∀ v, p.2.data ≠ .cell v) ∧ a ≠ p.1 := fun p hp => ⟨(how4 p hp).2.2.1, (how4 p hp).2.2.2.1, (how4 p hp).2.2.2.2 (a, go) List.mem_cons_self⟩
    have I5 : Inv X (ow4 ++ (a, go) :: pins) σ₀ H4 (s4.setGen gn gs') := (pinned I4 (fun p hp => ⟨(how4 p hp).1, (how4 p hp).2.1, (how4 p hp).2.2.1, (how4 p hp).2.2.2.1⟩) eA nA).regen (allBare_setGen I4.bare hbare)
    have st5 : (s4.setGen gn gs').gens[gn]? = some gs' := setGen_at hgn4
    rw [hGn] at hy
    obtain ⟨hjn, hy⟩ := hGyd _ _ _ _ hy
    have hy2 := hy σ₀ p4
    refine wpAny_passesOwn hp ?_
    obtain ⟨o, nm, qn, ho, hgc, hgd, hgsl⟩ := hgen _ eA
    refine go_of (s := s4.setGen gn gs') (o := o) ho hgc hgd (by decide) ?_
    refine wpAny_passesOwn hp (wpAny_mono (hg.stays I5 rv hy2) (fun _ s6 h6 => ?_) fun _ _ z => z.elim)
    obtain ⟨⟨σ6, H6, I6, q6⟩, stay6⟩ := h6
    refine wpAny_passesOwn hp (wpAny_mono (hb.stays I6 q6) (fun fl s7 h7 => ?_) fun _ _ z => z.elim)
    obtain ⟨q7, stay7⟩ := h7
    have gs7 : s7.gens[gn]? = some gs' := stay7 gn gs' (stay6 gn gs' st5 hsusp) hsusp
    have again : ∀ {σ7 : L2.St} {H7 : Hp}, Inv X (ow4 ++ (a, go) :: pins) σ7 H7 s7 → Pv (n + 1 - (m' + 1) + 1) σ7 H7 → ∃ m, m < m' + 1 ∧ 1 ≤ m ∧ m ≤ n + 1 ∧ ∃ σ' H' ow' st, (∀ p ∈ ow', L ≤ p.1 ∧ (∀ v, p.2.data ≠ .cell v) ∧ a ≠ p.1) ∧ Inv X (ow' ++ (a, go) :: pins) σ' H' s7 ∧ Pv (n + 1 - m) σ' H' ∧ s7.gens[gn]? = some st ∧ ∀ (s2 : NTurn) H2, T m s2 H2 → Kept s2.pn ow' s2 H2 →
        st.Goes (model X.prog X.w) X.A.in1 (NR X.prog X.w X.stack L T G) (NY X.prog X.w X.stack L T G) m (.send .none) s2 := fun {σ7 H7} J q => by
      have e : n + 1 - (m' + 1) + 1 = n + 1 - m' := by omega
      rw [e] at q
      exact ⟨m', Nat.lt_succ_self _, by omega, by omega, σ7, H7, ow4, gs', ow4k, J, q, gs7, fun s2 H2 z e2 => hk s2 H2 z e2⟩
    cases fl with
    | next => obtain ⟨σ7, H7, I7, n7⟩ := q7; exact again I7 n7
    | cont => obtain ⟨σ7, H7, I7, n7⟩ := q7; exact again I7 n7
    | brk => obtain ⟨σ7, H7, I7, n7⟩ := q7; exact ⟨σ7, H7, (unpin I7).1, n7⟩
    | ret u => obtain ⟨x7, σ7, H7, I7, r7, n7⟩ := q7; exact ⟨x7, σ7, H7, (unpin I7).1, r7, n7⟩
  · intro _
    obtain ⟨γ, H₀, H4, hT4, B, _, hrt⟩ := hv
    obtain ⟨_, _, _, σ₀, ow₀, I0, p4⟩ := Tg hT4
    have I4 : Inv X pins σ₀ H4 s4 := (unpin I0).1.back hL0 hLc hLp B
    have I5 : Inv X pins σ₀ H4 { s4.setGen gn .finished with heap := h' } := (I4.regen (allBare_setGen I4.bare rfl)).kept (t' := s4.toks) hk
    rw [hGn] at hrt
    exact wpAny_execs_nil ⟨σ₀, H4, I5, hGrt _ _ _ hrt σ₀ p4⟩
end L2

/-! defs that are such generators, where they stand; steps -/
namespace L2
open PySem PySem.Spec PyProof.Rows GenW
def tEither (t u : TS) : TS := fun D σ H => t D σ H ∨ u D σ H
theorem ps_either {X : Cx} {st : Stmt} {t u : TS} (a : PS X st t) (b : PS X st u) : PS X st (tEither t u) := ⟨fun pins s σ H D I h => h.elim (fun z => a.run pins s σ H D I z) fun z => b.run pins s σ H D I z⟩
/-- a generator whose first or second statement raises -/
theorem grfn2_of {P : Program} {w : World} {K : PySem.W.Frag} {mg : Str → Option Value} {base : Heap} {k : Nat} {f : Addr} {name qual : Str} {params : Arguments} {st st2 : Stmt} {rest : List Stmt} {scope : Scope} {dV kV doc pm cdv ct oc : Value} {an od : Option Addr}
    {osl : Array (Option Value)} {N ps : List Str} {sp : SpR} (lk : K.lookup f = some ⟨oc, od, .func (PySem.W.fnOf name qual params (st :: st2 :: rest) scope dV kV doc pm an cdv ct), osl⟩) (hcd : PySem.W.codeIn K cdv qual = true) (S : GScope N ps scope)
    (len : ∀ vs H E, sp vs H E → vs.length = ps.length)
    (hbody : ∀ (A : Around) (outer : List Env) (s : Shared) (H : Hp) (vs : List V) (E : XK) (pn : List (Addr × Obj)), Room k (A.deeper (envOfC qual scope s.heap.objs.size f cdv)) → sp vs H E →
      ∃ t t2, PS (gcxOf P w K mg base N qual scope f cdv A outer s H E pn) st t ∧ PS (gcxOf P w K mg base N qual scope f cdv A outer s H E pn) st2 t2 ∧ t { nx := fun σ' H' => t2 { nx := fun _ _ => False, rt := fun _ _ => False } σ' H', rt := fun _ _ => False } (start N vs) H) :
    GRFn P w K mg base (k + 1) f (PySem.W.fnOf name qual params (st :: st2 :: rest) scope dV kV doc pm an cdv ct) ps sp := by
  refine ⟨len, fun A outer s H args us vs E hr e0 hb r hsp => ?_⟩
  have hl := len _ _ _ hsp
  have KX : K.In s.heap := e0.mod.kin.keeps fun b o e => (e0.bs b o e).1
  have lim : s.heap.NoLimit := e0.mod.nolimit.keeps fun b o e => (e0.bs b o e).1
  have hkind : ∀ y ∈ ps.zip us, scope.names.lookup y.1 = some .local ∨ (scope.names.lookup y.1 = some .cell ∧ ((cellsFrom (s.heap.objs.size + 1) scope.names []).lookup y.1).isSome = true) := fun ⟨n, v⟩ hy => by
    rcases S.par n (List.of_mem_zip hy).1 with q | q
    · exact .inl q
    · exact .inr ⟨q, PySem.W.cellsFrom_some _ _ _ (.inl q)⟩
  refine codeAny_call_generator hr.depth (KX _ _ lk) rfl S.co S.gen rfl (PySem.W.codeRec_of KX hcd) (hb _ _ _ _ ?_)
  refine wpAny_newFunctionEnv_cells S.kind hkind fun env he s1 x => ?_
  subst he
  have lim1 : s1.heap.NoLimit := lim.keeps x.toInCall.keep
  refine ⟨lim1, ?_⟩
  obtain ⟨h1, tk, es1, hk1⟩ := x.done
  have os1 : s1.os = s.os := by rw [es1]
  have gen1 : s1.gens = s.gens := by rw [es1]
  have lt1 : s.heap.objs.size < s1.heap.objs.size := x.toInCall.ns.lt
  have sz1 : s.heap.objs.size ≤ s1.heap.objs.size := Nat.le_of_lt lt1
  have kp1 : ∀ b o, s.heap.get? b = some o → s1.heap.get? b = some o := x.toInCall.keep
  have main : ∀ (go : Obj) (nm qn : Value) (tk2 : Nat), go.cls = .type "generator" → go.data = .fields #[.int s1.gens.size 0, nm, qn] → go.slots = #[] → (∀ h : Heap, (h.push go).get? h.objs.size = some go) →
      GRMade P w (k + 1) outer H s E (.ref s1.heap.objs.size) { s1 with gens := s1.gens.push (.fresh (.func (st :: st2 :: rest) (envOfC qual scope s.heap.objs.size f cdv))), toks := tk2, heap := s1.heap.push go } := by
    intro go nm qn tk2 hgc hgd0 hgs hgp
    have hgen : ∀ h : Heap, h.get? s1.heap.objs.size = some go → h.IsGen s1.heap.objs.size s1.gens.size := fun h e => ⟨go, nm, qn, e, hgc, hgd0, hgs⟩
    have hpushed : (s1.heap.push go).get? s1.heap.objs.size = some go := hgp _
    refine ⟨s1.heap.objs.size, s1.gens.size, _, rfl, sz1, ?_, hgen _ hpushed, Array.getElem?_push_size .., os1, ?_, lim1.keeps fun b o e => Heap.get?_push_of_some _ e, fun b o e => Heap.get?_push_of_some _ (kp1 b o e), ?_⟩
    · show _ < (s1.heap.push _).objs.size
      rw [Heap.size_push]; exact Nat.lt_succ_self _
    · exact AllBare.push (by rw [gen1]; exact e0.bare) rfl
    intro Aw s2 hrw hfr hk2 hos hba
    have e0w : Env0 P w K mg base Aw outer s H := ⟨hfr, e0.mod, e0.bs, e0.bsz, e0.funs, e0.frf, e0.hok, e0.bare⟩
    obtain ⟨t, t2, ht, ht2, hq⟩ := hbody Aw outer s H vs E [(s1.heap.objs.size, go)] (hrw.deeper _) hsp
    have I1 : Inv (gcxOf P w K mg base N qual scope f cdv Aw outer s H E []) [] (start N vs) H s1 := inv_startG S hrw.hd e0w hl r x
    have kp2 : ∀ b o, s1.heap.get? b = some o → s2.heap.get? b = some o := fun b o e => hk2 b o (Heap.get?_push_of_some _ e)
    have I2 : Inv (gcxOf P w K mg base N qual scope f cdv Aw outer s H E []) [] (start N vs) H s2 :=
      I1.call' (ch := []) (hos.trans os1.symm) (Un.kept kp2) (I1.hok.kept kp2) hba fun b z => by simp at z
    have hea : s2.heap.get? s1.heap.objs.size = some go := hk2 s1.heap.objs.size go hpushed
    have hgd : ∀ v, go.data ≠ .cell v := fun v q => by rw [hgd0] at q; cases q
    have I3 : Inv (gcxOf P w K mg base N qual scope f cdv Aw outer s H E [(s1.heap.objs.size, go)]) [] (start N vs) H s2 := Inv.pinnedG I2 fun p hp => by
      rw [List.append_nil] at hp
      rw [List.mem_singleton.mp hp]
      exact ⟨hea, I1.hok.fresh (Nat.le_refl _), Nat.ne_of_gt lt1, I1.nofs (Nat.le_refl _), hgd⟩
    have out : ∀ (e : Value) (s' : Shared), (gcxOf P w K mg base N qual scope f cdv Aw outer s H E [(s1.heap.objs.size, go)]).xe e s' → Seg (model P w) Aw (RErr P w outer H s s1.heap.objs.size s1.gens.size E) (fun _ _ _ _ _ => False) 0 s2 (.func (st :: st2 :: rest) (envOfC qual scope s.heap.objs.size f cdv)) ((leaving (envOfC qual scope s.heap.objs.size f cdv) e).wrap (fun _ => .raise e) .raise id id) [] s' := fun e s' hx => by
      refine seg_wrap ?_
      rw [over_func]
      refine wpAny_mono (show wpAny (model P w) (Aw.deeper (envOfC qual scope s.heap.objs.size f cdv)) (leaving (envOfC qual scope s.heap.objs.size f cdv) e) (fun _ s'' => CX P w outer H s E e s'' ∧ ∀ p ∈ [(s1.heap.objs.size, go)], s''.heap.get? p.1 = some p.2) (fun _ _ => False) s' from hx) (fun _ s'' q => ?_) fun _ s'' q => q.elim
      exact seg_end (.error e) (.inr ⟨e, rfl, q.1, hgen _ (q.2 (s1.heap.objs.size, go) (List.mem_singleton.mpr rfl))⟩)
    refine seg_func ?_
    refine seg_execs_cons ?_
    refine seg_wrap ?_
    rw [over_func]
    refine wpAny_mono (ht.run [] s2 (start N vs) H _ I3 hq) (fun fl s' hs => ?_) fun e s' hx => ?_
    · cases fl with
      | next =>
        obtain ⟨σ', H', I4, q4⟩ := hs
        refine seg_execs_cons ?_
        refine seg_wrap ?_
        rw [over_func]
        refine wpAny_mono (ht2.run [] s' σ' H' _ I4 q4) (fun fl2 s5 hs2 => ?_) fun e s5 hx => ?_
        · cases fl2 with
          | next => obtain ⟨_, _, _, q⟩ := hs2; exact False.elim q
          | brk => obtain ⟨_, _, _, q⟩ := hs2; exact False.elim q
          | cont => obtain ⟨_, _, _, q⟩ := hs2; exact False.elim q
          | ret u => obtain ⟨_, _, _, _, _, q⟩ := hs2; exact False.elim q
        · exact out e s5 hx
      | brk => obtain ⟨_, _, _, q⟩ := hs; exact False.elim q
      | cont => obtain ⟨_, _, _, q⟩ := hs; exact False.elim q
      | ret u => obtain ⟨_, _, _, _, _, q⟩ := hs; exact False.elim q
    · exact out e s' hx
  exact main _ _ _ _ rfl rfl rfl fun h => Heap.get?_push_size _ rfl
end L2
namespace Pg
open PySem PySem.Spec PyProof.Rows L2 GenW
structure NnAt (P : Program) (w : World) (K : PySem.W.Frag) (mg : Str → Option Value) (base : Heap) (x : Str) (st : Stmt) (k : Nat) (ps : List Str) (sp : SpN) : Prop where
  ex : ∃ f fd, mg x = some (.ref f) ∧ Fun K x x st f fd ∧ NFn P w K mg base k f fd ps sp (fun _ _ => False) ∧ Binds K fd ps []
theorem FunAt.okN {P : Program} {w : World} {K : PySem.W.Frag} {mg : Str → Option Value} {base : Heap} {x : Str} {st : Stmt} {k : Nat} {ps N : List Str} {sp : SpN} (F : FunAt K mg x st) (S : GScope N ps (defScope st))
    (hnc : ∀ n, cellsFrom n (defScope st).names [] = []) (hno : ∀ y, (defScope st).names.lookup y ≠ some .cell ∧ (defScope st).names.lookup y ≠ some .free)
    (hb : ∀ (kV doc pm : Value) (an : Option Addr) (cdv ct : Value) (us : List Value), us.length = ps.length → bindArgs (PySem.W.fnOf x x (defArgs st) (defBody st) (defScope st) .none kV doc pm an cdv ct) ⟨us, []⟩ = pure (ps.zip us))
    (hbody : ∀ (f : Addr) (cdv : Value) (A : Around) (outer : List Env) (L : Addr) (vs : List V) (H : Hp), Room k (A.deeper (envOfC x (defScope st) L f cdv)) →
      ∃ t, NSs P w K mg base N x (defScope st) f cdv A outer L (defBody st) t ∧ ∀ G, sp vs H G → ∀ H₀, G.ok 0 H₀ → t G { nx := fun j H₀ _ H' => G.rt j H₀ H', rt := fun j H₀ v H' => v = .non ∧ G.rt j H₀ H' } 0 H₀ (start N vs) H₀) : NnAt P w K mg base x st (k + 1) ps sp := by
  obtain ⟨f, fd, hm, F⟩ := F.ex
  refine ⟨f, fd, hm, F, ?_, F.binds hb⟩
  obtain ⟨oc, od, kV, doc, pm, an, cdv, ct, osl, rfl, lk, hcd⟩ := F.ex
  exact nfn_of lk hcd S hnc hno (fun A outer L vs H hr => hbody f cdv A outer L vs H hr) fun _ _ _ _ _ _ _ _ h _ => h.elim
structure NRAt (P : Program) (w : World) (K : PySem.W.Frag) (mg : Str → Option Value) (base : Heap) (x : Str) (st : Stmt) (k : Nat) (ps : List Str) (sp : SpR) : Prop where
  ex : ∃ f fd, mg x = some (.ref f) ∧ Fun K x x st f fd ∧ GRFn P w K mg base k f fd ps sp ∧ Binds K fd ps []
theorem FunAt.okR2 {P : Program} {w : World} {K : PySem.W.Frag} {mg : Str → Option Value} {base : Heap} {x : Str} {st b₁ b₂ : Stmt} {rest : List Stmt} {k : Nat} {ps N : List Str} {sp : SpR} (F : FunAt K mg x st) (S : GScope N ps (defScope st)) (eb : defBody st = b₁ :: b₂ :: rest) (len : ∀ vs H E, sp vs H E → vs.length = ps.length)
    (hb : ∀ (kV doc pm : Value) (an : Option Addr) (cdv ct : Value) (us : List Value), us.length = ps.length → bindArgs (PySem.W.fnOf x x (defArgs st) (defBody st) (defScope st) .none kV doc pm an cdv ct) ⟨us, []⟩ = pure (ps.zip us))
    (hbody : ∀ (f : Addr) (cdv : Value) (A : Around) (outer : List Env) (s : Shared) (H : Hp) (vs : List V) (E : XK) (pn : List (Addr × Obj)), Room k (A.deeper (envOfC x (defScope st) s.heap.objs.size f cdv)) → sp vs H E →
      ∃ t t2, PS (gcxOf P w K mg base N x (defScope st) f cdv A outer s H E pn) b₁ t ∧ PS (gcxOf P w K mg base N x (defScope st) f cdv A outer s H E pn) b₂ t2 ∧ t { nx := fun σ' H' => t2 { nx := fun _ _ => False, rt := fun _ _ => False } σ' H', rt := fun _ _ => False } (start N vs) H) : NRAt P w K mg base x st (k + 1) ps sp := by
  obtain ⟨f, fd, hm, F⟩ := F.ex
  refine ⟨f, fd, hm, F, ?_, F.binds hb⟩
  obtain ⟨oc, od, kV, doc, pm, an, cdv, ct, osl, rfl, lk, hcd⟩ := F.ex
  rw [eb] at lk ⊢
  exact grfn2_of lk hcd S len fun A outer s H vs E pn hr h => hbody f cdv A outer s H vs E pn hr h
def tCallN (m : Nat) (sp : SpN) (t : TA) : TGenN := fun σ H C => t σ H fun vs H1 => vs.length = m ∧ C (sp vs H1) H1
def tCallR (sp : SpR) (t : TA) : TGr := fun σ H E => t σ H fun vs H1 => sp vs H1 E
section
variable {X : Cx} {x : Str} {st : Stmt} {k : Nat} {ps : List Str} {e : Expr} {es : List Expr} {t : TA} {p pos' : Pos}
theorem pgenN_call {sp : SpN} (D : NnAt X.prog X.w X.K X.mg X.base x st k ps sp) (hr : Room k X.A) (ha : PA X (e :: es) t) (hg : Gl X x := by rfl)
    (hdb : (x == ("__debug__" : Str)) = false := by decide) (he : starEach (e :: es) X.env = (false, eval e X.env) :: starEach es X.env := by rfl) (hpl : (backTo pos' (starEach es X.env)).any (·.1) = false := by rfl) :
    PGenN X k (.Call (.Name x p) (e :: es) [] pos') (tCallN ps.length sp t) := by
  obtain ⟨f, fd, hm, F, G, b⟩ := D.ex
  refine ⟨fun pins s σ H C I h => ?_⟩
  refine wpAny_Call_Name_kw (ld_glob I hg hm ?_ hdb)
  refine PySem.W.callWith_K (h₀ := X.base) I.ok.mod.kin F.kp (thn (ha.run pos' pins s σ H _ I h) fun us s1 ⟨vs, H1, I1, r, hl, q⟩ => ⟨I1.kIn, ?_⟩) he hpl
  refine wpAny_call (codeAny_mono (G.run X.A X.stack s1 H1 ⟨us, []⟩ us vs hr I1.env0 (binds0 b r hl I1.kIn) r hl) fun r s' hq => ?_)
  cases r with
  | error e => exact False.elim hq
  | ok fl =>
    cases fl with
    | ret u => exact ⟨H1, s1, _, I1, hq, q⟩
    | next => exact False.elim hq
    | brk => exact False.elim hq
    | cont => exact False.elim hq
theorem pgenR_call {sp : SpR} (D : NRAt X.prog X.w X.K X.mg X.base x st k ps sp) (hr : Room k X.A) (ha : PA X (e :: es) t) (hg : Gl X x := by rfl)
    (hdb : (x == ("__debug__" : Str)) = false := by decide) (he : starEach (e :: es) X.env = (false, eval e X.env) :: starEach es X.env := by rfl) (hpl : (backTo pos' (starEach es X.env)).any (·.1) = false := by rfl) :
    PGenR X k (.Call (.Name x p) (e :: es) [] pos') (tCallR sp t) := by
  obtain ⟨f, fd, hm, F, G, b⟩ := D.ex
  refine ⟨fun pins s σ H E I h => ?_⟩
  refine wpAny_Call_Name_kw (ld_glob I hg hm ?_ hdb)
  refine PySem.W.callWith_K (h₀ := X.base) I.ok.mod.kin F.kp (thn (ha.run pos' pins s σ H _ I h) fun us s1 ⟨vs, H1, I1, r, q⟩ => ⟨I1.kIn, ?_⟩) he hpl
  refine wpAny_call (codeAny_mono (G.run X.A X.stack s1 H1 ⟨us, []⟩ us vs E hr I1.env0 (binds0 b r (G.len _ _ _ q) I1.kIn) r q) fun r s' hq => ?_)
  cases r with
  | error e => exact False.elim hq
  | ok fl =>
    cases fl with
    | ret u => exact ⟨H1, s1, I1, hq⟩
    | next => exact False.elim hq
    | brk => exact False.elim hq
    | cont => exact False.elim hq
theorem ps_forGRC {sp : SpR} {W : WX} {tg : Expr} {body : List Stmt} {pos : Pos} (hp : PassesOwn (model X.prog X.w) X.A X.env X.xe) (hc : X.calm = true) (tkn : Takes X W) (D : NRAt X.prog X.w X.K X.mg X.base x st k ps sp) (hr : Room (k + 3) X.A) (ha : PA X (e :: es) t) (hg : Gl X x := by rfl)
    (hdb : (x == ("__debug__" : Str)) = false := by decide) (he : starEach (e :: es) X.env = (false, eval e X.env) :: starEach es X.env := by rfl) (hpl : (backTo pos' (starEach es X.env)).any (·.1) = false := by rfl)
    (hs : ∀ y, foldedSetIterable (.Call (.Name x p) (e :: es) [] pos') X.env y = pure y := by intro _; rfl) :
    PS X (.For tg (.Call (.Name x p) (e :: es) [] pos') body [] pos) (tForGR X.K (tCallR sp t) W) :=
  ps_forGR hp hc tkn (pgenR_call D (hr.mono (by omega)) ha hg hdb he hpl) hr hs
theorem ps_forNC {sp : SpN} {g : TG} {tb : TS} {tg : Expr} {body : List Stmt} {pos : Pos} (hp : PassesOwn (model X.prog X.w) X.A X.env X.xe) (hc : X.calm = true) (D : NnAt X.prog X.w X.K X.mg X.base x st k ps sp) (hr : Room (k + 3) X.A) (ha : PA X (e :: es) t) (hg' : PG X.nox tg g) (hb : PSs X.nox body tb) (hg : Gl X x := by rfl)
    (hdb : (x == ("__debug__" : Str)) = false := by decide) (he : starEach (e :: es) X.env = (false, eval e X.env) :: starEach es X.env := by rfl) (hpl : (backTo pos' (starEach es X.env)).any (·.1) = false := by rfl)
    (hs : ∀ y, foldedSetIterable (.Call (.Name x p) (e :: es) [] pos') X.env y = pure y := by intro _; rfl) :
    PS X (.For tg (.Call (.Name x p) (e :: es) [] pos') body [] pos) (tForN (tCallN ps.length sp t) g tb) :=
  ps_forN hp hc (pgenN_call D (hr.mono (by omega)) ha hg hdb he hpl) hr hg' hb hs
end
/-! ### steps -/
section
variable {G : GPost} {D : GEn} {j : Nat} {H₀ H : Hp} {σ : L2.St} {t u : TGm} {te : TE} {tc : TT} {tb : TGm} {ts : TS}
theorem w_nStart {N : List Str} {vs : List V} {σ' : L2.St} (e : L2.start N vs = σ') (h : t G D j H₀ σ' H) : t G D j H₀ (L2.start N vs) H := e ▸ h
theorem w_nThen (h : t G { D with nx := fun j' H₀' σ' H' => u G D j' H₀' σ' H' } j H₀ σ H) : tNThen t u G D j H₀ σ H := h
theorem w_n0 (h : ts (D.at j H₀) σ H) : tN0 ts G D j H₀ σ H := h
theorem w_nNil (h : D.nx j H₀ σ H) : tNil0 G D j H₀ σ H := h
theorem w_nAt (h : D.nx j H₀ σ H) : (D.at j H₀).nx σ H := h
def NYE (G : GPost) (D : GEn) (j : Nat) (H₀ : Hp) (σ : L2.St) : V → Hp → Prop := fun x H1 => G.yd j x H₀ H1 ∧ ∀ H2, G.ok (j + 1) H2 → D.nx (j + 1) H2 σ H2
theorem w_nYield (h : te σ H (NYE G D j H₀ σ)) : tNYield te G D j H₀ σ H := h
def NWh (W : Nat → Nat → Hp → L2.St → Hp → Prop) (m : Nat) (tb : TGm) (G : GPost) (D : GEn) (j : Nat) (H₀ : Hp) (σ : L2.St) (H1 : Hp) : Prop := ∃ M : Nat → Hp → L2.St → Hp → Prop, (∀ j' H₀' σ' H', M j' H₀' σ' H' → ∃ m', m' < m ∧ W m' j' H₀' σ' H') ∧ tb G { D with nx := M, ct := M, bk := D.nx } j H₀ σ H1
theorem w_nWhile (W : Nat → Nat → Hp → L2.St → Hp → Prop) (m0 : Nat) (h0 : W m0 j H₀ σ H) (hs : ∀ m j H₀ σ H, W m j H₀ σ H → tc σ H fun b H1 => if b = true then NWh W m tb G D j H₀ σ H1 else D.nx j H₀ σ H1) : tNWhile tc tb G D j H₀ σ H := ⟨W, ⟨m0, h0⟩, hs⟩
theorem w_nWh {W : Nat → Nat → Hp → L2.St → Hp → Prop} {m : Nat} (q : tb G { D with nx := fun j' H₀' σ' H' => ∃ m', m' < m ∧ W m' j' H₀' σ' H', ct := fun j' H₀' σ' H' => ∃ m', m' < m ∧ W m' j' H₀' σ' H', bk := D.nx } j H₀ σ H) : NWh W m tb G D j H₀ σ H := ⟨_, fun _ _ _ _ h => h, q⟩
end
section
variable {D : Ends} {σ : L2.St} {H : Hp} {g : TG} {tb : TS} {tr : TGenN} {t : TA}
def ForNE (D : Ends) (g : TG) (tb : TS) (σ : L2.St) : (GPost → Prop) → Hp → Prop := fun PG H1 => ∃ (n : Nat) (Pv : Nat → L2.St → Hp → Prop), Pv 0 σ H1 ∧ PG (forG n Pv D g tb)
theorem w_forN (h : tr σ H (ForNE D g tb σ)) : tForN tr g tb D σ H := h
def CallNE (m : Nat) (sp : SpN) (C : (GPost → Prop) → Hp → Prop) : List V → Hp → Prop := fun vs H1 => vs.length = m ∧ C (sp vs H1) H1
theorem w_callN {m : Nat} {sp : SpN} {C : (GPost → Prop) → Hp → Prop} (h : t σ H (CallNE m sp C)) : tCallN m sp t σ H C := h
theorem w_callNE {m : Nat} {sp : SpN} {C : (GPost → Prop) → Hp → Prop} {vs : List V} (e : vs.length = m) (h : C (sp vs H) H) : CallNE m sp C vs H := ⟨e, h⟩
theorem w_forNE {PG : GPost → Prop} (n : Nat) (Pv : Nat → L2.St → Hp → Prop) (h0 : Pv 0 σ H) (h : PG (forG n Pv D g tb)) : ForNE D g tb σ PG H := ⟨n, Pv, h0, h⟩
def CallRE (sp : SpR) (E : XK) : List V → Hp → Prop := fun vs H1 => sp vs H1 E
theorem w_callR {sp : SpR} {E : XK} (h : t σ H (CallRE sp E)) : tCallR sp t σ H E := h
theorem w_callRE {sp : SpR} {E : XK} {vs : List V} (h : sp vs H E) : CallRE sp E vs H := h
end
end Pg
namespace Pg
open PySem
/-- neither cells nor free names: by looking at all names -/
theorem nocells {ns : List (Str × NameKind)} (h : (ns.all fun y => y.2 != .cell && y.2 != .free) = true) (y : Str) : ns.lookup y ≠ some .cell ∧ ns.lookup y ≠ some .free := by
  have go : ∀ z, ns.lookup y = some z → z ≠ .cell ∧ z ≠ .free := fun z e => by
    have m := PySem.mem_of_lookup e
    have := List.all_eq_true.mp h _ m
    simpa using this
  exact ⟨fun e => (go _ e).1 rfl, fun e => (go _ e).2 rfl⟩
end Pg
namespace Pg
open PySem PySem.Spec PyProof.Rows L2
theorem ps_raiseXn {X : Cx} {mg0 : Str → Option Value} {K0 : PySem.W.Frag} {x : Str} {C : Addr} {qual : Str} {st : Stmt} {k : Nat} {W : WX} {e : Expr} {te : TE} {p pos pos2 : Pos} (T : ExAt K0 mg0 x C) (D : MDefAt X.prog X.w K0 mg0 X.base C "__init__" qual st k ["self", "value"] (spEInit K0 C)) (hr : Room (k + 1) X.A) (tk : Takes X W) (he : PE X e te)
    (hK : X.K = K0 := by rfl) (hM : X.mg = mg0 := by rfl) (hc : X.calm = true := by rfl) (hg : Gl X x := by rfl)
    (hdb : (x == ("__debug__" : Str)) = false := by decide) (hst : starEach [e] X.env = (false, eval e X.env) :: starEach [] X.env := by rfl) (hpl : (backTo pos (starEach [] X.env)).any (·.1) = false := by rfl) :
    PS X (.Raise (some (.Call (.Name x p) [e] [] pos)) none pos2) (tRaiseX K0 C W te) := by
  subst hK hM
  exact ps_raiseX T D hr tk he hc hg hdb hst hpl
end Pg

/-! a list comprehension over a generator: its turns and the block's own steps, by turns -/
namespace L2
open PySem PySem.Spec PyProof.Rows GenW
theorem rng_mem {L S b : Nat} : b ∈ List.range' L (S - L) ↔ L ≤ b ∧ b < S := by
  rw [List.mem_range'_1]
  omega
/-- an expression, and what sleeps stays -/
theorem PE.stays {X : Cx} {e : Expr} {te : TE} (he : PE X.nox e te) {pins : List (Addr × Obj)} {σ : L2.St} {H : Hp} {s : Shared} {Q : VK} (I : Inv X pins σ H s) (h : te σ H Q) :
    wpAny (model X.prog X.w) X.A (eval e X.env) (fun u s' => (∃ v H', Inv X pins σ H' s' ∧ RelV v u ∧ Q v H') ∧ Stays s s') (fun _ _ => False) s := by
  refine wpAny_mono (wpAny_deep (he.run pins (deep s) σ H Q ((I.wish _).deep) h)) (fun u s' hw => ?_) fun e s' hw => ?_
  · obtain ⟨st, G, ⟨v, H', I', r, q⟩, hbr⟩ := hw
    exact ⟨⟨v, H', I'.unwish.woke (hbr I.bare I'.bare), r, q⟩, st⟩
  · obtain ⟨_, _, q, _⟩ := hw
    exact q.elim
theorem app_stays {X : Cx} {pins : List (Addr × Obj)} {σ : L2.St} {H : Hp} {s : Shared} {D : Addr} {xs : List V} {y : V} {v : Value} (I : Inv X pins σ H s) (hD : H D = some (.lst xs)) (hz : xs.length < sizeLine) (r : RelV y v) :
    wpAny (model X.prog X.w) X.A (call (.builtin "list.append") [.ref D, v]) (fun _ s' => Inv X pins σ (upd H D (.lst (xs ++ [y]))) s' ∧ Stays s s') (fun _ _ => False) s := by
  refine wpAny_mono (wpAny_deep (app_ok (E := fun _ _ => False) (Q := fun _ s' => Inv X pins σ (upd H D (.lst (xs ++ [y]))) s') I.deep hD hz r fun s' I' => I')) (fun u s' hw => ?_) fun e s' hw => ?_
  · obtain ⟨st, G, I', hbr⟩ := hw
    exact ⟨I'.woke (hbr I.bare I'.bare), st⟩
  · obtain ⟨_, _, q, _⟩ := hw
    exact q.elim
def lcG (n : Nat) (Pv : Nat → Hp → Prop) (D : Addr) (g : TG) (te : TE) (σ0 : L2.St) (vs : List Nat) (Q : VK) : GPost where
  n := n + 1
  ok := Pv
  yd := fun j x H1 H2 => j < n ∧ (∃ acc, H2 D = some (.lst acc)) ∧ g x σ0 H2 fun σ2 H3 => wipe σ2 vs = σ0 ∧ te σ2 H3 fun y H4 => ∃ acc, H4 D = some (.lst acc) ∧ acc.length < sizeLine ∧ Pv (j + 1) (upd H4 D (.lst (acc ++ [y])))
  rt := fun j H1 H2 => (∃ acc, H2 D = some (.lst acc)) ∧ Q (.ref D) H2
def tLcN (tr : TGenN) (g : TG) (te : TE) (vs : List Nat) : TE := fun σ H Q => tr σ H fun PG H1 => ∀ D, H1 D = none → ∃ (n : Nat) (Pv : Nat → Hp → Prop), Pv 0 (upd H1 D (.lst [])) ∧ (∀ j H, Pv j H → ∃ acc, H D = some (.lst acc)) ∧ PG (lcG n Pv D g te (wipe σ vs) vs Q)
theorem pe_lcN {X : Cx} {k : Nat} {elt tg iter : Expr} {scope : Scope} {own : List (Str × Nat)} {pos : Pos} {tr : TGenN} {g : TG} {te : TE} (hc : X.calm = true) (hN : X.N.Nodup) (h : PGenN X k iter tr) (hr : Room (k + 3) X.A) (ok : BlkOk X.N X.env.scope scope own) (hnc : ∀ y ∈ scope.names, y.2 ≠ .cell)
    (hg : ∀ (s : Shared) (H : Hp) (C : Addr) (cl : List (Str × Addr)) (fp : List Addr), PG (X.blk s H scope (compEnvC scope cl C X.env) fp).nox tg g)
    (he : ∀ (s : Shared) (H : Hp) (C : Addr) (cl : List (Str × Addr)) (fp : List Addr), PE (X.blk s H scope (compEnvC scope cl C X.env) fp).nox elt te) (hs : ∀ x, foldedSetIterable iter X.env x = pure x := by intro _; rfl) :
    PE X (.ListComp elt [⟨tg, iter, [], 0⟩] scope pos) (tLcN tr g te (own.map (·.2))) := by
  refine ⟨fun pins s σ H Q I hw => ?_⟩
  rw [eval_ListComp]
  have hfree : ∀ y ∈ scope.names, y.2 = .free → ∃ c, X.env.cells.lookup y.1 = some c := fun y hy e => by
    rcases ok.free y hy e with k | k
    · exact I.ok.has _ (.inl k)
    · exact I.ok.has _ (.inr k)
  refine wpAny_comprehension_free (use := none) rfl hs (closure_ok hfree) ok.kind (fun y hy e => by rw [ok.uniq y hy, e]) (thn (h.run pins s σ H _ I hw) fun v s1 h1 => ?_)
  obtain ⟨H1, sc, PG, I1, ⟨L, a, gn, c, go, oL, rfl, hL1, hLa, ha2, eL, dL, ea, da, hgen, hgs, hos, hbr, kp, _, _, wake⟩, q⟩ := h1
  have hL0 : X.env.locals < L := Nat.lt_of_lt_of_le I1.lt hL1
  have hLc : ∀ x c, X.env.cells.lookup x = some c → c < L := fun x c e => by
    obtain ⟨v, o, ho, _⟩ := I1.cell x c e
    exact Nat.lt_of_lt_of_le (Heap.lt_size ho) hL1
  have hLp : ∀ p ∈ X.pn ++ pins, p.1 < L := fun p hp => Nat.lt_of_lt_of_le (Heap.lt_size (I1.pin p hp).1) hL1
  have hfs : ∀ b ∈ X.fs, b < L := fun b hb => Nat.lt_of_lt_of_le (frs_lt I1.funs b hb) hL1
  have hst : ∀ b ∈ frs X.stack, b < L := fun b hb => Nat.lt_of_lt_of_le (frs_lt I1.env0.funs b hb) hL1
  have nofs : ∀ b, L ≤ b → b ∉ X.fs := fun b hb z => absurd (hfs b z) (Nat.not_lt.mpr hb)
  have nost : ∀ b, L ≤ b → b ∉ frs X.stack := fun b hb z => absurd (hst b z) (Nat.not_lt.mpr hb)
  have I2 : Inv X pins σ H1 s1 := I1.call' (ch := []) hos (Un.kept kp) (I1.hok.kept kp) hbr fun b z => by simp at z
  have hHge : ∀ b, L ≤ b → H1 b = none := fun b hb => I1.hok.fresh (Nat.le_trans hL1 hb)
  have hab : X.s_0.heap.objs.size ≤ L := Nat.le_trans I1.ok.above (Nat.le_of_lt hL0)
  refine wpAny_pyIter_gen (hgen _ ea) ?_
  refine wpAny_newObj_type (newEnv_comp ?_) (by show 0 ≤ sizeLine; decide)
  generalize hD : s1.heap.objs.size = D
  have haD : a < D := by rw [← hD]; exact ha2
  have hLD : L < D := Nat.lt_trans hLa haD
  have hDn : H1 D = none := I2.hok.fresh (Nat.le_of_eq hD)
  obtain ⟨n, Pv, p0, pD, hPG⟩ := q D hDn
  generalize hs3 : ({ s1 with heap := s1.heap.push { cls := .type "list", data := .seq ([] : List Value).toArray } } : Shared) = s3
  have I3 : Inv X pins σ (upd H1 D (.lst [])) s3 := by
    rw [← hs3]
    refine I2.laid (t' := s1.toks) (fun b o e => Heap.get?_push_of_some _ e) (Nat.le_of_eq hD) ⟨Nat.zero_le _, [], 0, .nil, ?_⟩
    rw [← hD]
    exact Heap.get?_push_size _ rfl
  have h3 : s3.heap = s1.heap.push { cls := .type "list", data := .seq ([] : List Value).toArray } := by rw [← hs3]
  have hC : s3.heap.objs.size = D + 1 := by rw [h3, Heap.size_push, hD]
  have g3 : s3.gens = s1.gens := by rw [← hs3]
  have kp3 : ∀ b o, s1.heap.get? b = some o → s3.heap.get? b = some o := fun b o e => by rw [h3]; exact Heap.get?_push_of_some _ e
  obtain ⟨fp, hfp⟩ : ∃ fp, fp = List.range' L (D - L) := ⟨_, rfl⟩
  have memfp : ∀ b : Nat, b ∈ fp ↔ L ≤ b ∧ b < D := fun b => by
    rw [hfp, List.mem_range'_1]
    constructor
    · rintro ⟨h1, h2⟩
      exact ⟨h1, by omega⟩
    · rintro ⟨h1, h2⟩
      exact ⟨h1, by omega⟩
  clear hfp
  have f3 : ∀ b ∈ fp, FpOk X pins (upd H1 D (.lst [])) b ∧ b < s3.heap.objs.size := fun b hb => by
    obtain ⟨h1, h2⟩ := (memfp b).mp hb
    refine ⟨⟨?_, Nat.ne_of_gt (Nat.lt_of_lt_of_le hL0 h1), nofs b h1, .inr (Nat.le_trans hab h1), fun x c e z => ?_, fun p hp z => ?_⟩, by rw [hC]; exact Nat.lt_succ_of_lt h2⟩
    · rw [upd_ne (Nat.ne_of_lt h2)]
      exact hHge b h1
    · exact absurd (hLc x c e) (Nat.not_lt.mpr (z ▸ h1))
    · exact absurd (hLp p hp) (Nat.not_lt.mpr (z ▸ h1))
  have I4 := block_start I3 ok hN f3
  have pg := hg s3 (upd H1 D (.lst [])) s3.heap.objs.size (cellsFrom (s3.heap.objs.size + 1) scope.names (cloFrom X.env.cells scope.names [])) fp
  have pe := he s3 (upd H1 D (.lst [])) s3.heap.objs.size (cellsFrom (s3.heap.objs.size + 1) scope.names (cloFrom X.env.cells scope.names [])) fp
  have cC : ∀ x c, (cellsFrom (s3.heap.objs.size + 1) scope.names (cloFrom X.env.cells scope.names [])).lookup x = some c → c < L := fun x c e => by
    rw [← Heap.size_push s3.heap { cls := .type "dict", data := .dict #[] }] at e
    rcases cells_mem (PySem.mem_of_lookup e) with hm | ⟨h1, _, _⟩
    · rcases cloFrom_mem hm with hm | ⟨h1, rfl⟩
      · cases hm
      · obtain ⟨c, hc⟩ := hfree _ h1 rfl
        rw [hc]
        exact hLc _ _ hc
    · exact absurd rfl (hnc _ h1)
  show codeAny _ _ (.compStart (.ListComp elt [⟨tg, iter, [], 0⟩] scope pos) 0 (.ref a) (.ref D) (compEnvC scope (cellsFrom (s3.heap.objs.size + 1) scope.names (cloFrom X.env.cells scope.names [])) s3.heap.objs.size X.env)) (compPost (model X.prog X.w) X.A X.xe none _ (.ref D) s3.heap.objs.size) { s3 with heap := pushCells (s3.heap.push { cls := .type "dict", data := .dict #[] }) scope.names }
  have cC2 : ∀ x c, (compEnvC scope (cellsFrom (s3.heap.objs.size + 1) scope.names (cloFrom X.env.cells scope.names [])) s3.heap.objs.size X.env).cells.lookup x = some c → c < L := cC
  generalize hce : compEnvC scope (cellsFrom (s3.heap.objs.size + 1) scope.names (cloFrom X.env.cells scope.names [])) s3.heap.objs.size X.env = ce at I4 pg pe cC2 ⊢
  have cL : ce.locals = D + 1 := by subst hce; exact hC
  generalize hH3 : upd H1 D (.lst []) = H3 at I3 I4 pg pe p0 f3
  have nH3 : ∀ b, L ≤ b → b ≠ D → H3 b = none := fun b h1 h2 => by
    rw [← hH3, upd_ne h2]
    exact hHge b h1
  generalize hs4 : ({ s3 with heap := pushCells (s3.heap.push { cls := .type "dict", data := .dict #[] }) scope.names } : Shared) = s4 at I4 ⊢
  have kp4 : ∀ b o, s1.heap.get? b = some o → s4.heap.get? b = some o := fun b o e => by rw [← hs4]; exact pushCells_keeps _ _ _ _ (Heap.get?_push_of_some _ (kp3 b o e))
  have g4 : s4.gens = s1.gens := by rw [← hs4, ← g3]
  generalize hσ : wipe σ (own.map (·.2)) = σ0 at I4 hPG ⊢
  obtain ⟨G, hG⟩ : ∃ G, G = lcG n Pv D g te σ0 (own.map (·.2)) Q := ⟨_, rfl⟩
  have hGn : G.n = n + 1 := by rw [hG]; rfl
  have hGok : G.ok = Pv := by rw [hG]; rfl
  have hGyd : ∀ j x H1 H2, G.yd j x H1 H2 → j < n ∧ (∃ acc, H2 D = some (.lst acc)) ∧ g x σ0 H2 fun σ2 H3 => wipe σ2 (own.map (·.2)) = σ0 ∧ te σ2 H3 fun y H4 => ∃ acc, H4 D = some (.lst acc) ∧ acc.length < sizeLine ∧ Pv (j + 1) (upd H4 D (.lst (acc ++ [y]))) := by rw [hG]; exact fun _ _ _ _ z => z
  have hGrt : ∀ j H1 H2, G.rt j H1 H2 → (∃ acc, H2 D = some (.lst acc)) ∧ Q (.ref D) H2 := by rw [hG]; exact fun _ _ _ z => z
  rw [← hG] at hPG
  clear hG
  -- back in the def's context
  have backX : ∀ {σ' : L2.St} {pins' : List (Addr × Obj)} {H' : Hp} {s' : Shared}, Inv (X.blk s3 H3 scope ce fp) pins' σ' H' s' → Inv X pins σ H' s' := fun {σ' pins' H' s'} J =>
    I3.call' (ch := fp) J.os J.base J.hok J.bare fun b hb => ⟨(f3 b hb).1.2.2.2.1, (f3 b hb).1.2.1, (f3 b hb).1.2.2.2.2.1, (f3 b hb).1.2.2.2.2.2⟩
  have pinned : ∀ {ow : List (Addr × Obj)} {σ' : L2.St} {pins' : List (Addr × Obj)} {H' : Hp} {s' : Shared}, Inv (X.blk s3 H3 scope ce fp) pins' σ' H' s' → (∀ p ∈ ow, s'.heap.get? p.1 = some p.2 ∧ H' p.1 = none ∧ L ≤ p.1 ∧ (∀ v, p.2.data ≠ .cell v) ∧ p.1 ≠ D + 1) → s'.heap.get? a = some go → H' a = none → Inv (X.blk s3 H3 scope ce fp) (ow ++ [(a, go)]) σ' H' s' := fun {ow σ' pins' H' s'} J e e2 n2 => J.pins_of fun p hp => by
    rcases List.mem_append.mp hp with z | hp
    · obtain ⟨z1, z2, z3, z4, z5⟩ := e p z
      exact ⟨z1, z2, by show p.1 ≠ ce.locals; rw [cL]; exact z5, nost _ z3, z4⟩
    · rw [List.mem_singleton.mp hp]
      exact ⟨e2, n2, by show a ≠ ce.locals; rw [cL]; exact Nat.ne_of_lt (Nat.lt_succ_of_lt haD), nost a (Nat.le_of_lt hLa), da⟩
  have unpin : ∀ {ow : List (Addr × Obj)} {σ' : L2.St} {H' : Hp} {s' : Shared}, Inv (X.blk s3 H3 scope ce fp) (ow ++ [(a, go)]) σ' H' s' → (∀ p ∈ ow, s'.heap.get? p.1 = some p.2 ∧ H' p.1 = none) ∧ s'.heap.get? a = some go ∧ H' a = none := fun {ow σ' H' s'} J => by
    have q2 := J.pin (a, go) (List.mem_append_right _ (List.mem_append_right _ List.mem_cons_self))
    exact ⟨fun p hp => ⟨(J.pin p (List.mem_append_right _ (List.mem_append_left _ hp))).1, (J.pin p (List.mem_append_right _ (List.mem_append_left _ hp))).2.1⟩, q2.1, q2.2.1⟩
  obtain ⟨pn, hpn⟩ : ∃ pn : Shared → List (Addr × Obj), pn = fun s => match s.heap.get? (D + 1) with | some o => [(a, go), (D + 1, o)] | none => [(a, go)] := ⟨_, rfl⟩
  have pnm : ∀ {s : Shared} {p : Addr × Obj}, p ∈ pn s → p = (a, go) ∨ (p.1 = D + 1 ∧ s.heap.get? (D + 1) = some p.2) := fun {s p} hp => by
    rw [hpn] at hp
    dsimp only at hp
    split at hp
    · rename_i o ho
      rcases List.mem_cons.mp hp with z | hp
      · exact .inl z
      · rw [List.mem_singleton.mp hp]
        exact .inr ⟨rfl, ho⟩
    · exact .inl (List.mem_singleton.mp hp)
  have pna : ∀ s : Shared, (a, go) ∈ pn s := fun s => by
    rw [hpn]
    dsimp only
    split
    · exact List.mem_cons_self
    · exact List.mem_cons_self
  have pnC : ∀ {s : Shared} {o : Obj}, s.heap.get? (D + 1) = some o → (D + 1, o) ∈ pn s := fun {s o} e => by
    rw [hpn]
    dsimp only
    rw [e]
    exact List.mem_cons_of_mem _ List.mem_cons_self
  clear hpn
  obtain ⟨T, hT⟩ : ∃ T : Tag, T = fun m s H => s.pn = pn s.toShared ∧ 1 ≤ m ∧ m ≤ n + 1 ∧ (∃ ow, Inv (X.blk s3 H3 scope ce fp) (ow ++ [(a, go)]) σ0 H s.toShared) ∧ Pv (n + 1 - m) H := ⟨_, rfl⟩
  have Tm : ∀ {m : Nat} {s : Shared} {H : Hp} {ow : List (Addr × Obj)}, 1 ≤ m → m ≤ n + 1 → Inv (X.blk s3 H3 scope ce fp) (ow ++ [(a, go)]) σ0 H s → Pv (n + 1 - m) H → T m ⟨s, pn s⟩ H := fun h1 h2 J p => by
    rw [hT]
    exact ⟨rfl, h1, h2, ⟨_, J⟩, p⟩
  have Tg : ∀ {m : Nat} {s : NTurn} {H : Hp}, T m s H → s.pn = pn s.toShared ∧ 1 ≤ m ∧ m ≤ n + 1 ∧ (∃ ow, Inv (X.blk s3 H3 scope ce fp) (ow ++ [(a, go)]) σ0 H s.toShared) ∧ Pv (n + 1 - m) H := fun z => by
    rw [hT] at z
    exact z
  clear hT
  have dict : ∀ {pins' : List (Addr × Obj)} {σ' : L2.St} {H' : Hp} {s' : Shared}, Inv (X.blk s3 H3 scope ce fp) pins' σ' H' s' → ∃ o, s'.heap.get? (D + 1) = some o ∧ (∀ v, o.data ≠ .cell v) ∧ H' (D + 1) = none := fun {pins' σ' H' s'} J => by
    obtain ⟨m, ⟨o, es, ep, ho, r⟩, _⟩ := J.loc
    have ho : s'.heap.get? ce.locals = some o := ho
    rw [cL] at ho
    have hf : H' ce.locals = none := J.free
    rw [cL] at hf
    refine ⟨o, ho, fun v z => ?_, hf⟩
    have := r.1
    rw [this] at z
    cases z
  have hd : X.A.handled = none := I1.ok.hd hc
  have tag : TagOk X.prog X.w X.K X.mg X.base X.A.in1 X.stack L T G := fun m s' H' z => by
    obtain ⟨h0, h1, h2, ⟨ow', J⟩, p⟩ := Tg z
    obtain ⟨q1, q3, q4⟩ := unpin J
    refine ⟨h1, by rw [hGn]; exact h2, by rw [hGok, hGn]; exact p, (backX J).env0.in1, Nat.le_of_lt (Nat.lt_trans hLa (Heap.lt_size q3)), fun p hp => ?_⟩
    rw [h0] at hp
    rcases pnm hp with z | ⟨z1, z2⟩
    · rw [z]
      exact ⟨⟨q3, q4⟩, Nat.ne_of_gt hLa, nost a (Nat.le_of_lt hLa), da⟩
    · obtain ⟨o, ho, hno, hfr⟩ := dict J
      rw [z1]
      have eo : o = p.2 := Option.some.inj (ho.symm.trans z2)
      exact ⟨⟨z2, hfr⟩, Nat.ne_of_gt (Nat.lt_succ_of_lt hLD), nost _ (Nat.le_of_lt (Nat.lt_succ_of_lt hLD)), eo ▸ hno⟩
  have room : Room k X.A.in1 := ⟨hd, by have := hr.dp; show X.A.depth + 3 * k + 5 < _; omega, by have := hr.un; show X.A.units + 1 + 16 * k + 200 < _; omega⟩
  have wake2 := wake X.A.in1 T G hPG room I1.ok.frames tag
  clear wake hPG
  -- behind a turn of the generator
  have back : ∀ {s₀ s5 : Shared} {H₀ H5 : Hp} {ow₀ : List (Addr × Obj)}, Inv (X.blk s3 H3 scope ce fp) (ow₀ ++ [(a, go)]) σ0 H₀ s₀ → (∃ acc, H₀ D = some (.lst acc)) → (∃ acc, H5 D = some (.lst acc)) → Back X.prog X.w X.stack L s₀ s5 H₀ H5 → (∀ p ∈ pn s₀, s5.heap.get? p.1 = some p.2 ∧ H5 p.1 = none) → Inv (X.blk s3 H3 scope ce fp) [] σ0 H5 s5 := fun {s₀ s5 H₀ H5 ow₀} J hD0 hD5 B hp => by
    obtain ⟨os, bare, un, hok⟩ := B
    obtain ⟨acc0, hD0⟩ := hD0
    obtain ⟨acc5, hD5⟩ := hD5
    obtain ⟨o, ho, _, _⟩ := dict J
    obtain ⟨pC1, pC2⟩ := hp _ (pnC ho)
    have J' : Inv (X.blk s3 H3 scope ce fp) [] σ0 H₀ s₀ := J.pins_of fun p hp => by simp at hp
    have hcase : ∀ b o, s₀.heap.get? b = some o → b ∉ (List.range' L (s₀.heap.objs.size - L)).filter (fun b => b != D && b != D + 1) → b < L ∨ b = D ∨ b = D + 1 := fun b o e hx => by
      have h1 := Heap.lt_size e
      by_cases h2 : (b : Nat) < L
      · exact .inl h2
      by_cases h3 : b = D
      · exact .inr (.inl h3)
      by_cases h4 : b = D + 1
      · exact .inr (.inr h4)
      refine absurd (List.mem_filter.mpr ⟨rng_mem.mpr ⟨Nat.le_of_not_lt h2, h1⟩, ?_⟩) hx
      simp [h3, h4]
    refine J'.call' (ch := (List.range' L (s₀.heap.objs.size - L)).filter (fun b => b != D && b != D + 1)) os ⟨fun b o e n hb hx => ?_, fun b o e n hb hx => ?_, fun b o e n hx => ?_, fun b o e hx => ?_, un.tups, un.frzs, un.tbls⟩ hok bare fun b hb => ?_
    · rcases hcase b o e hx with z | z | z
      · exact un.keep b o (cutH_in z e) n hb (by simp)
      · rw [z, hD0] at n
        cases n
      · rw [z] at e ⊢
        rw [e] at ho
        cases ho
        exact pC1
    · exact un.slot b o (cutH_in (hst b hb) e) n hb (by simp)
    · rcases hcase b o e hx with z | z | z
      · exact un.free b o (cutH_in z e) n (by simp)
      · rw [z, hD0] at n
        cases n
      · rw [z]
        exact pC2
    · rcases hcase b o e hx with z | z | z
      · exact un.there b o (cutH_in z e) (by simp)
      · rw [z]
        obtain ⟨_, its, nn, _, e5⟩ := hok D _ hD5
        exact ⟨_, e5⟩
      · rw [z]
        exact ⟨_, pC1⟩
    · obtain ⟨hb1, hb2⟩ := List.mem_filter.mp hb
      have hb1 := (rng_mem.mp hb1).1
      simp only [Bool.and_eq_true, bne_iff_ne, ne_eq] at hb2
      obtain ⟨n1, n2⟩ := hb2
      refine ⟨?_, by show b ≠ ce.locals; rw [cL]; exact n2, fun x c e z => ?_, fun p hp => by simp at hp⟩
      · by_cases h : (b : Nat) < D
        · exact .inl ((memfp b).mpr ⟨hb1, h⟩)
        · refine .inr ?_
          show s3.heap.objs.size ≤ b
          rw [hC]
          exact Nat.lt_of_le_of_ne (Nat.le_of_not_lt h) (Ne.symm n1)
      · exact absurd (cC2 x c e) (Nat.not_lt.mpr (z ▸ hb1))
  have loop : codeAny (model X.prog X.w) X.A (.compLoop (.ListComp elt [⟨tg, iter, [], 0⟩] scope pos) 0 (.ref a) (.ref D) ce) (compPost (model X.prog X.w) X.A X.xe none (fun u s' => ∃ v H', Inv X pins σ H' s' ∧ RelV v u ∧ Q v H') (.ref D) s3.heap.objs.size) s4 := by
    refine compLoop_any (fun m s' => 1 ≤ m ∧ m ≤ n + 1 ∧ ∃ H' ow' st, (∀ p ∈ ow', L ≤ p.1 ∧ (∀ v, p.2.data ≠ .cell v) ∧ a ≠ p.1 ∧ p.1 ≠ D + 1) ∧ Inv (X.blk s3 H3 scope ce fp) (ow' ++ [(a, go)]) σ0 H' s' ∧ Pv (n + 1 - m) H' ∧ s'.gens[gn]? = some st ∧ ∀ (s2 : NTurn) H2, T m s2 H2 → Kept s2.pn ow' s2 H2 →
      st.Goes (model X.prog X.w) X.A.in1 (NR X.prog X.w X.stack L T G) (NY X.prog X.w X.stack L T G) m (.send .none) s2) ?_ (n + 1)
      ⟨by omega, Nat.le_refl _, H3, [(L, oL)], .fresh c, fun p hp => by rw [List.mem_singleton.mp hp]; exact ⟨Nat.le_refl _, dL, Nat.ne_of_gt hLa, Nat.ne_of_lt (Nat.lt_succ_of_lt hLD)⟩, pinned I4 (fun p hp => by rw [List.mem_singleton.mp hp]; exact ⟨kp4 _ _ eL, nH3 L (Nat.le_refl _) (Nat.ne_of_lt hLD), Nat.le_refl _, dL, Nat.ne_of_lt (Nat.lt_succ_of_lt hLD)⟩) (kp4 _ _ ea) (nH3 a (Nat.le_of_lt hLa) (Nat.ne_of_lt haD)), by rw [Nat.sub_self]; exact p0, by rw [g4]; exact hgs, fun s2 H2 hT2 e2 => ⟨rfl, by rw [hGn] at wake2; exact wake2 s2 H2 hT2 e2⟩⟩
    rintro m s5 ⟨hm1, hmn, H5, ow5, st, ow5k, I5, p5, hgs5, hgo⟩
    obtain ⟨e5L, e5a, n5a⟩ := unpin I5
    have I5r : Inv (X.blk s3 H3 scope ce fp) (ow5 ++ [(a, go)]) σ0 H5 (s5.setGen gn .running) := I5.regen (allBare_setGen I5.bare rfl)
    have goes := hgo ⟨s5.setGen gn .running, pn (s5.setGen gn .running)⟩ H5 (Tm hm1 hmn I5r p5) fun p hp => ⟨(e5L p hp).1, (e5L p hp).2, fun q hq => by
      rcases pnm hq with z | ⟨z, _⟩
      · rw [z]
        exact (ow5k p hp).2.2.1
      · rw [z]
        exact (ow5k p hp).2.2.2.symm⟩
    have hgn5 : gn < s5.gens.size := (Array.getElem?_eq_some_iff.mp hgs5).1
    refine wpAny_gsz (n := gn + 1) hgn5 ?_
    refine next_susp (P := X.prog) (w := X.w) (A := X.A) (F := FN X.prog X.w X.stack L T G) (Y := NY X.prog X.w X.stack L T G) (n := m) hd I5.nolimit (by have := hr.dp; omega) (hgen _ e5a) hgs5 goes (fun v s6 gs' hbare hsusp hv => ?_) (fun s6 hv h' hk => ?_)
    · intro hsz
      obtain ⟨γ, H₀, x, H6, ow6, hT6, rv, B, how6, hpn6, nl6, hy, hk⟩ := hv
      obtain ⟨m', rfl⟩ : ∃ m', m = m' + 1 := ⟨m - 1, by omega⟩
      have em : m' + 1 - 1 = m' := rfl
      rw [em] at hT6 hy hk
      obtain ⟨eγ, _, _, ⟨ow₀, I0⟩, p6⟩ := Tg hT6
      have eγ : γ = pn (s5.setGen gn .running) := eγ
      subst eγ
      rw [hGn] at hy
      obtain ⟨hjn, hD6, hy2⟩ := hGyd _ _ _ _ hy
      obtain ⟨eA, nA⟩ := hpn6 (a, go) (pna _)
      have I6 : Inv (X.blk s3 H3 scope ce fp) [] σ0 H6 s6 := back I0 (pD _ _ p6) hD6 B hpn6
      have hgn6 : gn < s6.gens.size := by
        have q : (s6.setGen gn gs').gens.size = s6.gens.size := setGen_size _ _ _
        have hsz' : gn + 1 ≤ (s6.setGen gn gs').gens.size := hsz
        omega
      obtain ⟨oC, hoC, _, _⟩ := dict I0
      have ow6k : ∀ p ∈ ow6, L ≤ p.1 ∧ (∀ v, p.2.data ≠ .cell v) ∧ a ≠ p.1 ∧ p.1 ≠ D + 1 := fun p hp => ⟨(how6 p hp).2.2.1, (how6 p hp).2.2.2.1, (how6 p hp).2.2.2.2 (a, go) (pna _), ((how6 p hp).2.2.2.2 (D + 1, oC) (pnC hoC)).symm⟩
      have I7 : Inv (X.blk s3 H3 scope ce fp) (ow6 ++ [(a, go)]) σ0 H6 (s6.setGen gn gs') := (pinned I6 (fun p hp => ⟨(how6 p hp).1, (how6 p hp).2.1, (how6 p hp).2.2.1, (how6 p hp).2.2.2.1, (ow6k p hp).2.2.2⟩) eA nA).regen (allBare_setGen I6.bare hbare)
      have st7 : (s6.setGen gn gs').gens[gn]? = some gs' := setGen_at hgn6
      obtain ⟨o, nm, qn, ho, hgc, hgd, hgsl⟩ := hgen _ eA
      refine go_of (s := s6.setGen gn gs') (o := o) ho hgc hgd (by decide) ?_
      refine thnF (pg.stays I7 rv hy2) fun _ s8 h8 => ?_
      obtain ⟨⟨σ8, H8, I8, hw8, q8⟩, stay8⟩ := h8
      refine wpAny_tests_nil ?_
      rw [if_pos rfl]
      refine thnF (pe.stays I8 q8) fun z s10 h10 => ?_
      obtain ⟨⟨yv, H10, I10, r10, acc, hD10, hz10, nx⟩, stay10⟩ := h10
      refine thnF (app_stays (X := X.blk s3 H3 scope ce fp) I10 hD10 hz10 r10) fun _ s11 h11 => ?_
      obtain ⟨I11, stay11⟩ := h11
      have gs11 : s11.gens[gn]? = some gs' := stay11 gn gs' (stay10 gn gs' (stay8 gn gs' st7 hsusp) hsusp) hsusp
      have e : n + 1 - (m' + 1) + 1 = n + 1 - m' := by omega
      rw [e] at nx
      have hl : σ0.length = σ8.length := by rw [← hw8, wipe_length]
      exact ⟨m', Nat.lt_succ_self _, by omega, by omega, _, ow6, gs', ow6k, I11.weak hl (fun j v e => by rw [← hw8] at e; exact (wipe_some e).1), nx, gs11, fun s2 H2 z e2 => hk s2 H2 z e2⟩
    · intro _
      obtain ⟨γ, H₀, H6, hT6, B, hpn6, hrt⟩ := hv
      obtain ⟨eγ, _, _, ⟨ow₀, I0⟩, p6⟩ := Tg hT6
      have eγ : γ = pn (s5.setGen gn .running) := eγ
      subst eγ
      obtain ⟨hD6, qq⟩ := hGrt _ _ _ hrt
      have I6 : Inv (X.blk s3 H3 scope ce fp) [] σ0 H6 s6 := back I0 (pD _ _ p6) hD6 B hpn6
      have I7 : Inv (X.blk s3 H3 scope ce fp) [] σ0 H6 { s6.setGen gn .finished with heap := h' } := (I6.regen (allBare_setGen I6.bare rfl)).kept (t' := s6.toks) hk
      have I8 := backX I7
      have nC : H6 s3.heap.objs.size = none := by
        have z : H6 ce.locals = none := I7.free
        rw [cL] at z
        rw [hC]
        exact z
      obtain ⟨m, hn, _⟩ := I7.loc
      have hn : ({ s6.setGen gn .finished with heap := h' } : Shared).heap.Ns ce.locals m := hn
      rw [cL, ← hC] at hn
      refine ⟨m, hn, fun h'' sb => ?_⟩
      obtain ⟨f0, f1, f2, f3, f4, f5⟩ := I3.fpOk (Nat.le_refl _) nC
      exact ⟨.ref D, H6, I8.turned (t' := _) (fun b o hb e => (sb.2 b hb).trans e) f0 f1 f3 f4 f5, rfl, qq⟩
  exact codeAny_compStart_list loop (wpAny_pyIter_gen (hgen _ (kp4 _ _ ea)) loop)
end L2
namespace Pg
open PySem PySem.Spec PyProof.Rows L2
section
variable {X : Cx} {x : Str} {st : Stmt} {k : Nat} {ps : List Str} {e : Expr} {es : List Expr} {t : TA} {p pos' : Pos}
theorem pe_lcNC {sp : SpN} {elt tg : Expr} {scope : Scope} {own : List (Str × Nat)} {pos : Pos} {g : TG} {te : TE} (D : NnAt X.prog X.w X.K X.mg X.base x st k ps sp) (hr : Room (k + 3) X.A) (ha : PA X (e :: es) t) (hc : X.calm = true) (hN : X.N.Nodup) (ok : BlkOk X.N X.env.scope scope own) (hnc : (scope.names.all fun y => y.2 != .cell) = true)
    (hg' : ∀ (s : Shared) (H : Hp) (C : Addr) (cl : List (Str × Addr)) (fp : List Addr), PG (X.blk s H scope (compEnvC scope cl C X.env) fp).nox tg g)
    (he' : ∀ (s : Shared) (H : Hp) (C : Addr) (cl : List (Str × Addr)) (fp : List Addr), PE (X.blk s H scope (compEnvC scope cl C X.env) fp).nox elt te) (hg : Gl X x := by rfl)
    (hdb : (x == ("__debug__" : Str)) = false := by decide) (he : starEach (e :: es) X.env = (false, eval e X.env) :: starEach es X.env := by rfl) (hpl : (backTo pos' (starEach es X.env)).any (·.1) = false := by rfl)
    (hs : ∀ y, foldedSetIterable (.Call (.Name x p) (e :: es) [] pos') X.env y = pure y := by intro _; rfl) :
    PE X (.ListComp elt [⟨tg, .Call (.Name x p) (e :: es) [] pos', [], 0⟩] scope pos) (tLcN (tCallN ps.length sp t) g te (own.map (·.2))) :=
  pe_lcN hc hN (pgenN_call D (hr.mono (by omega)) ha hg hdb he hpl) hr ok (fun y hy e => by
    have := List.all_eq_true.mp hnc y hy
    rw [e] at this
    exact absurd this (by decide)) hg' he' hs
end
section
variable {σ : L2.St} {H : Hp} {g : TG} {te : TE} {tr : TGenN} {vs : List Nat} {Q : VK}
def LcNE (g : TG) (te : TE) (σ0 : L2.St) (vs : List Nat) (Q : VK) : (GPost → Prop) → Hp → Prop := fun PG H1 => ∀ D, H1 D = none → ∃ (n : Nat) (Pv : Nat → Hp → Prop), Pv 0 (upd H1 D (.lst [])) ∧ (∀ j H, Pv j H → ∃ acc, H D = some (.lst acc)) ∧ PG (lcG n Pv D g te σ0 vs Q)
theorem w_lcN (h : tr σ H (LcNE g te (wipe σ vs) vs Q)) : tLcN tr g te vs σ H Q := h
theorem w_lcNE {PG : GPost → Prop} {σ0 : L2.St} (n : Nat) (Pv : Addr → Nat → Hp → Prop) (h : ∀ D, H D = none → Pv D 0 (upd H D (.lst [])) ∧ (∀ j H, Pv D j H → ∃ acc, H D = some (.lst acc)) ∧ PG (lcG n (Pv D) D g te σ0 vs Q)) : LcNE g te σ0 vs Q PG H := fun D hD => ⟨n, Pv D, h D hD⟩
end
end Pg

/-! a for within a generator whose consumer has a body -/
namespace L2
open PySem PySem.Spec PyProof.Rows GenW
section
variable {P : Program} {w : World} {K : PySem.W.Frag} {mg : Str → Option Value} {base : Heap} {N : List Str} {qual : Str} {scope : Scope} {f : Addr} {cd : Value} {A : Around} {outer : List Env} {L : Addr} {T : Tag} {G : GPost}
def tNFor (wi : TI) (g : TG) (tb : TGm) : TGm := fun G D j H₀ σ H => wi σ H fun J H1 => ∃ W : Nat → Nat → Nat → Hp → L2.St → Hp → Prop, (∃ m, W 0 m j H₀ σ H1) ∧ ∀ i m j H₀ σ H, W i m j H₀ σ H →
  (J.stop i H ∧ D.nx j H₀ σ H) ∨ (J.go i H ∧ ∃ M : Nat → Hp → L2.St → Hp → Prop, (∀ j' H₀' σ' H', M j' H₀' σ' H' → ∃ m', m' < m ∧ W (i + 1) m' j' H₀' σ' H') ∧ ∀ x H', J.yld i H x H' → g x σ H' fun σ2 H2 => tb G { D with nx := M, ct := M, bk := D.nx } j H₀ σ2 H2)
theorem ns_for {tg iter : Expr} {body : List Stmt} {pos : Pos} {wi : TI} {g : TG} {tb : TGm} (hi : ∀ s H, PI (ncxOf P w K mg base N qual scope f cd A outer L s H) tg iter wi) (hg : ∀ s H, PG (ncxOf P w K mg base N qual scope f cd A outer L s H) tg g) (hb : NSs P w K mg base N qual scope f cd A outer L body tb)
    (hs : ∀ x, foldedSetIterable iter (envOfC qual scope L f cd) x = pure x := by intro _; rfl) : NS P w K mg base N qual scope f cd A outer L (.For tg iter body [] pos) (tNFor wi g tb) := by
  refine ⟨fun ip T G n s₀ H₀ c fs k J gd lv s σ H D S tgk gc hn hT ds hip kk I ht => ?_⟩
  refine seg_For ?_ hs
  rw [gc.over]
  refine wpAny_mono ((hi s₀ H₀).run ip s σ H _ I ht) (fun v s1 h1 => ?_) fun x s' hx => hx.elim
  refine wpAny_mono h1 (fun itv s2 h2 p => ?_) fun x s' hx => hx.elim
  obtain ⟨it, fp, tn, JJ, H2, e, I2, TT, st2, f2, W, ⟨m0, w0⟩, turn⟩ := h2
  subst e
  have hL : ∀ b ∈ fp, L ≤ b := fun b hb => by
    rcases (f2 b hb).2.2.2.1 with z | z
    · exact absurd (show b ∈ ([] : List Addr) from z) List.not_mem_nil
    · exact Nat.le_trans (cutH_big (Nat.le_refl L) (tgk n s₀ H₀ hT).2.2.2.2.1) z
  have nip : ∀ b ∈ fp, ∀ q ∈ ip, q.1 ≠ b := fun b hb q hq => (f2 b hb).2.2.2.2.2 q (List.mem_append_right _ hq)
  have dfp : ∀ b ∈ fp, ∀ q ∈ s₀.pn, q.1 ≠ b := fun b hb q hq => (f2 b hb).2.2.2.2.2 q (List.mem_append_left _ hq)
  have nL : ∀ b ∈ fp, b ≠ L := fun b hb => (f2 b hb).2.1
  have nfs : ∀ b ∈ fp, b ∉ frs outer := fun b hb => (f2 b hb).2.2.1
  have nce : ∀ x c, (cellsFrom (L + 1) scope.names []).lookup x = some c → False := fun x c e => by
    rw [S.nc] at e
    cases e
  have stat : ∀ {s₀ : NTurn} {H₀ H' : Hp}, (∀ b ∈ fp, ∀ q ∈ s₀.pn, q.1 ≠ b) → (∀ b ∈ fp, H' b = none) → ∀ b ∈ fp, FpOk (ncxOf P w K mg base N qual scope f cd A outer L s₀ H₀) ip H' b := fun {s₀ H₀ H'} hd hnn b hb =>
    ⟨hnn b hb, nL b hb, nfs b hb, .inr (Nat.le_trans cutH_size (hL b hb)), fun x c e => (nce x c e).elim, fun q hq => (List.mem_append.mp hq).elim (fun z => hd b hb q z) fun z => nip b hb q z⟩
  have gl := fun (q : Result → Sem PySem.Fin) => nc_loop (k := q) (c' := .forLoop tg (.ref it) body [] (envOfC qual scope L f cd)) (l := lv []) (kp := []) (p := p) gc rfl rfl
  have glb := fun (q : Result → Sem PySem.Fin) => nc_loop (k := q) (c' := .block [] (envOfC qual scope L f cd)) (l := lv []) (kp := []) (p := p) gc rfl rfl
  have loop : ∀ (m i n : Nat) (s₀ : NTurn) (H₀ : Hp) (s : Shared) (σ : L2.St) (H : Hp), n ≤ G.n → T n s₀ H₀ → Dis ip s₀ → (∀ b ∈ fp, ∀ q ∈ s₀.pn, q.1 ≠ b) → W i m (G.n - n) H₀ σ H → Inv (ncxOf P w K mg base N qual scope f cd A outer L s₀ H₀) ip σ H s → tn i s.heap → (∀ b ∈ fp, H b = none) →
      Seg (model P w) A (NR P w outer L T G) (NY P w outer L T G) n s₀ (.forLoop tg (.ref it) body [] (envOfC qual scope L f cd)) ((model P w).den (.forLoop tg (.ref it) body [] (envOfC qual scope L f cd)))
        (.ret (fun r => ((match r with | .ok f => (.pure f : Sem Flow) | .error e => .raise e).onRaise (cameBack (envOfC qual scope L f cd))).wrap k J gd lv) none (gd false) (lv []) c p [] :: fs) s := by
    intro m
    induction m using Nat.strongRecOn with
    | ind m ih =>
      intro i n s₀ H₀ s σ H hn hT ds df ww I hst hfr
      refine seg_forLoop ?_
      rw [(gl _).over]
      rcases turn i m (G.n - n) H₀ σ H ww with ⟨stop, qn⟩ | ⟨go, M, hM, step⟩
      · refine wpAny_mono (TT.done (ncxOf P w K mg base N qual scope f cd A outer L s₀ H₀) rfl rfl rfl rfl i _ s σ H (fun _ _ => False) I (stat df hfr) hst stop) (fun r' s4 ⟨hr, I4⟩ => ?_) fun x s' hx => hx.elim
        subst hr
        show Seg _ _ _ _ _ _ _ ((execs [] (envOfC qual scope L f cd)).onRaise _ >>= fun f => .pure (.done f)) _ _
        refine seg_bind ?_
        rw [(glb _).over]
        refine wpAny_onRaise ?_
        refine wpAny_execs_nil ?_
        exact seg_leaf (.ok .next) (kk.ok n s₀ H₀ s4 .next hn hT ds ⟨σ, H, I4, qn⟩)
      · refine wpAny_mono (TT.item (ncxOf P w K mg base N qual scope f cd A outer L s₀ H₀) rfl rfl rfl rfl i _ s σ H (fun _ _ => False) I (stat df hfr) hst go) (fun r' s4 ⟨u, hr, h4⟩ => ?_) fun x s' hx => hx.elim
        subst hr
        refine wpAny_mono h4 (fun _ s5 ⟨x, H5, I5, r5, y5, st5, fr5⟩ => ?_) fun x s' hx => hx.elim
        have I5' := I5.pinned (stat df fr5) (TT.obj _ _ st5)
        refine wpAny_mono ((hg s₀ H₀).run _ s5 σ H5 x u _ I5' r5 (step x H5 y5)) (fun _ s6 ⟨σ6, H6, I6, q6⟩ => ?_) fun x s' hx => hx.elim
        have dsp : Dis (ip ++ pinsAt fp s5.heap) s₀ := fun q hq r hr => (List.mem_append.mp hq).elim (fun z => ds q z r hr) fun z => df q.1 (of_pinsAt z).1 r hr
        have hipp : ∀ q ∈ ip ++ pinsAt fp s5.heap, L ≤ q.1 := fun q hq => (List.mem_append.mp hq).elim (fun z => hip q z) fun z => hL q.1 (of_pinsAt z).1
        have back : ∀ {s₀ : NTurn} {H₀ : Hp} {σ7 : L2.St} {H7 : Hp} {s7 : Shared}, Inv (ncxOf P w K mg base N qual scope f cd A outer L s₀ H₀) (ip ++ pinsAt fp s5.heap) σ7 H7 s7 → Inv (ncxOf P w K mg base N qual scope f cd A outer L s₀ H₀) ip σ7 H7 s7 ∧ tn (i + 1) s7.heap ∧ ∀ b ∈ fp, H7 b = none := fun {s₀ H₀ σ7 H7 s7} I7 => by
          refine ⟨Inv.unpinned I7, TT.keep _ _ _ st5 fun b hb o e => (I7.pin (b, o) (List.mem_append_right _ (List.mem_append_right _ (mem_pinsAt hb e)))).1, fun b hb => ?_⟩
          obtain ⟨o, e, d⟩ := TT.obj _ _ st5 b hb
          exact (I7.pin (b, o) (List.mem_append_right _ (List.mem_append_right _ (mem_pinsAt hb e)))).2.1
        have split : ∀ {s₀ : NTurn}, Dis (ip ++ pinsAt fp s5.heap) s₀ → Dis ip s₀ ∧ ∀ b ∈ fp, ∀ q ∈ s₀.pn, q.1 ≠ b := fun {s₀} z => ⟨fun q hq => z q (List.mem_append_left _ hq), fun b hb q hq => by
          obtain ⟨o, e, d⟩ := TT.obj _ _ st5 b hb
          exact z (b, o) (List.mem_append_right _ (mem_pinsAt hb e)) q hq⟩
        refine hb.run (ip ++ pinsAt fp s5.heap) T G n s₀ H₀ _ _ _ _ id id s6 σ6 H6 { D with nx := M, ct := M, bk := D.nx } S tgk (gl _) hn hT dsp hipp ⟨fun n' s₀' H₀' s7 fl hn' hT' ds' hs => ?_⟩ I6 q6
        obtain ⟨d1, d2⟩ := split ds'
        cases fl with
        | next =>
          obtain ⟨σ7, H7, I7, n7⟩ := hs
          obtain ⟨m', hm, w7⟩ := hM _ _ σ7 H7 n7
          obtain ⟨b1, b2, b3⟩ := back I7
          exact seg_again rfl (ih m' hm (i + 1) n' s₀' H₀' s7 σ7 H7 hn' hT' d1 d2 w7 b1 b2 b3)
        | cont =>
          obtain ⟨σ7, H7, I7, n7⟩ := hs
          obtain ⟨m', hm, w7⟩ := hM _ _ σ7 H7 n7
          obtain ⟨b1, b2, b3⟩ := back I7
          exact seg_again rfl (ih m' hm (i + 1) n' s₀' H₀' s7 σ7 H7 hn' hT' d1 d2 w7 b1 b2 b3)
        | brk =>
          obtain ⟨σ7, H7, I7, n7⟩ := hs
          exact seg_leaf (.ok .next) (kk.ok n' s₀' H₀' s7 .next hn' hT' d1 ⟨σ7, H7, (back I7).1, n7⟩)
        | ret v =>
          obtain ⟨x7, σ7, H7, I7, r7, n7⟩ := hs
          exact seg_leaf (.ok (.ret v)) (kk.ok n' s₀' H₀' s7 (.ret v) hn' hT' d1 ⟨x7, σ7, H7, (back I7).1, r7, n7⟩)
  exact loop m0 0 n s₀ H₀ s2 σ H2 hn hT ds dfp w0 I2 st2 fun b hb => (f2 b hb).1
end
end L2
namespace Pg
open PySem PySem.Spec PyProof.Rows L2 GenW
/-! ### generator methods whose consumer has a body -/
structure MNnAt (P : Program) (w : World) (K : PySem.W.Frag) (mg : Str → Option Value) (base : Heap) (C : Addr) (m qual : Str) (st : Stmt) (k : Nat) (ps : List Str) (sp : SpN) : Prop where
  ex : ∃ f fd, Meth K C m f ∧ Fun K m qual st f fd ∧ NFn P w K mg base k f fd ps sp (fun _ _ => False) ∧ Binds K fd ps []
theorem MethAt.okN {P : Program} {w : World} {K : PySem.W.Frag} {mg : Str → Option Value} {base : Heap} {C : Addr} {m qual : Str} {st : Stmt} {k : Nat} {ps N : List Str} {sp : SpN} (F : MethAt K C m qual st) (S : GScope N ps (defScope st))
    (hnc : ∀ n, cellsFrom n (defScope st).names [] = []) (hno : ∀ y, (defScope st).names.lookup y ≠ some .cell ∧ (defScope st).names.lookup y ≠ some .free)
    (hb : ∀ (kV doc pm : Value) (an : Option Addr) (cdv ct : Value) (us : List Value), us.length = ps.length → bindArgs (PySem.W.fnOf m qual (defArgs st) (defBody st) (defScope st) .none kV doc pm an cdv ct) ⟨us, []⟩ = pure (ps.zip us))
    (hbody : ∀ (f : Addr) (cdv : Value) (A : Around) (outer : List Env) (L : Addr) (vs : List V) (H : Hp), Room k (A.deeper (envOfC qual (defScope st) L f cdv)) →
      ∃ t, NSs P w K mg base N qual (defScope st) f cdv A outer L (defBody st) t ∧ ∀ G, sp vs H G → ∀ H₀, G.ok 0 H₀ → t G { nx := fun j H₀ _ H' => G.rt j H₀ H', rt := fun j H₀ v H' => v = .non ∧ G.rt j H₀ H' } 0 H₀ (start N vs) H₀) : MNnAt P w K mg base C m qual st (k + 1) ps sp := by
  obtain ⟨f, fd, hm, F⟩ := F.ex
  refine ⟨f, fd, hm, F, ?_, F.binds hb⟩
  obtain ⟨oc, od, kV, doc, pm, an, cdv, ct, osl, rfl, lk, hcd⟩ := F.ex
  exact nfn_of lk hcd S hnc hno (fun A outer L vs H hr => hbody f cdv A outer L vs H hr) fun _ _ _ _ _ _ _ _ h _ => h.elim
section
variable {X : Cx} {m qual : Str} {st : Stmt} {k : Nat} {ps : List Str} {C : Addr} {e o : Expr} {es : List Expr} {t : TA} {ta : TE} {p pos' apos : Pos}
/-- o.m(..) makes one -/
def tMethN (C : Addr) (m : Str) (n : Nat) (sp : SpN) (ta : TE) (t : TA) : TGenN := fun σ H cont => ta σ H fun x H1 => ∃ a dx fs, x = .ref a ∧ H1 a = some (.ins C dx fs) ∧ fs.lookup m = none ∧
  t σ H1 fun vs H2 => (x :: vs).length = n ∧ cont (sp (x :: vs) H2) H2
theorem pgenN_meth {sp : SpN} {pl : Sem Bool} (he : PE X o ta) (T : Cls X.K C) (D : MNnAt X.prog X.w X.K X.mg X.base C m qual st k ps sp) (hr : Room k X.A) (ha : PA X (e :: es) t)
    (hst : starEach (e :: es) X.env = (false, eval e X.env) :: starEach es X.env := by rfl) (hpl : (backTo pos' (starEach es X.env)).any (·.1) = false := by rfl)
    (ht : eval (.Call (.Attribute o m apos) (e :: es) [] pos') X.env = (do
      let ov ← eval o X.env
      standAt apos.atName
      let (f, first) ← holding [ov] (getMethod ov m pl)
      callWith pos' f first (backTo pos' (starEach (e :: es) X.env)) (backToKw pos' (keywordEach [] X.env))) := by rfl) :
    PGenN X k (.Call (.Attribute o m apos) (e :: es) [] pos') (tMethN C m ps.length sp ta t) := by
  obtain ⟨f, fd, hm, F, G, b⟩ := D.ex
  refine ⟨fun pins s σ H cont I h => ?_⟩
  refine PySem.W.methodCall_KW (pl := pl) (thn (he.run pins s σ H _ I h) fun u s1 ⟨x, H1, I1, rx, a, dx, fs, ex, ea, l, q⟩ => ?_) ht
  subst ex
  obtain rfl : u = Value.ref a := rx
  refine getmeth_ok I1 ea T hm l ?_
  refine PySem.W.callWith_K (first := [.ref a]) (h₀ := X.base) I.ok.mod.kin hm.kp (thn (ha.run pos' pins s1 σ H1 _ I1 q) fun us s2 ⟨vs, H2, I2, r, hl, q2⟩ => ⟨I2.kIn, ?_⟩) hst hpl
  have r2 : Vals (V.ref a :: vs) (Value.ref a :: us) := .cons rfl r
  refine wpAny_call (codeAny_mono (G.run X.A X.stack s2 H2 ⟨.ref a :: us, []⟩ (.ref a :: us) (.ref a :: vs) hr I2.env0 (binds0 b r2 hl I2.kIn) r2 hl) fun r s' hq => ?_)
  cases r with
  | error e => exact False.elim hq
  | ok fl =>
    cases fl with
    | ret u => exact ⟨H2, s2, _, I2, hq, q2⟩
    | next => exact False.elim hq
    | brk => exact False.elim hq
    | cont => exact False.elim hq
end
end Pg
namespace Pg
open PySem PySem.Spec PyProof.Rows L2
section
variable {G : GPost} {D : GEn} {j : Nat} {H₀ H : Hp} {σ : L2.St} {a : Addr}
def NForB (g : TG) (tb : TGm) (G : GPost) (D : GEn) (j : Nat) (H₀ : Hp) (σ : L2.St) : It → Hp → Prop := fun J H1 => ∃ W : Nat → Nat → Nat → Hp → L2.St → Hp → Prop, (∃ m, W 0 m j H₀ σ H1) ∧ ∀ i m j H₀ σ H, W i m j H₀ σ H →
  (J.stop i H ∧ D.nx j H₀ σ H) ∨ (J.go i H ∧ ∃ M : Nat → Hp → L2.St → Hp → Prop, (∀ j' H₀' σ' H', M j' H₀' σ' H' → ∃ m', m' < m ∧ W (i + 1) m' j' H₀' σ' H') ∧ ∀ x H', J.yld i H x H' → g x σ H' fun σ2 H2 => tb G { D with nx := M, ct := M, bk := D.nx } j H₀ σ2 H2)
theorem w_nFor {wi : TI} {g : TG} {tb : TGm} (h : wi σ H (NForB g tb G D j H₀ σ)) : tNFor wi g tb G D j H₀ σ H := h
/-- a for over a list that stays as it is -/
theorem nf_list {K : PySem.W.Frag} {g : TG} {tb : TGm} (xs : List V) (Pv : Nat → Nat → Hp → L2.St → Hp → Prop) (h0 : Pv 0 j H₀ σ H) (hl : ∀ i j H₀ σ H, i ≤ xs.length → Pv i j H₀ σ H → SqL K H a xs)
    (hs : ∀ i x j H₀ σ H, xs[i]? = some x → Pv i j H₀ σ H → g x σ H fun σ2 H2 => tb G { D with nx := Pv (i + 1), ct := Pv (i + 1), bk := D.nx } j H₀ σ2 H2) (hd : ∀ j H₀ σ H, Pv xs.length j H₀ σ H → D.nx j H₀ σ H) : NForB g tb G D j H₀ σ (Itl K a) H := by
  refine ⟨fun i m j H₀ σ H => m = xs.length - i ∧ i ≤ xs.length ∧ Pv i j H₀ σ H, ⟨xs.length, by simp, Nat.zero_le _, h0⟩, ?_⟩
  rintro i m j H₀ σ H ⟨rfl, hi, p⟩
  have q := hl i j H₀ σ H hi p
  by_cases hlt : i < xs.length
  · refine .inr ⟨⟨xs, xs[i], q, by simp [hlt]⟩, Pv (i + 1), fun j' H₀' σ' H' p' => ⟨xs.length - (i + 1), by omega, rfl, hlt, p'⟩, fun x H' y => ?_⟩
    obtain ⟨e, y⟩ := y
    subst e
    exact hs i x j H₀ σ _ (y xs q) p
  · have e : i = xs.length := by omega
    subst e
    exact .inl ⟨⟨xs, q, Nat.le_refl _⟩, hd j H₀ σ H p⟩
end
end Pg
namespace Pg
open PySem PySem.Spec PyProof.Rows L2
/-- a field, at a named K -/
theorem kcn_fld {X : Cx} {K0 : PySem.W.Frag} {e : Expr} {ta : TE} {f : Str} {pos : Pos} (he : PE X e ta) (hb : attributeBase e f X.env (eval e X.env) = eval e X.env) (hK : X.K = K0 := by rfl) : PE X (.Attribute e f pos) (tFld K0 ta f) := by
  subst hK
  exact pe_fld he hb
end Pg
namespace Pg
open PySem PySem.Spec PyProof.Rows L2 GenW
/-! ### a classmethod by keywords -/
section
variable {X : Cx} {m qual : Str} {st : Stmt} {k : Nat} {ps ks : List Str} {C : Addr} {o : Expr} {kws : List Keyword} {tk : TA} {ta : TE} {pos apos : Pos} {ix : List Nat}
def tCMethXK (C : Addr) (n : Nat) (ix : List Nat) (sp : Sp) (W : WX) (ta : TE) (tk : TA) : TE := fun σ H Q => ta σ H (CMetE C tk (MKwXE n ix sp W σ Q) σ)
theorem pe_cmethXK {sp : Sp} {W : WX} {pl : Sem Bool} (he : PE X o ta) (D : CMDefAtX X.prog X.w X.K X.mg X.base C m qual st k ps sp) (hr : Room k X.A) (tkn : Takes X W) (hkw : PK X kws tk) (B : KB0 m qual st ps ks 1 ix)
    (hall : (backToKw pos (keywordEach kws X.env)).all (·.1.isSome) = true := by rfl) (hks : (backToKw pos (keywordEach kws X.env)).filterMap (·.1) = ks := by rfl)
    (hpl : ((backTo pos (starEach [] X.env)).any (·.1) || (backToKw pos (keywordEach kws X.env)).any (·.1.isNone)) = false := by rfl)
    (ht : eval (.Call (.Attribute o m apos) [] kws pos) X.env = (do
      let ov ← eval o X.env
      standAt apos.atName
      let (f, first) ← holding [ov] (getMethod ov m pl)
      callWith pos f first (backTo pos (starEach [] X.env)) (backToKw pos (keywordEach kws X.env))) := by rfl) :
    PE X (.Call (.Attribute o m apos) [] kws pos) (tCMethXK C ks.length ix sp W ta tk) := by
  obtain ⟨p, g, fd, mc, r, c, F, G, b⟩ := D.ex
  refine ⟨fun pins s σ H Q I h => ?_⟩
  refine PySem.W.methodCall_KW (pl := pl) (thn (he.run pins s σ H _ I h) fun u s1 ⟨x, H1, I1, rx, ex, q⟩ => ?_) ht
  subst ex
  obtain rfl : u = Value.ref C := rx
  refine ClX.getmethcm_ok I1 r c fun s2 I2 => ?_
  refine PySem.W.callWith_of hpl (PySem.W.keeps_M (self := .ref C) c.fi) (evalArgs_kw2_nil hall ?_)
  refine thn (hkw.run pos _ s2 σ H1 _ I2 q) fun ws s3 ⟨zs, H2, I3, rz, l2, q2⟩ => ⟨⟨ClX.pin_at I3, I3.kIn⟩, ?_⟩
  rw [hks]
  have r2 : Vals (V.ref C :: pick ix zs) (Value.ref C :: pick ix ws) := .cons rfl (pick_vals rz ix)
  have z : wpAny (model X.prog X.w) X.A (call (.ref s1.heap.objs.size) [] (ks.zip ws)) (EP X ((s1.heap.objs.size, PySem.W.methodObj (.ref g) (.ref C)) :: pins) σ Q) X.xe s3 := by
    refine wpAny_call (PySem.W.method_call (ClX.pin_at I3) (codeAny_mono (G.run X.A X.stack s3 H2 ⟨[.ref C], ks.zip ws⟩ (.ref C :: pick ix ws) (.ref C :: pick ix zs) Q _ hr I3.env0 ((B.kbn F).to s3 [.ref C] ws I3.kIn rfl (rz.length.symm.trans l2)) r2 q2) fun q s' hq => ?_))
    cases q with
    | error e => exact (L2.passAt tkn σ) _ H2 s3 e s' I3 hq
    | ok fl =>
      cases fl with
      | ret u => exact I3.after hq
      | next => exact False.elim hq
      | brk => exact False.elim hq
      | cont => exact False.elim hq
  exact thn z fun _ _ y => ClX.unpinE y
theorem w_cmethXK {sp : Sp} {W : WX} {σ : L2.St} {H : Hp} {Q : VK} {n : Nat} (h : ta σ H (CMetE C tk (MKwXE n ix sp W σ Q) σ)) : tCMethXK C n ix sp W ta tk σ H Q := h
end
end Pg

/-! zip over two iterators of any kind, generators too: what each gives is told of whole states -/
namespace L2
open PySem PySem.Spec PyProof.Rows
section
variable {prog : Program} {w : World} {A : Around} {E : Value → Shared → Prop} {s : Shared} {z TI TO i1 i2 : Addr} {a1 a2 : Value}
/-- no more: what is behind the iterator's end -/
def ZEnd (z TI TO : Addr) (R : Shared → Prop) : Value → Shared → Prop := fun ev s1 => ∃ (e : Addr) (o : Obj), ev = .ref e ∧ s1.heap.get? e = some o ∧ o.cls = .type "StopIteration" ∧ IsZip s1.heap z TI TO .ellipsis ∧ ∀ h', Heap.SameBut z s1.heap h' → R { s1 with heap := h' }
theorem zipN_next {Q : Value → Shared → Prop} {R : Shared → Prop} (TOz : TO ≠ z)
    (hz : IsZip s.heap z TI TO .none) (hTI : IsTupOf2 s.heap TI (.ref i1) (.ref i2)) (hTO : IsTupOf2 s.heap TO a1 a2)
    (h : ∀ g0, IsZip g0 z TI TO .ellipsis → Heap.SameBut z s.heap g0 →
      wpAny (model prog w) A (Builtin.SmallTypes.nextOf (.ref i1)) (fun x1 s1 => IsTupOf2 s1.heap TO a1 a2 ∧ ∀ g1, IsTupOf2 g1 TO x1 a2 → Heap.SameBut TO s1.heap g1 →
        wpAny (model prog w) A (Builtin.SmallTypes.nextOf (.ref i2)) (fun x2 s2 => IsTupOf2 s2.heap TO x1 a2 ∧ IsZip s2.heap z TI TO .ellipsis ∧ ∀ h', IsZip h' z TI TO (rawInt s2.heap.objs.size) → IsTupOf2 h' TO x1 x2 → IsTupOf2 h' s2.heap.objs.size x1 x2 → h'.objs.size = s2.heap.objs.size + 1 →
          (∀ c o, c ≠ z → c ≠ TO → s2.heap.get? c = some o → h'.get? c = some o) → ∀ tk, Q (.ref s2.heap.objs.size) { s2 with heap := h', toks := tk }) (ZEnd z TI TO R) { s1 with heap := g1 }) (ZEnd z TI TO R) { s with heap := g0 })
    (hE : ∀ e s', (∃ o, s'.heap.get? e = some o ∧ o.cls = .type "StopIteration") → R s' → E (.ref e) s') :
    wpAny (model prog w) A (Builtin.«zip.__next__» ⟨[.ref z], []⟩) (fun fin s' => ∃ v, fin = .done (.ret v) ∧ Q v s') E s := by
  obtain ⟨hp, g, d, tk0, os⟩ := s
  show wpAny _ _ (field (.ref z) 2 >>= _) _ _ _
  refine wpAny_bind (wpAny_field hz rfl (x := .bool false) rfl ?_)
  show wpAny _ _ (field (.ref z) 3 >>= _) _ _ _
  refine wpAny_bind (wpAny_field hz rfl (x := .ref TI) rfl ?_)
  refine wpAny_bind (wpAny_seqItems hTI rfl ?_)
  show wpAny _ _ (Builtin.SmallTypes.ownedTupleIsFree (.ref z) >>= _) _ _ _
  refine wpAny_bind ?_
  unfold Builtin.SmallTypes.ownedTupleIsFree
  refine wpAny_bind (wpAny_field hz rfl (x := .none) rfl (wpAny_pure ?_))
  simp only [if_true]
  refine wpAny_bind (wpAny_rule ?_)
  refine wpAny_bind (wpAny_field hz rfl (x := .ref TO) rfl ?_)
  refine wpAny_bind (wpAny_setField_rec hz (by simp) fun g0 hz0 hs0 => ?_)
  replace hz0 : IsZip g0 z TI TO .ellipsis := hz0
  replace hs0 : Heap.SameBut z hp g0 := hs0
  refine wpAny_bind ?_
  simp only [List.zipIdx_cons, List.zipIdx_nil, List.forIn_cons, List.forIn_nil]
  refine wpAny_bind (wpAny_bind (wpAny_onRaise ?_))
  show wpAny _ _ (Builtin.SmallTypes.nextOf (.ref i1) >>= _) _ _ ⟨g0, g, d, tk0, os⟩
  refine wpAny_bind (wpAny_mono (h g0 hz0 hs0) (fun x1 s1 ⟨hU1, k1⟩ => wpAny_pure ?_) fun ev s' he => ?_)
  rotate_left
  · obtain ⟨q, gq, dq, tq, oq⟩ := s'
    obtain ⟨e, o, rfl, hoe, hce, hzq, k⟩ := he
    replace hoe : q.get? e = some o := hoe
    have hez : e ≠ z := fun x => by subst x; rw [show q.get? e = _ from hzq] at hoe; cases hoe; simp at hce
    refine wpAny_setField_rec (s := ⟨q, gq, dq, tq, oq⟩) hzq (by simp) fun q' _ hq' => ?_
    exact hE _ _ ⟨o, hq'.extBut _ _ hez hoe, hce⟩ (k q' hq')
  obtain ⟨p1, ga, da, tk1, oa⟩ := s1
  refine wpAny_bind (wpAny_seqItems (s := ⟨p1, ga, da, tk1, oa⟩) hU1 rfl ?_)
  refine wpAny_bind (updateSeq_IsTupOf2 (s := ⟨p1, ga, da, tk1, oa⟩) hU1 fun g1 hT1 hs1 => ?_)
  replace hT1 : IsTupOf2 g1 TO x1 a2 := hT1
  refine wpAny_bind (wpAny_letGo (wpAny_pure ?_))
  refine wpAny_bind (wpAny_bind (wpAny_onRaise ?_))
  show wpAny _ _ (Builtin.SmallTypes.nextOf (.ref i2) >>= _) _ _ ⟨g1, ga, da, tk1, oa⟩
  refine wpAny_bind (wpAny_mono (k1 g1 hT1 hs1) (fun x2 s2 ⟨hU2, hzz0, k2⟩ => wpAny_pure ?_) fun ev s' he => ?_)
  rotate_left
  · obtain ⟨q, gq, dq, tq, oq⟩ := s'
    obtain ⟨e, o, rfl, hoe, hce, hzq, k⟩ := he
    replace hoe : q.get? e = some o := hoe
    have hez : e ≠ z := fun x => by subst x; rw [show q.get? e = _ from hzq] at hoe; cases hoe; simp at hce
    refine wpAny_setField_rec (s := ⟨q, gq, dq, tq, oq⟩) hzq (by simp) fun q' _ hq' => ?_
    exact hE _ _ ⟨o, hq'.extBut _ _ hez hoe, hce⟩ (k q' hq')
  obtain ⟨p2, gb, db, tk2, ob⟩ := s2
  refine wpAny_bind (wpAny_seqItems (s := ⟨p2, gb, db, tk2, ob⟩) hU2 rfl ?_)
  refine wpAny_bind (updateSeq_IsTupOf2 (s := ⟨p2, gb, db, tk2, ob⟩) hU2 fun g2 hT2 hs2 => ?_)
  replace hT2 : IsTupOf2 g2 TO x1 x2 := hT2
  replace hs2 : Heap.SameBut TO p2 g2 := hs2
  refine wpAny_bind (wpAny_letGo (wpAny_pure (wpAny_pure ?_)))
  refine wpAny_bind (wpAny_seqItems (s := ⟨g2, gb, db, tk2, ob⟩) hT2 rfl ?_)
  refine wpAny_bind (wpAny_newTuple ?_)
  have hsz : g2.objs.size = p2.objs.size := hs2.1
  have hzz : IsZip g2 z TI TO .ellipsis := hs2.extBut _ _ TOz.symm hzz0
  have hzlt : z < g2.objs.size := Heap.lt_size hzz
  show wpAny _ _ (Builtin.SmallTypes.ownedTupleHandOut (.ref z) (.ref g2.objs.size) >>= _) _ _ ⟨g2.push { cls := .type "tuple", data := .seq #[x1, x2] }, gb, db, tk2, ob⟩
  refine wpAny_bind ?_
  unfold Builtin.SmallTypes.ownedTupleHandOut
  have hz₆ : IsZip (g2.push { cls := .type "tuple", data := .seq #[x1, x2] }) z TI TO .ellipsis := Heap.get?_push_of_some _ hzz
  refine wpAny_bind (wpAny_setField_rec hz₆ (by simp) fun h₇ hz₇ hs₇ => ?_)
  replace hz₇ : IsZip h₇ z TI TO (rawInt g2.objs.size) := hz₇
  refine wpAny_setField_rec hz₇ (by simp) fun h₈ hz₈ hs₈ => ?_
  replace hz₈ : IsZip h₈ z TI TO (rawInt g2.objs.size) := hz₈
  replace hs₇ : Heap.SameBut z (g2.push { cls := .type "tuple", data := .seq #[x1, x2] }) h₇ := hs₇
  replace hs₈ : Heap.SameBut z h₇ h₈ := hs₈
  have up : ∀ c o, c ≠ z → g2.get? c = some o → h₈.get? c = some o := fun c o c1 e => hs₈.extBut _ _ c1 (hs₇.extBut _ _ c1 (Heap.get?_push_of_some _ e))
  have hT₈ : IsTupOf2 h₈ g2.objs.size x1 x2 := hs₈.extBut _ _ (Nat.ne_of_gt hzlt) (hs₇.extBut _ _ (Nat.ne_of_gt hzlt) (Heap.get?_push_size _ rfl))
  have hz8 : h₈.objs.size = g2.objs.size + 1 := by rw [hs₈.1, hs₇.1, Heap.size_push]
  rw [hsz] at hz₈ hT₈ hz8
  refine wpAny_pure ⟨_, rfl, ?_⟩
  show Q (.ref g2.objs.size) ⟨h₈, gb, db, tk2, ob⟩
  rw [hsz]
  exact k2 h₈ hz₈ (up _ _ TOz hT2) hT₈ hz8 (fun c o cz cT e => up c o cz (hs2.extBut _ _ cT e)) tk2
theorem pyNext_zipN {Q : Option Value → Shared → Prop} (TOz : TO ≠ z)
    (hz : IsZip s.heap z TI TO .none) (hTI : IsTupOf2 s.heap TI (.ref i1) (.ref i2)) (hTO : IsTupOf2 s.heap TO a1 a2)
    (h : ∀ g0, IsZip g0 z TI TO .ellipsis → Heap.SameBut z s.heap g0 →
      wpAny (model prog w) A.in1 (Builtin.SmallTypes.nextOf (.ref i1)) (fun x1 s1 => IsTupOf2 s1.heap TO a1 a2 ∧ ∀ g1, IsTupOf2 g1 TO x1 a2 → Heap.SameBut TO s1.heap g1 →
        wpAny (model prog w) A.in1 (Builtin.SmallTypes.nextOf (.ref i2)) (fun x2 s2 => IsTupOf2 s2.heap TO x1 a2 ∧ IsZip s2.heap z TI TO .ellipsis ∧ ∀ h', IsZip h' z TI TO (rawInt s2.heap.objs.size) → IsTupOf2 h' TO x1 x2 → IsTupOf2 h' s2.heap.objs.size x1 x2 → h'.objs.size = s2.heap.objs.size + 1 →
          (∀ c o, c ≠ z → c ≠ TO → s2.heap.get? c = some o → h'.get? c = some o) → ∀ tk, Q (some (.ref s2.heap.objs.size)) { s2 with heap := h', toks := tk }) (ZEnd z TI TO (Q none)) { s1 with heap := g1 }) (ZEnd z TI TO (Q none)) { s with heap := g0 }) :
    wpAny (model prog w) A (pyNext (.ref z)) Q E s := by
  have hT : s.TypeIs (.ref z) "zip" := ⟨_, hz, rfl⟩
  unfold pyNext
  refine wpAny_bind (wpAny_attempt (wpAny_callSpecial?_slot (name := Str.ofString "__next__") hT F.slot_zip_next
    (wpAny_call_entry F.slot_zip_next hT F.entry_zip_next (wpAny_mono (zipN_next (Q := fun v s' => Q (some v) s') (R := Q none) (E := fun ev s' => ∃ e o, ev = .ref e ∧ s'.heap.get? e = some o ∧ o.cls = .type "StopIteration" ∧ Q none s') TOz hz hTI hTO h fun e s' ⟨o, h1, h2⟩ q => ⟨e, o, rfl, h1, h2, q⟩) (fun fin s' hf => ?_) fun ev s' he => ?_) (F.args_zip_next_1 _))))
  · obtain ⟨v, rfl, q⟩ := hf
    exact ⟨v, rfl, wpAny_pure q⟩
  · obtain ⟨e, o, rfl, h1, h2, q⟩ := he
    refine wpAny_bind (wpAny_isInstance (T := "StopIteration") (b := true) ⟨o, h1, h2⟩ isSubtype_stop ?_)
    exact wpAny_pure q
end
end L2
namespace L2
open PySem PySem.Spec PyProof.Rows GenW
section
variable {P : Program} {w : World} {A : Around} {s : Shared}
/-- one part's turn, the part a generator -/
theorem nextOf_susp {E : Value → Shared → Prop} {a : Addr} {g n : Nat} {gs : GenState} {F : Nat → Shared → Shared → Prop} {Y : Protocol} {Q : Value → Shared → Prop} (hh : A.handled = none)
    (hl : s.heap.NoLimit) (hroom : A.depth < recursionLimit) (hg : s.heap.IsGen a g) (hgs : s.gens[g]? = some gs)
    (hgo : gs.Goes (model P w) A.in1 (fun n s₀ r s₁ => ((r = .ok (.ret .none) ∨ r = .ok .next) ∧ F n s₀ s₁) ∨ ∃ e, r = .error e ∧ False) Y n (.send .none) (s.setGen g .running))
    (hY : ∀ v s₁ gs', gs'.bare = true → Susp gs' = true → Y (n - 1) (s.setGen g .running) v s₁ (KapN (model P w) A.in1 (fun n s₀ r s₁ => ((r = .ok (.ret .none) ∨ r = .ok .next) ∧ F n s₀ s₁) ∨ ∃ e, r = .error e ∧ False) Y gs' n) → Q v (s₁.setGen g gs'))
    (hP : ∀ s₁, F n (s.setGen g .running) s₁ → ∀ h' e, (∀ b o, s₁.heap.get? b = some o → h'.get? b = some o) → (∃ o, h'.get? e = some o ∧ o.cls = .type "StopIteration") → s₁.heap.objs.size ≤ e → E (.ref e) { s₁.setGen g .finished with heap := h' }) :
    wpAny (model P w) A (Builtin.SmallTypes.nextOf (.ref a)) Q E s := by
  unfold Builtin.SmallTypes.nextOf
  refine wpAny_bind (wpAny_callSpecial?_slot (name := Str.ofString "__next__") hg.typeIs slot_gen_next
    (wpAny_call_entry slot_gen_next hg.typeIs entry_gen_next ?_ (args_gen_next _)))
  show wpAny _ A.in1 (Builtin.Generator.genWake (.ref a) (.send .none)) _ _ s
  unfold Builtin.Generator.genWake
  refine wpAny_bind (wpAny_holding (wpAny_genNumber hg (wpAny_bind (wpAny_genState hgs ?_))))
  cases gs with
  | running => exact hgo.elim
  | finished => exact hgo.elim
  | _ =>
    refine wpAny_bind (wpAny_roomToWake hl hroom ?_)
    show wpAny _ A.in1 (.resume g (.send .none) [] _) _ _ s
    refine wake_susp hgs hgo (fun x s₁ hx => ?_) (fun v s₁ gs' hb hsu hv => ?_)
    · rcases hx with ⟨hr, hp⟩ | ⟨e, rfl, he⟩
      · have hres : End.result (.ret x) = .returned .none := by
          rcases hr with hr | hr <;> rw [hr] <;> rfl
        first | rw [hres] | simp only [hres]
        show wpAny _ A.in1 (newExc (.type "StopIteration") [] >>= _) _ _ _
        refine wpAny_bind ?_
        simp only [newExc, newTuple]
        refine wpAny_bind (wpAny_newObj_type ?_ (by size_fits))
        refine wpAny_bind (m := firstArgMember _ _) (wpAny_of_eq (a := Value.none) (by first | rfl | (simp only [firstArgMember]; rfl)) ?_)
        refine wpAny_newObj_type ?_ (by size_fits)
        simp only [raiseNew]
        refine wpAny_bind (wpAny_bind (wpAny_handled ?_))
        first | rw [show A.in1.handled = none from hh] | rw [hh]
        refine wpAny_throw ?_
        exact hP s₁ hp _ _ (fun b o hb => Heap.get?_push_of_some _ (Heap.get?_push_of_some _ hb)) ⟨_, Heap.get?_push_size _ rfl, rfl⟩ (by first | (show s₁.heap.objs.size ≤ (Heap.push _ _).objs.size; rw [Heap.size_push]; exact Nat.le_succ _) | (simp [Heap.size_push]))
      · exact he.elim
    · exact wpAny_pure ⟨v, rfl, wpAny_pure (hY v s₁ gs' hb hsu hv)⟩
end
end L2
namespace PySem
open PySem.Spec PyProof.Rows
/-! zip of two generators is made -/
abbrev zgH1 (h : Heap) (a1 a2 : Addr) : Heap := h.push { cls := .type "tuple", data := .seq #[.ref a1, .ref a2] }
abbrev zgH2 (h : Heap) (a1 a2 : Addr) : Heap := (zgH1 h a1 a2).push { cls := .type "tuple", data := .seq #[.none, .none] }
abbrev zgH3 (h : Heap) (a1 a2 : Addr) : Heap := (zgH2 h a1 a2).push { cls := .type "zip", data := .fields #[.none, .bool false, .bool false, .ref h.objs.size, .ref (zgH1 h a1 a2).objs.size] }
theorem meets_zip_gens (a1 a2 : Addr) (g1 g2 : Nat) :
    Meets (Builtin.«zip.__new__» ⟨[.type "zip", .ref a1, .ref a2], []⟩) (fun _ R s => s.heap.IsGen a1 g1 ∧ s.heap.IsGen a2 g2 ∧
      R (.ok (.ret (.ref (zgH2 s.heap a1 a2).objs.size))) { s with heap := zgH3 s.heap a1 a2 }) :=
  .of_wp fun prog w A R s h => by
    obtain ⟨hp, g, d, tk, os⟩ := s; obtain ⟨hl1, hl2, h⟩ := h
    have hsub := sub_zip
    have hL1 : Heap.IsGen (Shared.heap ⟨hp, g, d, tk, os⟩) a1 g1 := hl1
    have hL2 : Heap.IsGen (Shared.heap ⟨hp, g, d, tk, os⟩) a2 g2 := hl2
    wp_walk using wpAny_pyIter_gen hL1, wpAny_pyIter_gen hL2
    exact ⟨_, rfl, h⟩
section
variable {prog : Program} {w : World} {A : Around} {E : Value → Shared → Prop} {s : Shared}
theorem call_zip_gens {a1 a2 : Addr} {g1 g2 : Nat} {Q : Value → Shared → Prop} (hl1 : s.heap.IsGen a1 g1) (hl2 : s.heap.IsGen a2 g2)
    (h : ∀ h', IsZip h' (s.heap.objs.size + 2) s.heap.objs.size (s.heap.objs.size + 1) .none → IsTupOf2 h' s.heap.objs.size (.ref a1) (.ref a2) →
      IsTupOf2 h' (s.heap.objs.size + 1) .none .none → h'.objs.size = s.heap.objs.size + 3 →
      (∀ c o, s.heap.get? c = some o → h'.get? c = some o) → Q (.ref (s.heap.objs.size + 2)) { s with heap := h' }) :
    wpAny (model prog w) A (call (.type "zip") [.ref a1, .ref a2]) Q E s := by
  refine callType_new F.called_zip (by decide) (F.typeCall_zip_2 _ _) (F.newCall_zip_2 _ _) (fun obj => F.args_object_init_3 obj _ _) F.entry_zip_new
    (meets_zip_gens a1 a2 g1 g2) ⟨hl1, hl2, ?_⟩
  have z1 : (zgH1 s.heap a1 a2).objs.size = s.heap.objs.size + 1 := Heap.size_push ..
  have z2 : (zgH2 s.heap a1 a2).objs.size = s.heap.objs.size + 2 := by rw [Heap.size_push, z1]
  have z3 : (zgH3 s.heap a1 a2).objs.size = s.heap.objs.size + 3 := by rw [Heap.size_push, z2]
  have k3 : (zgH3 s.heap a1 a2).get? (zgH2 s.heap a1 a2).objs.size = some _ := Heap.get?_push_size _ rfl
  have k2 : (zgH3 s.heap a1 a2).get? (zgH1 s.heap a1 a2).objs.size = some _ := Heap.get?_push_of_some _ (Heap.get?_push_size _ rfl)
  have k1 : (zgH3 s.heap a1 a2).get? s.heap.objs.size = some _ := Heap.get?_push_of_some _ (Heap.get?_push_of_some _ (Heap.get?_push_size _ rfl))
  show _ ∧ _
  rw [z1, z2] at k3
  rw [z1] at k2
  rw [z2]
  exact ⟨⟨_, k3, rfl⟩, h _ k3 k1 k2 z3 fun c o x => Heap.get?_push_of_some _ (Heap.get?_push_of_some _ (Heap.get?_push_of_some _ x))⟩
end
end PySem

/-! a run has one end alone -/
namespace GenW
open PySem
theorem one_end {M : Model} : ∀ {Γ : Ctx} {p : Pos} {t : Sem PySem.Fin} {fs : List Frame} {s s1 s2 : Shared} {e1 e2 : End}, Runs M Γ p t fs s e1 s1 → Runs M Γ p t fs s e2 s2 → e1 = e2 ∧ s1 = s2 := by
  intro Γ p t fs s s1 s2 e1 e2 h
  induction h generalizing e2 s2 with
  | done => intro k; cases k; exact ⟨rfl, rfl⟩
  | raise => intro k; cases k; exact ⟨rfl, rfl⟩
  | again _ _ ih => intro k; cases k; exact ih (by assumption)
  | rule _ ih => intro k; cases k; exact ih (by assumption)
  | «at» _ ih => intro k; cases k; exact ih (by assumption)
  | load ho _ ih =>
    intro k
    cases k with
    | load ho2 k =>
      rw [ho] at ho2
      cases ho2
      exact ih k
  | update _ _ ih => intro k; cases k; exact ih (by assumption)
  | loadIfAlive _ ih => intro k; cases k; exact ih (by assumption)
  | point _ ih => intro k; cases k; exact ih (by assumption)
  | alloc _ ih => intro k; cases k; exact ih (by assumption)
  | fresh _ ih => intro k; cases k; exact ih (by assumption)
  | ask _ ih => intro k; cases k; exact ih (by assumption)
  | choose _ _ ih => intro k; cases k; exact ih (by assumption)
  | os _ ih => intro k; cases k; exact ih (by assumption)
  | handled _ ih => intro k; cases k; exact ih (by assumption)
  | genState hg _ ih =>
    intro k
    cases k with
    | genState hg2 k =>
      rw [hg] at hg2
      cases hg2
      exact ih k
  | stack _ ih => intro k; cases k; exact ih (by assumption)
  | thread _ ih => intro k; cases k; exact ih (by assumption)
  | newGen _ ih => intro k; cases k; exact ih (by assumption)
  | call _ _ ih1 ih2 =>
    intro k
    cases k with
    | call k1 k2 =>
      obtain ⟨a, rfl⟩ := ih1 k1
      cases a
      exact ih2 k2
    | callSusp k1 =>
      obtain ⟨a, _⟩ := ih1 k1
      cases a
  | callSusp _ ih =>
    intro k
    cases k with
    | call k1 k2 =>
      obtain ⟨a, _⟩ := ih k1
      cases a
    | callSusp k1 =>
      obtain ⟨a, rfl⟩ := ih k1
      cases a
      exact ⟨rfl, rfl⟩
  | yield => intro k; cases k; exact ⟨rfl, rfl⟩
  | resumeFresh hg _ _ _ ih1 ih2 =>
    intro k
    cases k with
    | resumeFresh hg2 k1 _ k2 =>
      rw [hg] at hg2
      cases hg2
      obtain ⟨rfl, rfl⟩ := ih1 k1
      exact ih2 k2
    | resumeSuspended hg2 => rw [hg] at hg2; cases hg2
    | resumeJustStarted hg2 hv => exact absurd rfl hv
    | resumeRunning hg2 => rw [hg] at hg2; cases hg2
    | resumeFinished hg2 => rw [hg] at hg2; cases hg2
  | resumeSuspended hg _ _ _ ih1 ih2 =>
    intro k
    cases k with
    | resumeSuspended hg2 k1 _ k2 =>
      rw [hg] at hg2
      cases hg2
      obtain ⟨rfl, rfl⟩ := ih1 k1
      exact ih2 k2
    | resumeFresh hg2 => rw [hg] at hg2; cases hg2
    | resumeJustStarted hg2 => rw [hg] at hg2; cases hg2
    | resumeThrowFresh hg2 => rw [hg] at hg2; cases hg2
    | resumeRunning hg2 => rw [hg] at hg2; cases hg2
    | resumeFinished hg2 => rw [hg] at hg2; cases hg2
  | resumeJustStarted hg hv _ ih =>
    intro k
    cases k with
    | resumeJustStarted _ _ k => exact ih k
    | resumeFresh hg2 => exact absurd rfl hv
    | resumeSuspended hg2 => rw [hg] at hg2; cases hg2
    | resumeRunning hg2 => rw [hg] at hg2; cases hg2
    | resumeFinished hg2 => rw [hg] at hg2; cases hg2
  | resumeThrowFresh hg _ ih =>
    intro k
    cases k with
    | resumeThrowFresh _ k => exact ih k
    | resumeSuspended hg2 => rw [hg] at hg2; cases hg2
    | resumeRunning hg2 => rw [hg] at hg2; cases hg2
    | resumeFinished hg2 => rw [hg] at hg2; cases hg2
  | resumeRunning hg _ ih =>
    intro k
    cases k with
    | resumeRunning _ k => exact ih k
    | resumeFresh hg2 => rw [hg] at hg2; cases hg2
    | resumeSuspended hg2 => rw [hg] at hg2; cases hg2
    | resumeJustStarted hg2 => rw [hg] at hg2; cases hg2
    | resumeThrowFresh hg2 => rw [hg] at hg2; cases hg2
    | resumeFinished hg2 => rw [hg] at hg2; cases hg2
  | resumeFinished hg _ ih =>
    intro k
    cases k with
    | resumeFinished _ k => exact ih k
    | resumeFresh hg2 => rw [hg] at hg2; cases hg2
    | resumeSuspended hg2 => rw [hg] at hg2; cases hg2
    | resumeJustStarted hg2 => rw [hg] at hg2; cases hg2
    | resumeThrowFresh hg2 => rw [hg] at hg2; cases hg2
    | resumeRunning hg2 => rw [hg] at hg2; cases hg2
  | segRet _ _ ih1 ih2 =>
    intro k
    cases k with
    | segRet k1 k2 =>
      obtain ⟨a, rfl⟩ := ih1 k1
      cases a
      exact ih2 k2
    | segSuspOut _ k1 =>
      obtain ⟨a, _⟩ := ih1 k1
      cases a
    | segSuspGen _ k1 =>
      obtain ⟨a, _⟩ := ih1 k1
      cases a
  | segGen _ _ ih1 ih2 =>
    intro k
    cases k with
    | segGen k1 k2 =>
      obtain ⟨a, rfl⟩ := ih1 k1
      cases a
      exact ih2 k2
    | segSuspOut _ k1 =>
      obtain ⟨a, _⟩ := ih1 k1
      cases a
    | segSuspGen _ k1 =>
      obtain ⟨a, _⟩ := ih1 k1
      cases a
  | segSuspOut hf _ ih =>
    intro k
    cases k with
    | segRet k1 _ =>
      obtain ⟨a, _⟩ := ih k1
      cases a
    | segGen k1 _ =>
      obtain ⟨a, _⟩ := ih k1
      cases a
    | segSuspOut _ k1 =>
      obtain ⟨a, rfl⟩ := ih k1
      cases a
      exact ⟨rfl, rfl⟩
    | segSuspGen hf2 _ _ _ =>
      rw [hf] at hf2
      cases hf2
  | segSuspGen hf _ _ _ ih1 ih2 =>
    intro k
    cases k with
    | segRet k1 _ =>
      obtain ⟨a, _⟩ := ih1 k1
      cases a
    | segGen k1 _ =>
      obtain ⟨a, _⟩ := ih1 k1
      cases a
    | segSuspOut hf2 _ =>
      rw [hf] at hf2
      cases hf2
    | segSuspGen hf2 k1 _ k2 =>
      rw [hf] at hf2
      cases hf2
      obtain ⟨a, rfl⟩ := ih1 k1
      cases a
      exact ih2 k2
theorem one_woken {M : Model} {Γ : Ctx} {p : Pos} {g : Nat} {r : Resume} {s s1 s2 : Shared} {x1 x2 : GenResult} (h : Wakes M Γ p g r s x1 s1) (k : Wakes M Γ p g r s x2 s2) : x1 = x2 ∧ s1 = s2 := by
  unfold Wakes at h k
  cases hg : s.gens[g]? with
  | none =>
    rw [hg] at h
    exact h.elim
  | some st =>
    rw [hg] at h k
    cases st with
    | fresh c =>
      dsimp only at h k
      split at h
      · obtain ⟨e₁, t₁, hr, _, rfl, rfl⟩ := h
        obtain ⟨e₂, t₂, kr, _, rfl, rfl⟩ := k
        obtain ⟨rfl, rfl⟩ := one_end hr kr
        exact ⟨rfl, rfl⟩
      · rename_i v hv
        obtain ⟨rfl, rfl⟩ := h
        split at k
        · rename_i z
          injection z with z
          exact absurd z hv
        · obtain ⟨rfl, rfl⟩ := k
          exact ⟨rfl, rfl⟩
        · rename_i z
          cases z
      · obtain ⟨rfl, rfl⟩ := h
        obtain ⟨rfl, rfl⟩ := k
        exact ⟨rfl, rfl⟩
    | suspended k₀ l₀ c₀ p₀ fs cl =>
      obtain ⟨e₁, t₁, hr, _, rfl, rfl⟩ := h
      obtain ⟨e₂, t₂, kr, _, rfl, rfl⟩ := k
      obtain ⟨rfl, rfl⟩ := one_end hr kr
      exact ⟨rfl, rfl⟩
    | running =>
      obtain ⟨rfl, rfl⟩ := h
      obtain ⟨rfl, rfl⟩ := k
      exact ⟨rfl, rfl⟩
    | finished =>
      obtain ⟨rfl, rfl⟩ := h
      obtain ⟨rfl, rfl⟩ := k
      exact ⟨rfl, rfl⟩
open Sem (wp) in
theorem wp_two {α : Type} {M : Model} {Γ : Ctx} (t : Sem α) : ∀ (Q Q' : α → Pos → Shared → Prop) (E E' : Value → Pos → Shared → Prop) (p : Pos) (s : Shared), wp M Γ t Q E p s → wp M Γ t Q' E' p s → wp M Γ t (fun a p s => Q a p s ∧ Q' a p s) (fun a p s => E a p s ∧ E' a p s) p s := by
  induction t with
  | pure a => intro Q Q' E E' p s h k; exact ⟨h, k⟩
  | raise e => intro Q Q' E E' p s h k; exact ⟨h, k⟩
  | unsupported _ => intro Q Q' E E' p s h k; exact h.elim
  | finish _ => intro Q Q' E E' p s h k; exact h.elim
  | rule _ k ih => intro Q Q' E E' p s h k; exact ih () Q Q' E E' p s h k
  | «at» p' k ih => intro Q Q' E E' p s h k; exact ih () Q Q' E E' p' s h k
  | load a _ k ih =>
    intro Q Q' E E' p s h k
    obtain ⟨o, ho, h⟩ := h
    obtain ⟨o2, ho2, k⟩ := k
    rw [ho] at ho2
    cases ho2
    exact ⟨o, ho, ih o Q Q' E E' p s h k⟩
  | update a _ f k ih => intro Q Q' E E' p s h k; exact ⟨h.1, ih () Q Q' E E' p _ h.2 k.2⟩
  | loadIfAlive a k ih => intro Q Q' E E' p s h k; exact ih _ Q Q' E E' p s h k
  | point _ k ih => intro Q Q' E E' p s h k; exact ih () Q Q' E E' p s h k
  | register _ _ => intro Q Q' E E' p s h k; exact h.elim
  | alloc o k ih => intro Q Q' E E' p s h k; exact ih _ Q Q' E E' p _ h k
  | fresh k ih => intro Q Q' E E' p s h k; exact ih _ Q Q' E E' p _ h k
  | ask k ih => intro Q Q' E E' p s h k; exact ih _ Q Q' E E' p s h k
  | choose src m k ih => intro Q Q' E E' p s h k; exact ⟨h.1, ih _ Q Q' E E' p _ h.2 k.2⟩
  | os q _ k ih => intro Q Q' E E' p s h k; exact ih _ Q Q' E E' p _ h k
  | call c hd _ _ k ih =>
    intro Q Q' E E' p s h k
    obtain ⟨r, s', hr, h⟩ := h
    obtain ⟨r2, s2, kr, k⟩ := k
    obtain ⟨a, rfl⟩ := one_end hr kr
    cases a
    exact ⟨r, s', hr, ih r Q Q' E E' p s' h k⟩
  | handled own k ih => intro Q Q' E E' p s h k; exact ih _ Q Q' E E' p s h k
  | genState g k ih =>
    intro Q Q' E E' p s h k
    obtain ⟨st, hg, h⟩ := h
    obtain ⟨st2, kg, k⟩ := k
    rw [hg] at kg
    cases kg
    exact ⟨st, hg, ih _ Q Q' E E' p s h k⟩
  | newGen c k ih => intro Q Q' E E' p s h k; exact ih _ Q Q' E E' p _ h k
  | resume g r _ k ih =>
    intro Q Q' E E' p s h k
    obtain ⟨res, s', hw, h⟩ := h
    obtain ⟨res2, s2, kw, k⟩ := k
    obtain ⟨rfl, rfl⟩ := one_woken hw kw
    exact ⟨res, s', hw, ih res Q Q' E E' p s' h k⟩
  | yield _ _ _ _ => intro Q Q' E E' p s h k; exact h.elim
  | stack k ih => intro Q Q' E E' p s h k; exact ih _ Q Q' E E' p s h k
  | fork _ _ => intro Q Q' E E' p s h k; exact h.elim
  | thread k ih => intro Q Q' E E' p s h k; exact ih _ Q Q' E E' p s h k
  | await _ _ _ _ _ => intro Q Q' E E' p s h k; exact h.elim
/-- two things told of one run -/
theorem wpAny_two {α : Type} {M : Model} {A : Around} {t : Sem α} {Q Q' : α → Shared → Prop} {E E' : Value → Shared → Prop} {s : Shared} (h : wpAny M A t Q E s) (k : wpAny M A t Q' E' s) : wpAny M A t (fun a s => Q a s ∧ Q' a s) (fun e s => E e s ∧ E' e s) s :=
  fun Γ p hΓ => wp_two t _ _ _ _ p s (h Γ p hΓ) (k Γ p hΓ)
theorem codeAny_two {M : Model} {A : Around} {c : Code} {R R' : Result → Shared → Prop} {s : Shared} (h : codeAny M A c R s) (k : codeAny M A c R' s) : codeAny M A c (fun r s => R r s ∧ R' r s) s := by
  intro Γ p hc hΓ
  obtain ⟨r, s', hr, h⟩ := h Γ p hc hΓ
  obtain ⟨r2, s2, kr, k⟩ := k Γ p hc hΓ
  obtain ⟨a, rfl⟩ := one_end hr kr
  cases a
  exact ⟨r, s', hr, h, k⟩
/-! ### all but one sleep fast -/
def butS (g : Nat) (s : Shared) : Shared := { s with gens := s.gens.mapIdx fun i y => if i = g then y else stuck y }
theorem but_at {g i : Nat} {s : Shared} : (butS g s).gens[i]? = (s.gens[i]?).map fun y => if i = g then y else stuck y := by
  show (s.gens.mapIdx _)[i]? = _
  rw [Array.getElem?_mapIdx]
/-- the frames of this one's state are plain -/
def PlainAt (g : Nat) (s : Shared) : Prop := ∀ k l c p fs cl, s.gens[g]? = some (.suspended k l c p fs cl) → splitAtGen fs = none
def StaysBut (g : Nat) (s s' : Shared) : Prop := ∀ (i : Nat) (y : GenState), i ≠ g → s.gens[i]? = some y → Susp y = true → s'.gens[i]? = some y
theorem but_slp {g : Nat} {s : Shared} (pl : PlainAt g s) : Slp (s.gens.setIfInBounds g .running) (butS g s) := by
  refine ⟨by show (s.gens.setIfInBounds g .running).size ≤ (s.gens.mapIdx _).size; simp, fun i y e z => ?_, fun i k l c p fs cl e => ?_⟩
  · rw [Array.getElem?_setIfInBounds] at e
    split at e
    · split at e
      · cases e
        cases z
      · cases e
    · rename_i hi
      rw [but_at, e, Option.map_some, if_neg fun z => hi z.symm]
  · rw [but_at] at e
    obtain ⟨y, hy, e2⟩ := Option.map_eq_some_iff.mp e
    split at e2
    · rename_i hi
      subst hi
      subst e2
      exact pl k l c p fs cl hy
    · cases y with
      | suspended k' l' c' p' fs' cl' =>
        unfold stuck at e2
        cases e2
        exact split_st fs'
      | _ => cases e2
theorem un_but {g : Nat} {s : Shared} : un (s.gens.setIfInBounds g .running) (butS g s) = s := by
  have : mer (s.gens.setIfInBounds g .running) (butS g s).gens = s.gens := by
    apply Array.ext_getElem?
    intro i
    rw [mer_at, but_at]
    cases e : s.gens[i]? with
    | none => rfl
    | some y =>
      show some (pick _ i (if i = g then y else stuck y)) = some y
      unfold pick
      rw [Array.getElem?_setIfInBounds, e]
      by_cases hi : g = i
      · subst hi
        rw [if_pos rfl, if_pos rfl]
        split
        · rename_i z ez
          split at ez
          · cases ez
            rfl
          · cases ez
        · rfl
      · rw [if_neg hi, if_neg fun z => hi z.symm]
        cases y <;> rfl
  show ({ s with gens := mer _ (butS g s).gens } : Shared) = s
  rw [this]
theorem bare_but {g : Nat} {s : Shared} (h : PyProof.Rows.AllBare s.gens) : PyProof.Rows.AllBare (butS g s).gens := fun y hy => by
  obtain ⟨i, hi⟩ := Array.mem_iff_getElem?.mp hy
  rw [but_at] at hi
  obtain ⟨z, hz, e⟩ := Option.map_eq_some_iff.mp hi
  have hb := h z (Array.mem_of_getElem? hz)
  split at e
  · rw [← e]; exact hb
  · rw [← e, stuck_bare]; exact hb
/-- s' is one of the states that Q speaks of, but for those that sleep, g apart -/
def WokeBut (g : Nat) (s : Shared) (Q : Shared → Prop) (s' : Shared) : Prop := StaysBut g s s' ∧ PlainAt g s' ∧ ∃ G, Q { s' with gens := G } ∧ G[g]? = s'.gens[g]? ∧ (∀ (i : Nat) y, G[i]? = some y → Susp y = false → s'.gens[i]? = some y) ∧ (PyProof.Rows.AllBare s.gens → PyProof.Rows.AllBare G → PyProof.Rows.AllBare s'.gens)
theorem wpAny_but {α : Type} {M : Model} {A : Around} {t : Sem α} {Q : α → Shared → Prop} {E : Value → Shared → Prop} {g : Nat} {s : Shared} (pl : PlainAt g s) (h : wpAny M A t Q E (butS g s)) :
    wpAny M A t (fun a s' => WokeBut g s (Q a) s') (fun e s' => WokeBut g s (E e) s') s := by
  have gat : ∀ y, (s.gens.setIfInBounds g .running)[g]? = some y → Susp y = true → False := fun y e z => by
    rw [Array.getElem?_setIfInBounds, if_pos rfl] at e
    split at e
    · cases e
      cases z
    · cases e
  have go : ∀ {φ : Shared → Prop} {s1 : Shared}, Slp (s.gens.setIfInBounds g .running) s1 → φ s1 → WokeBut g s φ (un (s.gens.setIfInBounds g .running) s1) := fun {φ s1} S hq => by
    have same : (un (s.gens.setIfInBounds g .running) s1).gens[g]? = s1.gens[g]? := by
      show (mer _ s1.gens)[g]? = _
      rw [mer_at]
      cases s1.gens[g]? with
      | none => rfl
      | some x =>
        show some (pick _ g x) = some x
        rw [pick_no gat]
    refine ⟨fun i y hi e z => ?_, fun k l c p fs cl e => ?_, s1.gens, hq, same.symm, fun i y e n => ?_, fun hb hG y hy => ?_⟩
    · have e2 : (s.gens.setIfInBounds g .running)[i]? = some y := by
        rw [Array.getElem?_setIfInBounds_ne hi.symm]
        exact e
      show (mer _ s1.gens)[i]? = _
      rw [mer_at, S.old i y e2 z]
      show some (pick _ i (stuck y)) = _
      unfold pick
      rw [e2]
      show some (if Susp y = true then y else stuck y) = some y
      rw [if_pos z]
    · rw [same] at e
      exact S.fr g k l c p fs cl e
    · show (mer _ s1.gens)[i]? = _
      rw [mer_at, e]
      show some (pick _ i y) = some y
      rw [pick_no fun z ez zz => ?_]
      have := S.old i z ez zz
      rw [e] at this
      cases this
      cases z with
      | suspended k l c p fs cl =>
        have n' : true = false := n
        cases n'
      | _ => cases zz
    · obtain ⟨i, hi⟩ := Array.mem_iff_getElem?.mp (show y ∈ mer (s.gens.setIfInBounds g .running) s1.gens from hy)
      rw [mer_at] at hi
      obtain ⟨x, hx, e⟩ := Option.map_eq_some_iff.mp hi
      unfold pick at e
      split at e
      · rename_i z ez
        split at e
        · rw [← e]
          rw [Array.getElem?_setIfInBounds] at ez
          split at ez
          · split at ez
            · cases ez; rfl
            · cases ez
          · exact hb z (Array.mem_of_getElem? ez)
        · rw [← e]; exact hG x (Array.mem_of_getElem? hx)
      · rw [← e]; exact hG x (Array.mem_of_getElem? hx)
  intro Γ p hΓ
  have h2 := wp_mer t _ _ p (butS g s) (but_slp pl) (h Γ p hΓ)
  rw [un_but] at h2
  exact Sem.wp_mono M Γ t (fun a _ s' ⟨s1, S, e, q⟩ => by rw [e]; exact go S q) (fun a _ s' ⟨s1, S, e, q⟩ => by rw [e]; exact go S q) p s h2
/-! ### what a turn's judgement rests on -/
theorem segEnd_same {R R' : GenEnd} {Y Y' : Protocol} {n : Nat} {go go' : Code → Sem PySem.Fin → List Frame → Shared → Prop} (h1 : R n = R' n) (h2 : Y (n - 1) = Y' (n - 1)) (h3 : go = go') : SegEnd R Y n go = SegEnd R' Y' n go' := by
  funext s₀ e s'
  subst h3
  cases e with
  | ret r =>
    show R n s₀ r s' = R' n s₀ r s'
    rw [h1]
  | susp v g l k c p fs =>
    show (_ ∧ Y (n - 1) s₀ v s' _) = (_ ∧ Y' (n - 1) s₀ v s' _)
    rw [h2]
theorem seg_same {M : Model} {A : Around} {R R' : GenEnd} {Y Y' : Protocol} : ∀ (n : Nat), (∀ k, k ≤ n → R k = R' k) → (∀ k, k < n → Y k = Y' k) → 1 ≤ n → Seg M A R Y n = Seg M A R' Y' n
  | 0, _, _, h => absurd h (by omega)
  | 1, hR, hY, _ => by
    have h0 : Seg M A R Y 0 = Seg M A R' Y' 0 := by
      funext s₀ c t fs s
      refine propext ?_
      rw [seg_iff, seg_iff, segEnd_same (hR 0 (by omega)) (hY 0 (by omega)) (rfl : Seg.next M A R Y 0 = Seg.next M A R' Y' 0)]
      exact Iff.rfl
    have e : Seg.next M A R Y 1 = Seg.next M A R' Y' 1 := by
      funext c t fs s''
      show Seg M A R Y 0 s'' c t fs s'' = Seg M A R' Y' 0 s'' c t fs s''
      rw [h0]
    funext s₀ c t fs s
    refine propext ?_
    rw [seg_iff, seg_iff, segEnd_same (hR 1 (by omega)) (hY 0 (by omega)) e]
  | n + 2, hR, hY, _ => by
    have ih := seg_same (M := M) (A := A) (n + 1) (fun k hk => hR k (by omega)) (fun k hk => hY k (by omega)) (by omega)
    have e : Seg.next M A R Y (n + 2) = Seg.next M A R' Y' (n + 2) := by
      funext c t fs s''
      show Seg M A R Y (n + 1) s'' c t fs s'' = Seg M A R' Y' (n + 1) s'' c t fs s''
      rw [ih]
    funext s₀ c t fs s
    refine propext ?_
    rw [seg_iff, seg_iff, segEnd_same (hR (n + 2) (by omega)) (hY (n + 1) (by omega)) e]
end GenW

/-! two generators at a time, each of which leaves alone what is not its own -/
namespace L2
open PySem PySem.Spec PyProof.Rows GenW
/-- a consumer that wants these values one by one, and asks no more of the heap -/
def pureG (Hs : Hp) (xs : List V) : GPost where
  n := xs.length + 1
  ok := fun _ H => H = Hs
  yd := fun j x _ H2 => xs[j]? = some x ∧ Pg.Fr [] Hs H2
  rt := fun j _ H2 => j = xs.length ∧ Pg.Fr [] Hs H2
/-- what the generator never had -/
def Alien (O : List (Addr × Obj)) (Hs : Hp) (h : Heap) (b : Addr) (o : Obj) : Prop := h.get? b = some o ∧ (∀ p ∈ O, p.1 ≠ b) ∧ (∀ v, o.data ≠ .cell v) ∧ Hs b = none
theorem objs_of (h : Heap) (φ : Addr × Obj → Prop) : ∃ l : List (Addr × Obj), ∀ p, p ∈ l ↔ h.get? p.1 = some p.2 ∧ φ p := by
  classical
  refine ⟨((List.range h.objs.size).filterMap fun b => (h.get? b).map fun o => (b, o)).filter fun p => decide (φ p), fun p => ?_⟩
  rw [List.mem_filter, List.mem_filterMap, decide_eq_true_iff]
  constructor
  · rintro ⟨⟨b, _, e⟩, hp⟩
    obtain ⟨o, ho, e⟩ := Option.map_eq_some_iff.mp e
    subst e
    exact ⟨ho, hp⟩
  · rintro ⟨e, hp⟩
    exact ⟨⟨p.1, List.mem_range.mpr (Heap.lt_size e), by rw [e]; rfl⟩, hp⟩
section
variable (P : Program) (w : World) (K : PySem.W.Frag) (mg : Str → Option Value) (base : Heap) (A : Around) (outer : List Env) (L : Addr) (Hs : Hp) (xs : List V)
/-- whatever the consumer tells of its turns, this generator goes on -/
def UG (n : Nat) (gs : GenState) (O : List (Addr × Obj)) : Prop :=
  ∀ T : Tag, TagOk P w K mg base A outer L T (pureG Hs xs) → ∀ s H, T n s H → Kept s.pn O s.toShared H → gs.Goes (model P w) A (NR P w outer L T (pureG Hs xs)) (NY P w outer L T (pureG Hs xs)) n (.send .none) s.toShared
/-- what a turn does -/
structure TF (O : List (Addr × Obj)) (s s₁ : Shared) : Prop where
  os : s₁.os = s.os
  bare : AllBare s₁.gens
  keep : ∀ b o, s.heap.get? b = some o → Hs b = none → b ∉ frs outer → (b < L ∨ Alien O Hs s.heap b o) → s₁.heap.get? b = some o
  slot : ∀ b o, s.heap.get? b = some o → b ∈ frs outer → ∃ sl, s₁.heap.get? b = some { o with slots := sl }
  there : ∀ b o, s.heap.get? b = some o → b < L → ∃ o', s₁.heap.get? b = some o'
  hok : HOk P w Hs s₁.heap
end
section
variable {P : Program} {w : World} {K : PySem.W.Frag} {mg : Str → Option Value} {base : Heap} {A : Around} {outer : List Env} {L : Addr} {Hs : Hp} {xs : List V}
theorem pure_hok {H1 : Hp} {h1 : Heap} (hs : ∀ b o, Hs b = some o → (∃ l, o = .lst l) ∨ (∃ a, o = .own a) ∨ ∃ C dx fs, o = .ins C dx fs ∧ Hs dx = some (.own b)) (x : HOk P w H1 h1) (f : Pg.Fr [] Hs H1) : HOk P w Hs h1 := fun b o e => by
  have y := x b o (f b o List.not_mem_nil e)
  rcases hs b o e with ⟨l, rfl⟩ | ⟨a, rfl⟩ | ⟨C, dx, fs, rfl, hd⟩
  · exact y
  · exact y
  · obtain ⟨_, y⟩ := y
    exact ⟨hd, y⟩
theorem back_tf {s s₁ : Shared} {H1 : Hp} {O γ : List (Addr × Obj)} (hs : ∀ b o, Hs b = some o → (∃ l, o = .lst l) ∨ (∃ a, o = .own a) ∨ ∃ C dx fs, o = .ins C dx fs ∧ Hs dx = some (.own b)) (hfr : ∀ b ∈ frs outer, b < L ∧ Hs b = none)
    (hγ : ∀ p, p ∈ γ ↔ s.heap.get? p.1 = some p.2 ∧ L ≤ p.1 ∧ Alien O Hs s.heap p.1 p.2) (B : Back P w outer L s s₁ Hs H1) (hp : ∀ p ∈ γ, s₁.heap.get? p.1 = some p.2 ∧ H1 p.1 = none) (f : Pg.Fr [] Hs H1) : TF P w outer L Hs O s s₁ := by
  obtain ⟨os, bare, un, hok⟩ := B
  refine ⟨os, bare, fun b o e n hb hc => ?_, fun b o e hb => ?_, fun b o e hb => ?_, pure_hok hs hok f⟩
  · by_cases h : b < L
    · exact un.keep b o (cutH_in h e) n hb (by simp)
    · rcases hc with hc | hc
      · exact absurd hc h
      · exact (hp (b, o) ((hγ (b, o)).mpr ⟨e, Nat.le_of_not_lt h, hc⟩)).1
  · exact un.slot b o (cutH_in (hfr b hb).1 e) (hfr b hb).2 hb (by simp)
  · exact un.there b o (cutH_in hb e) (by simp)
/-- one turn -/
theorem wake_U {α : Type} {Q : α → Shared → Prop} {E : Value → Shared → Prop} {s : Shared} {g n : Nat} {gs : GenState} {l : List Value} {k : GenResult → Sem α} {O : List (Addr × Obj)} {X1 : Prop}
    (hs : ∀ b o, Hs b = some o → (∃ l, o = .lst l) ∨ (∃ a, o = .own a) ∨ ∃ C dx fs, o = .ins C dx fs ∧ Hs dx = some (.own b)) (hg : s.gens[g]? = some gs) (hU : UG P w K mg base A outer L Hs xs n gs O) (hn1 : 1 ≤ n) (hn2 : n ≤ xs.length + 1)
    (e0 : Env0 P w K mg base A outer (s.setGen g .running) Hs) (hL : L ≤ s.heap.objs.size) (hLO : ∃ o, (L, o) ∈ O) (hk : ∀ p ∈ O, s.heap.get? p.1 = some p.2 ∧ Hs p.1 = none) (hfr : ∀ b ∈ frs outer, b < L ∧ Hs b = none)
    (hx : X1 → gs.Goes (model P w) A Rg Yg 1 (.send .none) (s.setGen g .running))
    (hR : ∀ r s₁, (r = .ok (.ret .none) ∨ r = .ok .next) → TF P w outer L Hs O s s₁ → n = 1 → (X1 → s₁.gens = (s.setGen g .running).gens) → wpAny (model P w) A (k (End.ret r).result) Q E (s₁.setGen g .finished))
    (hY : ∀ v x s₁ gs', gs'.bare = true → Susp gs' = true → RelV x v → xs[xs.length + 1 - n]? = some x → TF P w outer L Hs O s s₁ → s₁.heap.NoLimit → (∃ o, s₁.heap.get? L = some o ∧ ∀ v, o.data ≠ .cell v) →
      (∀ O' : List (Addr × Obj), (∀ p : Addr × Obj, s₁.heap.get? p.1 = some p.2 → L ≤ p.1 → Hs p.1 = none → (∀ v, p.2.data ≠ .cell v) → (∀ o, ¬ Alien O Hs s.heap p.1 o) → p ∈ O') → UG P w K mg base A outer L Hs xs (n - 1) gs' O') → (X1 → s₁.gens = (s.setGen g .running).gens) →
      wpAny (model P w) A (k (.yielded v)) Q E (s₁.setGen g gs')) : wpAny (model P w) A (.resume g (.send .none) l k) Q E s := by
  intro Γ p hΓ
  rw [Sem.wp_resume]
  obtain ⟨γ, hγ⟩ := objs_of s.heap fun p => L ≤ p.1 ∧ Alien O Hs s.heap p.1 p.2
  generalize hs' : s.setGen g .running = s' at *
  have hh' : s'.heap = s.heap := by rw [← hs']; rfl
  have ho' : s'.os = s.os := by rw [← hs']; rfl
  let sing : Tag → Tag := fun T' m t H => (m = n ∧ t = ⟨s', γ⟩ ∧ H = Hs) ∨ (m < n ∧ T' m t H)
  have tagok : ∀ T', TagOk P w K mg base A outer L T' (pureG Hs xs) → TagOk P w K mg base A outer L (sing T') (pureG Hs xs) := fun T' hT m t H h => by
    rcases h with ⟨rfl, rfl, rfl⟩ | ⟨_, h⟩
    · refine ⟨hn1, hn2, rfl, e0, by show L ≤ s'.heap.objs.size; rw [hh']; exact hL, fun q hq => ?_⟩
      obtain ⟨q1, q2, _, q4, q5, q6⟩ := (hγ q).mp hq
      obtain ⟨oL, hoL⟩ := hLO
      exact ⟨⟨by show s'.heap.get? _ = _; rw [hh']; exact q1, q6⟩, fun z => q4 _ hoL z.symm, fun z => absurd (hfr _ z).1 (Nat.not_lt.mpr q2), q5⟩
    · exact hT m t H h
  have kept : Kept γ O s' Hs := fun q hq => by
    obtain ⟨q1, q2⟩ := hk q hq
    refine ⟨by rw [hh']; exact q1, q2, fun r hr z => ?_⟩
    obtain ⟨_, _, _, r4, _⟩ := (hγ r).mp hr
    exact r4 q hq z.symm
  have goes : ∀ T', TagOk P w K mg base A outer L T' (pureG Hs xs) → gs.Goes (model P w) A (NR P w outer L (sing T') (pureG Hs xs)) (NY P w outer L (sing T') (pureG Hs xs)) n (.send .none) s' := fun T' hT => hU (sing T') (tagok T' hT) ⟨s', γ⟩ Hs (.inl ⟨rfl, rfl, rfl⟩) kept
  obtain ⟨Γ', p', t, fs, hcv, hwk, hw⟩ : ∃ (Γ' : PySem.Ctx) (p' : Pos) (t : Sem PySem.Fin) (fs : List Frame), (∀ R Y m, gs.Goes (model P w) A R Y m (.send .none) s' → Seg (model P w) A R Y m s' Γ'.code t fs s') ∧ Γ'.Woken A ∧
      ∀ e₁ s₁, Runs (model P w) Γ' p' t fs s' e₁ s₁ → e₁.quiet = true → Wakes (model P w) Γ p g (.send .none) s e₁.result (s₁.setGen g e₁.genState) := by
    cases gs with
    | fresh c => exact ⟨Γ.wake c p, p, (model P w).den c, [], fun R Y m h => h.2, hΓ.wake c p, fun e₁ s₁ hr hq => by unfold Wakes; rw [hg]; rw [← hs'] at hr; exact ⟨e₁, s₁, hr, hq, rfl, rfl⟩⟩
    | suspended k₀ l₀ c₀ p₀ fs₀ cl => exact ⟨Γ.wake c₀ p, p₀, k₀ (.send .none), fs₀, fun R Y m h => h, hΓ.wake c₀ p, fun e₁ s₁ hr hq => by unfold Wakes; rw [hg]; rw [← hs'] at hr; exact ⟨e₁, s₁, hr, hq, rfl, rfl⟩⟩
    | running => exact (goes (fun _ _ _ => False) (fun _ _ _ h => h.elim)).elim
    | finished => exact (goes (fun _ _ _ => False) (fun _ _ _ h => h.elim)).elim
  obtain ⟨e₁, s₁, hr, he⟩ := seg_iff.mp (hcv _ _ _ (goes (fun _ _ _ => False) (fun _ _ _ h => h.elim))) Γ' p' rfl hwk
  have all : ∀ T', TagOk P w K mg base A outer L T' (pureG Hs xs) → SegEnd (NR P w outer L (sing T') (pureG Hs xs)) (NY P w outer L (sing T') (pureG Hs xs)) n (Seg.next (model P w) A (NR P w outer L (sing T') (pureG Hs xs)) (NY P w outer L (sing T') (pureG Hs xs)) n) s' e₁ s₁ := fun T' hT => by
    obtain ⟨e2, s2, kr, ke⟩ := seg_iff.mp (hcv _ _ _ (goes T' hT)) Γ' p' rfl hwk
    obtain ⟨rfl, rfl⟩ := one_end hr kr
    exact ke
  have fx : X1 → s₁.gens = s'.gens := fun x1 => by
    obtain ⟨e2, s2, kr, ke⟩ := seg_iff.mp (hcv _ _ _ (hx x1)) Γ' p' rfl hwk
    obtain ⟨rfl, rfl⟩ := one_end hr kr
    cases e₁ with
    | ret r => exact ke
    | susp v g₀ l₀ k₀ c₀ p₀ fs₀ => exact ke.2
  have tfo : ∀ {H1 : Hp}, Back P w outer L s' s₁ Hs H1 → (∀ p ∈ γ, s₁.heap.get? p.1 = some p.2 ∧ H1 p.1 = none) → Pg.Fr [] Hs H1 → TF P w outer L Hs O s s₁ := fun {H1} B hp f => by
    obtain ⟨os, bare, un, hok⟩ := B
    rw [hh'] at un
    exact back_tf hs hfr hγ ⟨os.trans ho', bare, un, hok⟩ hp f
  cases e₁ with
  | ret r =>
    refine ⟨_, _, hw _ _ hr rfl, ?_⟩
    have he2 := he
    rcases he2 with ⟨hr2, γ', H₀, H1, hT, B, hp, hj, hf⟩ | ⟨_, _, z⟩
    · rcases hT with ⟨_, e, eH⟩ | ⟨_, z⟩
      · have eγ : γ = γ' := (congrArg NTurn.pn e).symm
        subst eγ
        replace eH := eH.symm
        subst eH
        have hj : xs.length + 1 - n = xs.length := hj
        exact hR r s₁ hr2 (tfo B hp hf) (by omega) fx Γ p hΓ
      · exact z.elim
    · exact z.elim
  | susp v g₀ l₀ k₀ c₀ p₀ fs₀ =>
    refine ⟨_, _, hw _ _ hr he.1, ?_⟩
    obtain ⟨γ', H₀, x, H1, ow, hT, rv, B, how, hp, nl, hy, hk2⟩ := he.2
    obtain ⟨m, rfl⟩ : ∃ m, n = m + 1 := ⟨n - 1, by omega⟩
    have em : m + 1 - 1 = m := rfl
    rw [em] at hT hy
    rcases hT with ⟨_, e, eH⟩ | ⟨_, z⟩
    · have eγ : γ = γ' := (congrArg NTurn.pn e).symm
      subst eγ
      replace eH := eH.symm
      subst eH
      obtain ⟨hy1, hy2⟩ := hy
      refine hY v x s₁ _ (End.bare_of_quiet he.1) rfl rv hy1 (tfo B hp hy2) nl.1 (by obtain ⟨oL, h⟩ := nl.2; exact ⟨oL, (how _ h).1, (how _ h).2.2.2.1⟩) (fun O' hO' => ?_) fx Γ p hΓ
      intro T' hT' s2 H2 hT2 hk2'
      have hm := (hT' _ _ _ hT2).1
      rw [em] at hm hT2 ⊢
      obtain ⟨_, hn⟩ := all T' hT'
      obtain ⟨γ2, H3, x3, H4, ow3, hT3, _, _, how3, _, _, hy3, hk3⟩ := hn
      rw [em] at hT3 hy3 hk3
      rcases hT3 with ⟨_, e3, eH3⟩ | ⟨z3, _⟩
      · have eγ2 : γ = γ2 := (congrArg NTurn.pn e3).symm
        subst eγ2
        replace eH3 := eH3.symm
        subst eH3
        have go := hk3 s2 H2 (.inr ⟨Nat.lt_succ_self _, hT2⟩) fun q hq => by
          obtain ⟨q1, q2, q3, q4, q5⟩ := how3 q hq
          refine hk2' q (hO' q q1 q3 ?_ q4 fun o ho => ?_)
          · cases hh : Hs q.1 with
            | none => rfl
            | some o =>
              have := hy3.2 _ _ List.not_mem_nil hh
              rw [q2] at this
              cases this
          · exact q5 (q.1, o) ((hγ (q.1, o)).mpr ⟨ho.1, q3, ho⟩) rfl
        have same := seg_same (M := model P w) (A := A) (R := NR P w outer L (sing T') (pureG Hs xs)) (R' := NR P w outer L T' (pureG Hs xs)) (Y := NY P w outer L (sing T') (pureG Hs xs)) (Y' := NY P w outer L T' (pureG Hs xs)) m (fun k hk => ?_) (fun k hk => ?_) hm
        · have go : Seg (model P w) A (NR P w outer L (sing T') (pureG Hs xs)) (NY P w outer L (sing T') (pureG Hs xs)) m s2.toShared c₀ (k₀ (.send .none)) fs₀ s2.toShared := go
          rw [same] at go
          exact go
        · have e : (sing T') k = T' k := by
            funext t H
            refine propext ⟨fun h => ?_, fun h => .inr ⟨by omega, h⟩⟩
            rcases h with ⟨z, _⟩ | ⟨_, h⟩
            · omega
            · exact h
          unfold NR FN
          rw [e]
        · have e : (sing T') k = T' k := by
            funext t H
            refine propext ⟨fun h => ?_, fun h => .inr ⟨by omega, h⟩⟩
            rcases h with ⟨z, _⟩ | ⟨_, h⟩
            · omega
            · exact h
          have e1 : (sing T') (k + 1) = T' (k + 1) := by
            funext t H
            refine propext ⟨fun h => ?_, fun h => .inr ⟨by omega, h⟩⟩
            rcases h with ⟨z, _⟩ | ⟨_, h⟩
            · omega
            · exact h
          unfold NY
          rw [e, e1]
      · exact absurd z3 (Nat.lt_irrefl _)
    · exact z.elim
/-- one part's turn, whole -/
theorem nextOf_U {Q : Value → Shared → Prop} {E : Value → Shared → Prop} {s : Shared} {a : Addr} {g n : Nat} {gs : GenState} {O : List (Addr × Obj)} {X1 : Prop}
    (hs : ∀ b o, Hs b = some o → (∃ l, o = .lst l) ∨ (∃ a, o = .own a) ∨ ∃ C dx fs, o = .ins C dx fs ∧ Hs dx = some (.own b)) (hh : A.handled = none) (hl : s.heap.NoLimit) (hroom : A.depth < recursionLimit) (hga : s.heap.IsGen a g) (hg : s.gens[g]? = some gs)
    (hst : Susp gs = true ∨ ∃ c, gs = .fresh c) (hU : UG P w K mg base A.in1 outer L Hs xs n gs O) (hn1 : 1 ≤ n) (hn2 : n ≤ xs.length + 1)
    (e0 : Env0 P w K mg base A.in1 outer (s.setGen g .running) Hs) (hL : L ≤ s.heap.objs.size) (hLO : ∃ o, (L, o) ∈ O) (hk : ∀ p ∈ O, s.heap.get? p.1 = some p.2 ∧ Hs p.1 = none) (hfr : ∀ b ∈ frs outer, b < L ∧ Hs b = none)
    (hx : X1 → gs.Goes (model P w) A.in1 Rg Yg 1 (.send .none) (s.setGen g .running))
    (hR : ∀ s₁, TF P w outer L Hs O s s₁ → n = 1 → ∀ h' e, (∀ b o, s₁.heap.get? b = some o → h'.get? b = some o) → (∃ o, h'.get? e = some o ∧ o.cls = .type "StopIteration") → s₁.heap.objs.size ≤ e → E (.ref e) { s₁.setGen g .finished with heap := h' })
    (hY : ∀ v x s₁ gs', gs'.bare = true → Susp gs' = true → RelV x v → xs[xs.length + 1 - n]? = some x → TF P w outer L Hs O s s₁ → s₁.heap.NoLimit → (∃ o, s₁.heap.get? L = some o ∧ ∀ v, o.data ≠ .cell v) →
      (∀ O' : List (Addr × Obj), (∀ p : Addr × Obj, s₁.heap.get? p.1 = some p.2 → L ≤ p.1 → Hs p.1 = none → (∀ v, p.2.data ≠ .cell v) → (∀ o, ¬ Alien O Hs s.heap p.1 o) → p ∈ O') → UG P w K mg base A.in1 outer L Hs xs (n - 1) gs' O') → (X1 → s₁.gens = (s.setGen g .running).gens) →
      Q v (s₁.setGen g gs')) : wpAny (model P w) A (Builtin.SmallTypes.nextOf (.ref a)) Q E s := by
  unfold Builtin.SmallTypes.nextOf
  refine wpAny_bind (wpAny_callSpecial?_slot (name := Str.ofString "__next__") hga.typeIs slot_gen_next
    (wpAny_call_entry slot_gen_next hga.typeIs entry_gen_next ?_ (args_gen_next _)))
  show wpAny _ A.in1 (Builtin.Generator.genWake (.ref a) (.send .none)) _ _ s
  unfold Builtin.Generator.genWake
  refine wpAny_bind (wpAny_holding (wpAny_genNumber hga (wpAny_bind (wpAny_genState hg ?_))))
  cases gs with
  | running => rcases hst with h | ⟨c, h⟩ <;> cases h
  | finished => rcases hst with h | ⟨c, h⟩ <;> cases h
  | _ =>
    refine wpAny_bind (wpAny_roomToWake hl hroom ?_)
    show wpAny _ A.in1 (.resume g (.send .none) [] _) _ _ s
    refine wake_U hs hg hU hn1 hn2 e0 hL hLO hk hfr hx (fun r s₁ hr tf hn hx1 => ?_) (fun v x s₁ gs' hb hsu rv hxv tf hnl hlo hO hx1 => ?_)
    · have hres : End.result (.ret r) = .returned .none := by
        rcases hr with hr | hr <;> rw [hr] <;> rfl
      first | rw [hres] | simp only [hres]
      show wpAny _ A.in1 (newExc (.type "StopIteration") [] >>= _) _ _ _
      refine wpAny_bind ?_
      simp only [newExc, newTuple]
      refine wpAny_bind (wpAny_newObj_type ?_ (by size_fits))
      refine wpAny_bind (m := firstArgMember _ _) (wpAny_of_eq (a := Value.none) (by first | rfl | (simp only [firstArgMember]; rfl)) ?_)
      refine wpAny_newObj_type ?_ (by size_fits)
      simp only [raiseNew]
      refine wpAny_bind (wpAny_bind (wpAny_handled ?_))
      first | rw [show A.in1.handled = none from hh] | rw [hh]
      refine wpAny_throw ?_
      exact hR s₁ tf hn _ _ (fun b o hb => Heap.get?_push_of_some _ (Heap.get?_push_of_some _ hb)) ⟨_, Heap.get?_push_size _ rfl, rfl⟩ (by first | (show s₁.heap.objs.size ≤ (Heap.push _ _).objs.size; rw [Heap.size_push]; exact Nat.le_succ _) | (simp [Heap.size_push]))
    · exact wpAny_pure ⟨v, rfl, wpAny_pure (hY v x s₁ gs' hb hsu rv hxv tf hnl hlo hO hx1)⟩
theorem TF.of_but {O : List (Addr × Obj)} {s s₁ : Shared} {g : Nat} (t : TF P w outer L Hs O (butS g s) s₁) {s' : Shared} (hh : s'.heap = s₁.heap) (ho : s'.os = s₁.os) (hb : AllBare s'.gens) : TF P w outer L Hs O s s' := by
  obtain ⟨t1, t2, t3, t4, t5, t6⟩ := t
  exact ⟨ho.trans t1, hb, fun b o => by rw [hh]; exact t3 b o, fun b o => by rw [hh]; exact t4 b o, fun b o => by rw [hh]; exact t5 b o, by rw [hh]; exact t6⟩
/-- .. and what sleeps besides stays as it is -/
theorem next_one {Q : Value → Shared → Prop} {E : Value → Shared → Prop} {s : Shared} {a : Addr} {g n : Nat} {gs : GenState} {O : List (Addr × Obj)} {X1 : Prop}
    (hs : ∀ b o, Hs b = some o → (∃ l, o = .lst l) ∨ (∃ a, o = .own a) ∨ ∃ C dx fs, o = .ins C dx fs ∧ Hs dx = some (.own b)) (hh : A.handled = none) (hl : s.heap.NoLimit) (hroom : A.depth < recursionLimit) (hga : s.heap.IsGen a g) (hg : s.gens[g]? = some gs)
    (hst : Susp gs = true ∨ ∃ c, gs = .fresh c) (pl : PlainAt g s) (hU : UG P w K mg base A.in1 outer L Hs xs n gs O) (hn1 : 1 ≤ n) (hn2 : n ≤ xs.length + 1)
    (e0 : Env0 P w K mg base A.in1 outer s Hs) (hL : L ≤ s.heap.objs.size) (hLO : ∃ o, (L, o) ∈ O) (hk : ∀ p ∈ O, s.heap.get? p.1 = some p.2 ∧ Hs p.1 = none) (hfr : ∀ b ∈ frs outer, b < L ∧ Hs b = none)
    (hx : X1 → ∀ s2 : Shared, s2.heap = s.heap → Env0 P w K mg base A.in1 outer s2 Hs → gs.Goes (model P w) A.in1 Rg Yg 1 (.send .none) s2)
    (hR : ∀ s', n = 1 → AllBare s'.gens → (∃ h1, TF P w outer L Hs O s { s' with heap := h1 } ∧ ∀ b o, h1.get? b = some o → s'.heap.get? b = some o) → ∀ e, (∃ o, s'.heap.get? e = some o ∧ o.cls = .type "StopIteration") → E (.ref e) s')
    (hY : ∀ v x s' gs', Susp gs' = true → s'.gens[g]? = some gs' → StaysBut g s s' → PlainAt g s' → RelV x v → xs[xs.length + 1 - n]? = some x → TF P w outer L Hs O s s' → s'.heap.NoLimit → (∃ o, s'.heap.get? L = some o ∧ ∀ v, o.data ≠ .cell v) →
      (∀ O' : List (Addr × Obj), (∀ p : Addr × Obj, s'.heap.get? p.1 = some p.2 → L ≤ p.1 → Hs p.1 = none → (∀ v, p.2.data ≠ .cell v) → (∀ o, ¬ Alien O Hs s.heap p.1 o) → p ∈ O') → UG P w K mg base A.in1 outer L Hs xs (n - 1) gs' O') →
      (X1 → ∀ (i : Nat) (c : Code), i ≠ g → s.gens[i]? = some (.fresh c) → s'.gens[i]? = some (.fresh c)) → Q v s') : wpAny (model P w) A (Builtin.SmallTypes.nextOf (.ref a)) Q E s := by
  have hgb : (butS g s).gens[g]? = some gs := by
    rw [but_at, hg, Option.map_some, if_pos rfl]
  have env : Env0 P w K mg base A.in1 outer ((butS g s).setGen g .running) Hs := ⟨e0.frames, e0.mod, e0.bs, e0.bsz, e0.funs, e0.frf, e0.hok, allBare_setGen (bare_but e0.bare) rfl⟩
  refine wpAny_mono (wpAny_but pl (Q := fun v s2 => ∃ x s₁ gs', s2 = s₁.setGen g gs' ∧ gs'.bare = true ∧ Susp gs' = true ∧ RelV x v ∧ xs[xs.length + 1 - n]? = some x ∧ TF P w outer L Hs O (butS g s) s₁ ∧ s₁.heap.NoLimit ∧ (∃ o, s₁.heap.get? L = some o ∧ ∀ v, o.data ≠ .cell v) ∧
      (∀ O' : List (Addr × Obj), (∀ p : Addr × Obj, s₁.heap.get? p.1 = some p.2 → L ≤ p.1 → Hs p.1 = none → (∀ v, p.2.data ≠ .cell v) → (∀ o, ¬ Alien O Hs s.heap p.1 o) → p ∈ O') → UG P w K mg base A.in1 outer L Hs xs (n - 1) gs' O') ∧ (X1 → s₁.gens = ((butS g s).setGen g .running).gens) ∧ g < s₁.gens.size)
    (E := fun ev s2 => ∃ s₁ h' e, n = 1 ∧ ev = .ref e ∧ s2 = { s₁.setGen g .finished with heap := h' } ∧ TF P w outer L Hs O (butS g s) s₁ ∧ (∀ b o, s₁.heap.get? b = some o → h'.get? b = some o) ∧ ∃ o, h'.get? e = some o ∧ o.cls = .type "StopIteration") ?_) (fun v s' hw => ?_) fun ev s' hw => ?_
  · refine wpAny_gsz (n := g + 1) (Array.getElem?_eq_some_iff.mp hgb).1 ?_
    refine nextOf_U (X1 := X1) hs hh hl hroom hga hgb hst hU hn1 hn2 env hL hLO hk hfr (fun x1 => hx x1 _ rfl env) (fun s₁ tf hn h' e k1 k2 k3 => ?_) (fun v x s₁ gs' hb hsu rv hxv tf hnl hlo hO hx1 => ?_)
    · intro _
      exact ⟨s₁, h', e, hn, rfl, rfl, tf, k1, k2⟩
    · intro hsz
      refine ⟨x, s₁, gs', rfl, hb, hsu, rv, hxv, tf, hnl, hlo, hO, hx1, ?_⟩
      have q : (s₁.setGen g gs').gens.size = s₁.gens.size := setGen_size _ _ _
      have hsz' : g + 1 ≤ (s₁.setGen g gs').gens.size := hsz
      omega
  · obtain ⟨st, pl', G, ⟨x, s₁, gs', e, hb, hsu, rv, hxv, tf, hnl, hlo, hO, hx1, hgz⟩, hGg, hns, hbr⟩ := hw
    have eh : s'.heap = s₁.heap := by have q := congrArg (fun z : Shared => z.heap) e; exact q
    have eo : s'.os = s₁.os := by have q := congrArg (fun z : Shared => z.os) e; exact q
    have eg : G = (s₁.setGen g gs').gens := by have q := congrArg (fun z : Shared => z.gens) e; exact q
    have g2 : s'.gens[g]? = some gs' := by
      rw [← hGg, eg]
      exact setGen_at hgz
    have bare' : AllBare s'.gens := hbr e0.bare (by rw [eg]; exact allBare_setGen tf.bare hb)
    refine hY v x s' gs' hsu g2 st pl' rv hxv (tf.of_but eh eo bare') (by rw [eh]; exact hnl) (by rw [eh]; exact hlo) (fun O' hO' => hO O' fun p p1 => hO' p (by rw [eh]; exact p1)) fun x1 i c hi hc => ?_
    refine hns i _ ?_ rfl
    rw [eg]
    show (s₁.gens.setIfInBounds g gs')[i]? = _
    rw [Array.getElem?_setIfInBounds_ne hi.symm, hx1 x1]
    show ((butS g s).gens.setIfInBounds g .running)[i]? = _
    rw [Array.getElem?_setIfInBounds_ne hi.symm, but_at, hc, Option.map_some, if_neg hi]
    rfl
  · obtain ⟨st, pl', G, ⟨s₁, h', e', hn, rfl, e, tf, k1, k2⟩, hGg, hns, hbr⟩ := hw
    have eh : s'.heap = h' := by have q := congrArg (fun z : Shared => z.heap) e; exact q
    have eo : s'.os = s₁.os := by have q := congrArg (fun z : Shared => z.os) e; exact q
    have eg : G = (s₁.setGen g .finished).gens := by have q := congrArg (fun z : Shared => z.gens) e; exact q
    have bare' : AllBare s'.gens := hbr e0.bare (by rw [eg]; exact allBare_setGen tf.bare rfl)
    exact hR s' hn bare' ⟨s₁.heap, tf.of_but rfl eo bare', by rw [eh]; exact k1⟩ e' (by rw [eh]; exact k2)
end
end L2

/-! zip of two calls of a generator method -/
namespace L2
open PySem PySem.Spec PyProof.Rows GenW
/-- a local name read: the state is as it was -/
theorem var_at {X : Cx} {pins : List (Addr × Obj)} {σ : L2.St} {H : Hp} {s : Shared} {i : Nat} {x : Str} {pos : Pos} {v : V} {Q : Value → Shared → Prop} {E : Value → Shared → Prop} (I : Inv X pins σ H s) (hN : X.N[i]? = some x) (hv : Vis X.env.scope x) (e : σ[i]? = some (some v)) (h : ∀ u, RelV v u → Q u s)
    (hd : (x == ("__debug__" : Str)) = false := by decide) (hcd : (x == ("__classdict__" : Str)) = false := by decide) : wpAny (model X.prog X.w) X.A (eval (.Name x pos) X.env) Q E s := by
  obtain ⟨m, hn, hl⟩ := I.loc
  obtain ⟨u, r, l⟩ := hl i x v hN e hv
  rcases l with ⟨hk, hm⟩ | ⟨hk, c, hc, hcell⟩
  · exact wpAny_Name (wpAny_loadName_local I.ok.kind hk hn hm (h u r)) hd
  · rcases hk with hk | hk
    · exact wpAny_Name (wpAny_loadName_cell I.ok.kind hk hc hcell (h u r)) hd
    · exact wpAny_Name (wpAny_loadName_free I.ok.kind hk hc hcell (h u r) hcd) hd
def ZMade (P : Program) (w : World) (K : PySem.W.Frag) (mg : Str → Option Value) (base : Heap) (k : Nat) (outer : List Env) (s : Shared) (PG1 : GPost → Prop) (fx : Hp → Prop) (PG2 : GPost → Prop) (u : Value) (s' : Shared) : Prop :=
  ∃ (s1 s2 : Shared) (a1 a2 : Addr) (fx2 : Hp → Prop) (h' : Heap), NMade P w K mg base k outer s PG1 fx (.ref a1) s1 ∧ NMade P w K mg base k outer s1 PG2 fx2 (.ref a2) s2 ∧ u = .ref (s2.heap.objs.size + 2) ∧ s' = { s2 with heap := h' } ∧
    IsZip h' (s2.heap.objs.size + 2) s2.heap.objs.size (s2.heap.objs.size + 1) .none ∧ IsTupOf2 h' s2.heap.objs.size (.ref a1) (.ref a2) ∧ IsTupOf2 h' (s2.heap.objs.size + 1) .none .none ∧ h'.objs.size = s2.heap.objs.size + 3 ∧ ∀ c o, s2.heap.get? c = some o → h'.get? c = some o
abbrev TZ := L2.St → Hp → ((GPost → Prop) → (Hp → Prop) → (GPost → Prop) → Prop) → Prop
structure PZipS (X : Cx) (k : Nat) (e : Expr) (tz : TZ) : Prop where
  run : ∀ (pins : List (Addr × Obj)) (s : Shared) (σ : L2.St) (H : Hp) (C : (GPost → Prop) → (Hp → Prop) → (GPost → Prop) → Prop), Inv X pins σ H s → tz σ H C →
    wpAny (model X.prog X.w) X.A (eval e X.env) (fun u s' => ∃ PG1 fx PG2, ZMade X.prog X.w X.K X.mg X.base k X.stack s PG1 fx PG2 u s' ∧ C PG1 fx PG2) X.xe s
end L2
namespace Pg
open PySem PySem.Spec PyProof.Rows L2 GenW
structure MNfAt (P : Program) (w : World) (K : PySem.W.Frag) (mg : Str → Option Value) (base : Heap) (C : Addr) (m qual : Str) (st : Stmt) (k : Nat) (ps : List Str) (sp : SpN) (spx : List V → Hp → Prop) : Prop where
  ex : ∃ f fd, Meth K C m f ∧ Fun K m qual st f fd ∧ NFn P w K mg base k f fd ps sp spx ∧ Binds K fd ps []
theorem MethAt.okNF {P : Program} {w : World} {K : PySem.W.Frag} {mg : Str → Option Value} {base : Heap} {C : Addr} {m qual : Str} {st : Stmt} {k : Nat} {ps N : List Str} {sp : SpN} {spx : List V → Hp → Prop} (F : MethAt K C m qual st) (S : GScope N ps (defScope st))
    (hnc : ∀ n, cellsFrom n (defScope st).names [] = []) (hno : ∀ y, (defScope st).names.lookup y ≠ some .cell ∧ (defScope st).names.lookup y ≠ some .free)
    (hb : ∀ (kV doc pm : Value) (an : Option Addr) (cdv ct : Value) (us : List Value), us.length = ps.length → bindArgs (PySem.W.fnOf m qual (defArgs st) (defBody st) (defScope st) .none kV doc pm an cdv ct) ⟨us, []⟩ = pure (ps.zip us))
    (hbody : ∀ (f : Addr) (cdv : Value) (A : Around) (outer : List Env) (L : Addr) (vs : List V) (H : Hp), Room k (A.deeper (envOfC qual (defScope st) L f cdv)) →
      ∃ t, NSs P w K mg base N qual (defScope st) f cdv A outer L (defBody st) t ∧ ∀ G, sp vs H G → ∀ H₀, G.ok 0 H₀ → t G { nx := fun j H₀ _ H' => G.rt j H₀ H', rt := fun j H₀ v H' => v = .non ∧ G.rt j H₀ H' } 0 H₀ (start N vs) H₀)
    (hfirst : ∀ (f : Addr) (cdv : Value) (A : Around) (outer : List Env) (L : Addr) (vs : List V) (s2 : NTurn) (H2 : Hp), A.handled = none → Room k (A.deeper (envOfC qual (defScope st) L f cdv)) → spx vs H2 → Inv (ncxOf P w K mg base N qual (defScope st) f cdv A outer L s2 H2) [] (start N vs) H2 s2 →
      Seg (model P w) A Rg Yg 1 s2 (.func (defBody st) (envOfC qual (defScope st) L f cdv)) ((model P w).den (.func (defBody st) (envOfC qual (defScope st) L f cdv))) [] s2) : MNfAt P w K mg base C m qual st (k + 1) ps sp spx := by
  obtain ⟨f, fd, hm, F⟩ := F.ex
  refine ⟨f, fd, hm, F, ?_, F.binds hb⟩
  obtain ⟨oc, od, kV, doc, pm, an, cdv, ct, osl, rfl, lk, hcd⟩ := F.ex
  exact nfn_of lk hcd S hnc hno (fun A outer L vs H hr => hbody f cdv A outer L vs H hr) fun A outer L vs s2 H2 hh hr hx I => hfirst f cdv A outer L vs s2 H2 hh hr hx I
section
variable {X : Cx} {m qual xo xa : Str} {st : Stmt} {k io ia : Nat} {ps : List Str} {C : Addr} {po pa pos' apos : Pos} {sp : SpN} {spx : List V → Hp → Prop}
/-- o.m(a), both local names -/
theorem gen_call {pins : List (Addr × Obj)} {s : Shared} {σ : L2.St} {H : Hp} {a dx : Addr} {v : V} {fs : List (Str × V)} {pl : Sem Bool} (T : Cls X.K C) (D : MNfAt X.prog X.w X.K X.mg X.base C m qual st k ps sp spx) (hr : Room k X.A) (hlen : ps.length = 2)
    (ho : X.N[io]? = some xo) (hov : Vis X.env.scope xo) (ha : X.N[ia]? = some xa) (hav : Vis X.env.scope xa) (I : Inv X pins σ H s) (eo : σ[io]? = some (some (.ref a))) (ea : σ[ia]? = some (some v)) (hH : H a = some (.ins C dx fs)) (hl : fs.lookup m = none)
    (hd1 : (xo == ("__debug__" : Str)) = false := by decide) (hc1 : (xo == ("__classdict__" : Str)) = false := by decide) (hd2 : (xa == ("__debug__" : Str)) = false := by decide) (hc2 : (xa == ("__classdict__" : Str)) = false := by decide)
    (hst : starEach [.Name xa pa] X.env = [(false, eval (.Name xa pa) X.env)] := by rfl)
    (ht : eval (.Call (.Attribute (.Name xo po) m apos) [.Name xa pa] [] pos') X.env = (do
      let ov ← eval (.Name xo po) X.env
      standAt apos.atName
      let (f, first) ← holding [ov] (getMethod ov m pl)
      callWith pos' f first (backTo pos' (starEach [.Name xa pa] X.env)) (backToKw pos' (keywordEach [] X.env))) := by rfl) :
    wpAny (model X.prog X.w) X.A (eval (.Call (.Attribute (.Name xo po) m apos) [.Name xa pa] [] pos') X.env) (fun u s' => NMade X.prog X.w X.K X.mg X.base k X.stack s (sp [.ref a, v] H) (spx [.ref a, v]) u s') X.xe s := by
  obtain ⟨f, fd, hm, F, G, b⟩ := D.ex
  refine PySem.W.methodCall_KW (pl := pl) (var_at I ho hov eo (fun u ru => ?_) hd1 hc1) ht
  obtain rfl : u = Value.ref a := ru
  refine getmeth_ok I hH T hm hl ?_
  have hst' : starEach [.Name xa pa] X.env = (false, eval (.Name xa pa) X.env) :: starEach [] X.env := hst
  refine PySem.W.callWith_K (first := [.ref a]) (h₀ := X.base) I.ok.mod.kin hm.kp ?_ hst' rfl
  rw [hst]
  show wpAny _ _ (spliced ((false, eval (.Name xa pa) X.env) :: [])) _ _ s
  refine Calls.spliced_cons (var_at I ha hav ea (fun u2 ru2 => Calls.spliced_nil ⟨I.kIn, ?_⟩) hd2 hc2)
  have r2 : Vals [V.ref a, v] [Value.ref a, u2] := .cons rfl (.cons ru2 .nil)
  have hl2 : [V.ref a, v].length = ps.length := hlen.symm
  refine wpAny_call (codeAny_mono (G.run X.A X.stack s H ⟨[.ref a, u2], []⟩ [.ref a, u2] [.ref a, v] hr I.env0 (binds0 b r2 hl2 I.kIn) r2 hl2) fun r s' hq => ?_)
  cases r with
  | error e => exact False.elim hq
  | ok fl =>
    cases fl with
    | ret u => exact hq
    | next => exact False.elim hq
    | brk => exact False.elim hq
    | cont => exact False.elim hq
/-- zip(o.m(a), o.m(a)) -/
def tZipM (C : Addr) (m : Str) (sp : SpN) (spx : List V → Hp → Prop) (io ia : Nat) : TZ := fun σ H c => ∃ (a dx : Addr) (v : V) (fs : List (Str × V)), σ[io]? = some (some (.ref a)) ∧ σ[ia]? = some (some v) ∧ H a = some (.ins C dx fs) ∧ fs.lookup m = none ∧ c (sp [.ref a, v] H) (spx [.ref a, v]) (sp [.ref a, v] H)
theorem pz_meths {p zpos p1 q1 r1 t1 p2 q2 r2 t2 : Pos} (T : Cls X.K C) (D : MNfAt X.prog X.w X.K X.mg X.base C m qual st k ps sp spx) (hr : Room k X.A) (hlen : ps.length = 2) (hg : Gl X "zip") (hmz : X.mg "zip" = none)
    (ho : X.N[io]? = some xo) (hov : Vis X.env.scope xo) (ha : X.N[ia]? = some xa) (hav : Vis X.env.scope xa)
    (hd1 : (xo == ("__debug__" : Str)) = false := by decide) (hc1 : (xo == ("__classdict__" : Str)) = false := by decide) (hd2 : (xa == ("__debug__" : Str)) = false := by decide) (hc2 : (xa == ("__classdict__" : Str)) = false := by decide)
    {pl1 pl2 : Sem Bool} (hst1 : starEach [.Name xa r1] X.env = [(false, eval (.Name xa r1) X.env)] := by rfl) (hst2 : starEach [.Name xa r2] X.env = [(false, eval (.Name xa r2) X.env)] := by rfl)
    (ht1 : eval (.Call (.Attribute (.Name xo p1) m q1) [.Name xa r1] [] t1) X.env = (do
      let ov ← eval (.Name xo p1) X.env
      standAt q1.atName
      let (f, first) ← holding [ov] (getMethod ov m pl1)
      callWith t1 f first (backTo t1 (starEach [.Name xa r1] X.env)) (backToKw t1 (keywordEach [] X.env))) := by rfl)
    (ht2 : eval (.Call (.Attribute (.Name xo p2) m q2) [.Name xa r2] [] t2) X.env = (do
      let ov ← eval (.Name xo p2) X.env
      standAt q2.atName
      let (f, first) ← holding [ov] (getMethod ov m pl2)
      callWith t2 f first (backTo t2 (starEach [.Name xa r2] X.env)) (backToKw t2 (keywordEach [] X.env))) := by rfl)
    (hs : starEach [.Call (.Attribute (.Name xo p1) m q1) [.Name xa r1] [] t1, .Call (.Attribute (.Name xo p2) m q2) [.Name xa r2] [] t2] X.env = [(false, eval (.Call (.Attribute (.Name xo p1) m q1) [.Name xa r1] [] t1) X.env), (false, eval (.Call (.Attribute (.Name xo p2) m q2) [.Name xa r2] [] t2) X.env)] := by rfl) :
    PZipS X k (.Call (.Name "zip" p) [.Call (.Attribute (.Name xo p1) m q1) [.Name xa r1] [] t1, .Call (.Attribute (.Name xo p2) m q2) [.Name xa r2] [] t2] [] zpos) (tZipM C m sp spx io ia) := by
  refine ⟨fun pins s σ H c I h => ?_⟩
  obtain ⟨a, dx, v, fs, eo, ea, hH, hl, hc⟩ := h
  have hs' : starEach [.Call (.Attribute (.Name xo p1) m q1) [.Name xa r1] [] t1, .Call (.Attribute (.Name xo p2) m q2) [.Name xa r2] [] t2] X.env = (false, eval (.Call (.Attribute (.Name xo p1) m q1) [.Name xa r1] [] t1) X.env) :: starEach [.Call (.Attribute (.Name xo p2) m q2) [.Name xa r2] [] t2] X.env := rfl
  refine Call_ (ld_blt I hg hmz PyProof.Rows.boot_zip (PyProof.Rows.callWith_type1 ?_ hs' rfl))
  rw [hs]
  show wpAny _ _ (spliced ((false, eval (.Call (.Attribute (.Name xo p1) m q1) [.Name xa r1] [] t1) X.env) :: (false, eval (.Call (.Attribute (.Name xo p2) m q2) [.Name xa r2] [] t2) X.env) :: [])) _ _ s
  refine Calls.spliced_cons (thn (gen_call (pl := pl1) T D hr hlen ho hov ha hav I eo ea hH hl hd1 hc1 hd2 hc2 hst1 ht1) fun u1 s1 h1 => ?_)
  obtain ⟨L1, a1, g1, c1, go1, oL1, e1, n1⟩ := id h1
  obtain ⟨hL1, hLa1, ha1, eL1, dL1, ea1, da1, hgen1, hgs1, hos1, hbr1, kp1, hgk1, hf1, wake1⟩ := n1
  have I1 : Inv X pins σ H s1 := I.call' (ch := []) hos1 (Un.kept kp1) (I.hok.kept kp1) hbr1 fun b z => by simp at z
  refine Calls.spliced_cons (thn (gen_call (pl := pl2) T D hr hlen ho hov ha hav I1 eo ea hH hl hd1 hc1 hd2 hc2 hst2 ht2) fun u2 s2 h2 => Calls.spliced_nil ?_)
  obtain ⟨L2, a2, g2, c2, go2, oL2, e2, n2⟩ := id h2
  obtain ⟨hL2, hLa2, ha2, eL2, dL2, ea2, da2, hgen2, hgs2, hos2, hbr2, kp2, hgk2, hf2, wake2⟩ := n2
  subst e1 e2
  refine PySem.call_zip_gens (hgen1 _ (kp2 _ _ ea1)) (hgen2 _ ea2) fun h' z1 z2 z3 z4 z5 => ?_
  exact ⟨_, _, _, ⟨s1, s2, a1, a2, _, h', h1, h2, rfl, rfl, z1, z2, z3, z4, z5⟩, hc⟩
end
end Pg

/-! one of two generators takes its turn, seen from the block -/
namespace L2
open PySem PySem.Spec PyProof.Rows GenW
/-- lists, and instances with their dicts -/
structure SmallH (Hs : Hp) : Prop where
  kind : ∀ b o, Hs b = some o → (∃ l, o = .lst l) ∨ (∃ a, o = .own a) ∨ ∃ C dx fs, o = .ins C dx fs ∧ Hs dx = some (.own b)
  own : ∀ b a, Hs b = some (.own a) → Hs a ≠ none
theorem env_small {P : Program} {w : World} {K : PySem.W.Frag} {mg : Str → Option Value} {base : Heap} {A : Around} {outer : List Env} {s : Shared} {H Hs : Hp} (e : Env0 P w K mg base A outer s H) (sm : SmallH Hs) (sub : ∀ b o, Hs b = some o → H b = some o) : Env0 P w K mg base A outer s Hs := by
  have no : ∀ b, H b = none → Hs b = none := fun b h => by
    cases h2 : Hs b with
    | none => rfl
    | some o => rw [sub b o h2] at h; cases h
  exact ⟨e.frames, e.mod, fun b o q => ⟨(e.bs b o q).1, no b (e.bs b o q).2⟩, e.bsz, e.funs, fun b hb => no b (e.frf b hb), pure_hok sm.kind e.hok fun b o _ h => sub b o h, e.bare⟩
section
variable {B : Cx} {σ : L2.St} {H Hs : Hp} {s s₁ : Shared} {L : Addr} {O : List (Addr × Obj)}
theorem tracked_alien (I : Inv B [] σ H s) (low : ∀ b, Hs b ≠ none → b < L) (seq : ∀ b o, L ≤ b → H b = some o → (∃ l, o = .lst l) ∨ ∃ l, o = .tup l) (hO : ∀ p ∈ O, H p.1 = none) : ∀ b o, L ≤ b → H b = some o → ∃ ob, Alien O Hs s.heap b ob := fun b o hb h => by
  have h1 : ∀ p ∈ O, p.1 ≠ b := fun p hp z => by
    have := hO p hp
    rw [z, h] at this
    cases this
  have h2 : Hs b = none := Classical.byContradiction fun z => absurd (low b z) (Nat.not_lt.mpr hb)
  rcases seq b o hb h with ⟨l, rfl⟩ | ⟨l, rfl⟩
  · obtain ⟨_, its, n, _, e⟩ := I.hok b _ h
    exact ⟨_, e, h1, (fun v z => nomatch z), h2⟩
  · obtain ⟨_, its, _, ob2, e, _, n, d⟩ := I.hok b _ h
    exact ⟨_, e, h1, (fun v z => by rw [d] at z; cases z), h2⟩
/-- behind the turn -/
theorem back_Z (I : Inv B [] σ H s) (t : TF B.prog B.w B.stack L Hs O s s₁) (sm : SmallH Hs) (sub : ∀ b o, Hs b = some o → H b = some o) (low : ∀ b, Hs b ≠ none → b < L) (seq : ∀ b o, L ≤ b → H b = some o → (∃ l, o = .lst l) ∨ ∃ l, o = .tup l) (hO : ∀ p ∈ O, H p.1 = none) (hst : ∀ b ∈ frs B.stack, b < L)
    (hch : ∀ b, L ≤ b → b < s.heap.objs.size → (∀ o, ¬ Alien O Hs s.heap b o) → (b ∈ B.ex ∨ B.s_0.heap.objs.size ≤ b) ∧ b ≠ B.env.locals ∧ (∀ x c, B.env.cells.lookup x = some c → c ≠ b) ∧ ∀ p ∈ B.pn, p.1 ≠ b) :
    Inv B [] σ H s₁ ∧ ∀ b o, L ≤ b → H b = some o → ∃ ob, Alien O Hs s.heap b ob := by
  have noc : ∀ b o ob, L ≤ b → H b = some o → s.heap.get? b = some ob → ∀ v, ob.data ≠ .cell v := fun b o ob hb ho hg v z => by
    rcases seq b o hb ho with ⟨l, rfl⟩ | ⟨l, rfl⟩
    · obtain ⟨_, its, n, _, e⟩ := I.hok b _ ho
      rw [hg] at e
      cases e
      cases z
    · obtain ⟨_, its, _, ob2, e, _, n, d⟩ := I.hok b _ ho
      rw [hg] at e
      cases e
      rw [d] at z
      cases z
  have no : ∀ b, H b = none → Hs b = none := fun b h => by
    cases h2 : Hs b with
    | none => rfl
    | some o => rw [sub b o h2] at h; cases h
  have hs0 : ∀ b, L ≤ b → Hs b = none := fun b hb => by
    cases h2 : Hs b with
    | none => rfl
    | some o => exact absurd (low b (by rw [h2]; simp)) (Nat.not_lt.mpr hb)
  have al : ∀ b o ob, L ≤ b → H b = some o → s.heap.get? b = some ob → Alien O Hs s.heap b ob := fun b o ob hb ho hg => by
    refine ⟨hg, fun p hp z => ?_, noc b o ob hb ho hg, hs0 b hb⟩
    have := hO p hp
    rw [z, ho] at this
    cases this
  have obj : ∀ b o, L ≤ b → H b = some o → ∃ ob, s.heap.get? b = some ob := fun b o hb ho => by
    rcases seq b o hb ho with ⟨l, rfl⟩ | ⟨l, rfl⟩
    · obtain ⟨_, its, n, _, e⟩ := I.hok b _ ho
      exact ⟨_, e⟩
    · obtain ⟨_, its, _, ob2, e, _⟩ := I.hok b _ ho
      exact ⟨_, e⟩
  obtain ⟨cl, hcl⟩ := objs_of s.heap fun p => L ≤ p.1 ∧ ∀ o, ¬ Alien O Hs s.heap p.1 o
  have cin : ∀ b o, s.heap.get? b = some o → b ∉ cl.map (·.1) → b < L ∨ Alien O Hs s.heap b o := fun b o e hx => by
    by_cases h : b < L
    · exact .inl h
    · refine .inr (Classical.byContradiction fun hn => hx (List.mem_map.mpr ⟨(b, o), (hcl (b, o)).mpr ⟨e, Nat.le_of_not_lt h, fun o2 h2 => hn ?_⟩, rfl⟩))
      obtain ⟨h3, h4⟩ := h2
      rw [e] at h3
      cases h3
      exact ⟨e, h4⟩
  have hok : HOk B.prog B.w H s₁.heap := fun b o e => by
    cases h1 : Hs b with
    | some o' =>
      have := sub b o' h1
      rw [e] at this
      cases this
      exact (t.hok b o h1).stay (fun _ _ _ q => q) (fun c q => sub _ _ q) fun c l q => sub _ _ q
    | none =>
      refine (I.hok b o e).stay (fun c u hc q => ?_) (fun c q => q) fun c l q => q
      have hc2 : Hs c = none := by
        rcases hc with rfl | hc
        · exact h1
        · cases h2 : Hs c with
          | none => rfl
          | some o2 =>
            have := sub _ _ h2
            rw [hc] at this
            cases this
            exact absurd h1 (sm.own _ _ h2)
      obtain ⟨o2, ho2⟩ : ∃ o2, H c = some o2 := hc.elim (fun z => ⟨o, by rw [z]; exact e⟩) fun z => ⟨_, z⟩
      have nf : c ∉ frs B.stack := fun z => by
        have := I.env0.frf c z
        rw [ho2] at this
        cases this
      by_cases hb : c < L
      · exact t.keep c u q hc2 nf (.inl hb)
      · exact t.keep c u q hc2 nf (.inr (al c o2 u (Nat.le_of_not_lt hb) ho2 q))
  refine ⟨I.call' (ch := cl.map (·.1)) t.os ⟨fun b o e n hb hx => t.keep b o e (no b n) hb (cin b o e hx), fun b o e n hb hx => t.slot b o e hb, fun b o e n hx => n, fun b o e hx => ?_, fun b l e => e, fun b o u e => e, fun b ps e => ⟨#[], by rw [e]; simp⟩⟩ hok t.bare fun b hb => ?_, fun b o hb ho => ?_⟩
  · rcases cin b o e hx with h | h
    · exact t.there b o e h
    · by_cases hb : b ∈ frs B.stack
      · obtain ⟨sl, q⟩ := t.slot b o e hb
        exact ⟨_, q⟩
      · exact ⟨o, t.keep b o e h.2.2.2 hb (.inr h)⟩
  · obtain ⟨p, hp, rfl⟩ := List.mem_map.mp hb
    obtain ⟨h1, h2, h3⟩ := (hcl p).mp hp
    obtain ⟨k1, k2, k3, k4⟩ := hch p.1 h2 (Heap.lt_size h1) h3
    exact ⟨k1, k2, k3, fun q hq => k4 q (by simpa using hq)⟩
  · obtain ⟨ob, hob⟩ := obj b o hb ho
    exact ⟨ob, al b o ob hb ho hob⟩
/-- a generator's turn, seen from the block -/
theorem turn_Z {Q : Value → Shared → Prop} {E : Value → Shared → Prop} {a : Addr} {g n : Nat} {gs : GenState} {R : List (Addr × Obj)} {xs : List V} {X1 : Prop}
    (I : Inv B [] σ H s) (sm : SmallH Hs) (sub : ∀ b o, Hs b = some o → H b = some o) (low : ∀ b, Hs b ≠ none → b < L) (seq : ∀ b o, L ≤ b → H b = some o → (∃ l, o = .lst l) ∨ ∃ l, o = .tup l) (hst : ∀ b ∈ frs B.stack, b < L)
    (hch : ∀ b, L ≤ b → H b = none → b ≠ B.env.locals → (b ∈ B.ex ∨ B.s_0.heap.objs.size ≤ b) ∧ (∀ x c, B.env.cells.lookup x = some c → c ≠ b) ∧ ∀ p ∈ B.pn, p.1 ≠ b) (hC : L ≤ B.env.locals)
    (hd : B.A.handled = none) (hroom : B.A.in1.depth < recursionLimit) (hga : s.heap.IsGen a g) (hg : s.gens[g]? = some gs) (hgs : Susp gs = true ∨ ∃ c, gs = .fresh c) (pl : PlainAt g s)
    (hU : UG B.prog B.w B.K B.mg B.base B.A.in1.in1 B.stack L Hs xs n gs O) (hn1 : 1 ≤ n) (hn2 : n ≤ xs.length + 1) (hL : L ≤ s.heap.objs.size) (hLO : ∃ o, (L, o) ∈ O)
    (hO : ∀ p ∈ O, s.heap.get? p.1 = some p.2 ∧ H p.1 = none ∧ p.1 ≠ B.env.locals) (hR : ∀ p ∈ R, s.heap.get? p.1 = some p.2 ∧ H p.1 = none ∧ (∀ v, p.2.data ≠ .cell v) ∧ p.1 ∉ frs B.stack ∧ ∀ q ∈ O, q.1 ≠ p.1)
    (hx : X1 → ∀ s2 : Shared, s2.heap = s.heap → Env0 B.prog B.w B.K B.mg B.base B.A.in1.in1 B.stack s2 Hs → gs.Goes (model B.prog B.w) B.A.in1.in1 Rg Yg 1 (.send .none) s2)
    (hE : ∀ e s', n = 1 → Inv B [] σ H s' → (∀ p ∈ R, s'.heap.get? p.1 = some p.2) → (∃ o, s'.heap.get? e = some o ∧ o.cls = .type "StopIteration") → E (.ref e) s')
    (hY : ∀ v x s' gs' O', RelV x v → xs[xs.length + 1 - n]? = some x → Inv B [] σ H s' → (∀ p ∈ R, s'.heap.get? p.1 = some p.2) → Susp gs' = true → s'.gens[g]? = some gs' → StaysBut g s s' → PlainAt g s' → UG B.prog B.w B.K B.mg B.base B.A.in1.in1 B.stack L Hs xs (n - 1) gs' O' →
      (∀ p ∈ O', s'.heap.get? p.1 = some p.2 ∧ H p.1 = none ∧ L ≤ p.1 ∧ (∀ v, p.2.data ≠ .cell v) ∧ p.1 ≠ B.env.locals ∧ ∀ q ∈ R, q.1 ≠ p.1) → (∃ o, (L, o) ∈ O') → (X1 → ∀ (i : Nat) (c : Code), i ≠ g → s.gens[i]? = some (.fresh c) → s'.gens[i]? = some (.fresh c)) → Q v s') :
    wpAny (model B.prog B.w) B.A.in1 (Builtin.SmallTypes.nextOf (.ref a)) Q E s := by
  have no : ∀ b, H b = none → Hs b = none := fun b h => by
    cases h2 : Hs b with
    | none => rfl
    | some o => rw [sub b o h2] at h; cases h
  have e0 : Env0 B.prog B.w B.K B.mg B.base B.A.in1.in1 B.stack s Hs := env_small (I.env0.in1.in1) sm sub
  obtain ⟨oC, hoC, dC⟩ : ∃ oC, s.heap.get? B.env.locals = some oC ∧ ∀ v, oC.data ≠ .cell v := by
    obtain ⟨m, ⟨o, es, ep, ho, r⟩, _⟩ := I.loc
    refine ⟨o, ho, fun v z => ?_⟩
    have := r.1
    rw [this] at z
    cases z
  have aC : Alien O Hs s.heap B.env.locals oC := ⟨hoC, fun p hp => (hO p hp).2.2, dC, no _ I.free⟩
  have aR : ∀ p ∈ R, Alien O Hs s.heap p.1 p.2 := fun p hp => ⟨(hR p hp).1, (hR p hp).2.2.2.2, (hR p hp).2.2.1, no _ (hR p hp).2.1⟩
  have back : ∀ {s₁ : Shared}, TF B.prog B.w B.stack L Hs O s s₁ → Inv B [] σ H s₁ ∧ (∀ b o, L ≤ b → H b = some o → ∃ ob, Alien O Hs s.heap b ob) ∧ ∀ p ∈ R, s₁.heap.get? p.1 = some p.2 := fun {s₁} t => by
    have tr : ∀ b o, L ≤ b → H b = some o → ∃ ob, Alien O Hs s.heap b ob := tracked_alien I low seq fun p hp => (hO p hp).2.1
    refine ⟨(back_Z I t sm sub low seq (fun p hp => (hO p hp).2.1) hst fun b hb hb2 hna => ?_).1, tr, fun p hp => t.keep p.1 p.2 (hR p hp).1 (no _ (hR p hp).2.1) (hR p hp).2.2.2.1 (.inr (aR p hp))⟩
    have z : b ≠ B.env.locals := fun z => hna oC (by rw [z]; exact aC)
    have hn : H b = none := by
      cases h : H b with
      | none => rfl
      | some o =>
        obtain ⟨ob, hob⟩ := tr b o hb h
        exact absurd hob (hna ob)
    exact ⟨(hch b hb hn z).1, z, (hch b hb hn z).2⟩
  refine next_one (X1 := X1) sm.kind hd I.nolimit hroom hga hg hgs pl hU hn1 hn2 e0 hL hLO (fun p hp => ⟨(hO p hp).1, no _ (hO p hp).2.1⟩) (fun b hb => ⟨hst b hb, no _ (I.env0.frf b hb)⟩) hx (fun s' hn hb h1 e he => ?_) (fun v x s' gs' hsu g2 st pl' rv hxv tf hnl hlo hO' hfx => ?_)
  · obtain ⟨h1, tf, k⟩ := h1
    obtain ⟨I1, _, r1⟩ := back tf
    have I2 : Inv B [] σ H s' := I1.kept (t' := s'.toks) (h' := s'.heap) k
    exact hE e s' hn I2 (fun p hp => k _ _ (r1 p hp)) he
  · obtain ⟨I1, tr, r1⟩ := back tf
    obtain ⟨O', hO2⟩ := objs_of s'.heap fun p => L ≤ p.1 ∧ Hs p.1 = none ∧ (∀ v, p.2.data ≠ .cell v) ∧ ∀ o, ¬ Alien O Hs s.heap p.1 o
    obtain ⟨oL, hoL1, hoL2⟩ := hlo
    refine hY v x s' gs' O' rv hxv I1 r1 hsu g2 st pl' (hO' O' fun p p1 p2 p3 p4 p5 => (hO2 p).mpr ⟨p1, p2, p3, p4, p5⟩) (fun p hp => ?_) ⟨oL, (hO2 (L, oL)).mpr ⟨hoL1, Nat.le_refl _, ?_, hoL2, fun o ho => ?_⟩⟩ hfx
    · obtain ⟨p1, p2, p3, p4, p5⟩ := (hO2 p).mp hp
      refine ⟨p1, ?_, p2, p4, fun z => p5 oC (by rw [z]; exact aC), fun q hq z => p5 q.2 (by rw [← z]; exact aR q hq)⟩
      cases h : H p.1 with
      | none => rfl
      | some o =>
        obtain ⟨ob, hob⟩ := tr p.1 o p2 h
        exact absurd hob (p5 ob)
    · exact Classical.byContradiction fun z => absurd (low L z) (Nat.lt_irrefl _)
    · obtain ⟨o2, ho2⟩ := hLO
      exact ho.2.1 _ ho2 rfl
end
end L2

/-! a list comprehension over zip of two generators -/
namespace L2
open PySem PySem.Spec PyProof.Rows GenW
/-- what is new are lists and tuples -/
def NewSeqs (H H' : Hp) : Prop := ∀ b o, H' b = some o → H b = some o ∨ (∃ l, o = .lst l) ∨ ∃ l, o = .tup l
def tLcZ (tz : TZ) (g : TG) (te : TE) (vs : List Nat) : TE := fun σ H Q => tz σ H fun PG1 fx PG2 => (∀ b C dx fs, H b = some (.ins C dx fs) → H dx = some (.own b)) → ∃ (Hs : Hp) (xs ys : List V), (∀ b o, Hs b = some o → H b = some o) ∧ SmallH Hs ∧ fx Hs ∧ PG1 (pureG Hs xs) ∧ PG2 (pureG Hs ys) ∧ xs.length = ys.length ∧ ∀ D, H D = none →
  ∃ Pv : Nat → Hp → Prop, Pv 0 (upd H D (.lst [])) ∧ (∀ j H', Pv j H' → (∃ acc, H' D = some (.lst acc)) ∧ ∀ b o, Hs b = some o → H' b = some o) ∧
    (∀ j x y H', xs[j]? = some x → ys[j]? = some y → Pv j H' → ∀ T, H' T = none → g (.ref T) (wipe σ vs) (upd H' T (.tup [x, y])) fun σ2 H3 => wipe σ2 vs = wipe σ vs ∧ te σ2 H3 fun v H4 => ∃ acc, H4 D = some (.lst acc) ∧ acc.length < sizeLine ∧ NewSeqs H' H4 ∧ Pv (j + 1) (upd H4 D (.lst (acc ++ [v])))) ∧
    ∀ H', Pv xs.length H' → Q (.ref D) H'
theorem lcz_core {X : Cx} {pins : List (Addr × Obj)} {s : Shared} {σ : L2.St} {H : Hp} {Q : VK} {k : Nat} {elt iter : Expr} {elts : List Expr} {kk : Nat} {tpos : Pos} {scope : Scope} {own : List (Str × Nat)} {pos pos' : Pos} {tz : TZ} {g : TG} {te : TE} {use : Option (Value → Sem Unit)} {Qf : Value → Shared → Prop} (hc : X.calm = true) (hN : X.N.Nodup) (I : Inv X pins σ H s) (h : PZipS X k iter tz) (hr : Room (k + 3) X.A) (ok : BlkOk X.N X.env.scope scope own) (hnc : ∀ y ∈ scope.names, y.2 ≠ .cell)
    (hg : ∀ (s : Shared) (H : Hp) (C : Addr) (cl : List (Str × Addr)) (fp : List Addr), PG (X.blk s H scope (compEnvC scope cl C X.env) fp).nox (.Tuple elts kk tpos) g)
    (he : ∀ (s : Shared) (H : Hp) (C : Addr) (cl : List (Str × Addr)) (fp : List Addr), PE (X.blk s H scope (compEnvC scope cl C X.env) fp).nox elt te) (hs : ∀ x, foldedSetIterable iter X.env x = pure x)
    (hw : tLcZ tz g te (own.map (·.2)) σ H Q) (hRR : ∀ D C s' m H', Inv X pins σ H' s' → Q (.ref D) H' → s'.heap.Ns C m → FpOk X pins H' C → compPost (model X.prog X.w) X.A X.xe use Qf (.ref D) C (.ok .next) s') :
    wpAny (model X.prog X.w) X.A (comprehension (.ListComp elt [⟨.Tuple elts kk tpos, iter, [], 0⟩] scope pos) scope X.env pos' (newList []) false (eval iter X.env) use) Qf X.xe s := by
  have hfree : ∀ y ∈ scope.names, y.2 = .free → ∃ c, X.env.cells.lookup y.1 = some c := fun y hy e => by
    rcases ok.free y hy e with k | k
    · exact I.ok.has _ (.inl k)
    · exact I.ok.has _ (.inr k)
  refine wpAny_comprehension_free (use := use) rfl hs (closure_ok hfree) ok.kind (fun y hy e => by rw [ok.uniq y hy, e]) (thn (h.run pins s σ H _ I hw) fun v sz h1 => ?_)
  obtain ⟨PG1, fx, PG2, ⟨s1, s2, a1, a2, fx2, hz, ⟨La, a1', g1, c1, go1, oL1, e1, hL1, hLa1, haS1, eL1, dL1, ea1, da1, hgen1, hgs1, hos1, hbr1, kp1, ⟨gk1, gz1⟩, fst1, wake1⟩,
    ⟨Lb, a2', g2, c2, go2, oL2, e2, hL2, hLa2, haS2, eL2, dL2, ea2, da2, hgen2, hgs2, hos2, hbr2, kp2, ⟨gk2, gz2⟩, fst2, wake2⟩, rfl, rfl, z1, z2, z3, z4, z5⟩, hC⟩ := h1
  obtain ⟨Hs, xs, ys, sub, sm, hfx, hPG1, hPG2, hlen, q⟩ := hC fun b C dx fs e => (I.hok b _ e).1
  cases e1
  cases e2
  have hfr : Inv X pins σ H s := I
  have I1 : Inv X pins σ H s1 := I.call' (ch := []) hos1 (Un.kept kp1) (I.hok.kept kp1) hbr1 fun b z => by simp at z
  have I2 : Inv X pins σ H s2 := I1.call' (ch := []) hos2 (Un.kept kp2) (I1.hok.kept kp2) hbr2 fun b z => by simp at z
  have Iz : Inv X pins σ H { s2 with heap := hz } := I2.kept (t' := s2.toks) z5
  have hL0 : X.env.locals < La := Nat.lt_of_lt_of_le I.lt hL1
  have hLc : ∀ x c, X.env.cells.lookup x = some c → c < La := fun x c e => by
    obtain ⟨v, o, ho, _⟩ := I.cell x c e
    exact Nat.lt_of_lt_of_le (Heap.lt_size ho) hL1
  have hLp : ∀ p ∈ X.pn ++ pins, p.1 < La := fun p hp => Nat.lt_of_lt_of_le (Heap.lt_size (I.pin p hp).1) hL1
  have hfs : ∀ b ∈ X.fs, b < La := fun b hb => Nat.lt_of_lt_of_le (frs_lt I.funs b hb) hL1
  have hst : ∀ b ∈ frs X.stack, b < La := fun b hb => Nat.lt_of_lt_of_le (frs_lt I.env0.funs b hb) hL1
  have nofs : ∀ b, La ≤ b → b ∉ X.fs := fun b hb z => absurd (hfs b z) (Nat.not_lt.mpr hb)
  have nost : ∀ b, La ≤ b → b ∉ frs X.stack := fun b hb z => absurd (hst b z) (Nat.not_lt.mpr hb)
  have hHge : ∀ b, La ≤ b → H b = none := fun b hb => I.hok.fresh (Nat.le_trans hL1 hb)
  have hab : X.s_0.heap.objs.size ≤ La := Nat.le_trans I.ok.above (Nat.le_of_lt hL0)
  have h12 : a1 < Lb := Nat.lt_of_lt_of_le haS1 hL2
  have hlow : ∀ b, Hs b ≠ none → b < La := fun b hb => by
    refine Nat.lt_of_not_le fun z => ?_
    cases e : Hs b with
    | none => exact hb e
    | some o =>
      have := sub b o e
      rw [hHge b z] at this
      cases this
  have hg12 : g1 ≠ g2 := fun z => by
    have q1 := (Array.getElem?_eq_some_iff.mp hgs1).1
    exact absurd q1 (Nat.not_lt.mpr (z ▸ gz2))
  generalize hsz : ({ s2 with heap := hz } : Shared) = sz at Iz ⊢
  have eh : sz.heap = hz := by rw [← hsz]
  have eg : sz.gens = s2.gens := by rw [← hsz]
  rw [← eh] at z1 z2 z3 z4 z5
  generalize hTI : s2.heap.objs.size = TI at *
  refine wpAny_pyIter_zip z1 ?_
  refine wpAny_newObj_type (newEnv_comp ?_) (by show 0 ≤ sizeLine; decide)
  generalize hD : sz.heap.objs.size = D at *
  have hL12 : La < Lb := Nat.lt_trans hLa1 h12
  have hTD : TI < D := by rw [z4]; exact Nat.lt_add_of_pos_right (by decide)
  have hLbT : Lb < TI := Nat.lt_trans hLa2 haS2
  have hLD : La < D := Nat.lt_trans hL12 (Nat.lt_trans hLbT hTD)
  have hDn : H D = none := Iz.hok.fresh (Nat.le_of_eq hD)
  obtain ⟨Pv, p0, pD, pstep, pend⟩ := q D hDn
  generalize hs3 : ({ sz with heap := sz.heap.push { cls := .type "list", data := .seq ([] : List Value).toArray } } : Shared) = s3
  have I3 : Inv X pins σ (upd H D (.lst [])) s3 := by
    rw [← hs3]
    refine Iz.laid (t' := sz.toks) (fun b o e => Heap.get?_push_of_some _ e) (Nat.le_of_eq hD) ⟨Nat.zero_le _, [], 0, .nil, ?_⟩
    rw [← hD]
    exact Heap.get?_push_size _ rfl
  have h3 : s3.heap = sz.heap.push { cls := .type "list", data := .seq ([] : List Value).toArray } := by rw [← hs3]
  have hC : s3.heap.objs.size = D + 1 := by rw [h3, Heap.size_push, hD]
  have g3 : s3.gens = sz.gens := by rw [← hs3]
  have kp3 : ∀ b o, sz.heap.get? b = some o → s3.heap.get? b = some o := fun b o e => by rw [h3]; exact Heap.get?_push_of_some _ e
  obtain ⟨fp, hfp⟩ : ∃ fp, fp = List.range' La (D - La) := ⟨_, rfl⟩
  have memfp : ∀ b : Nat, b ∈ fp ↔ La ≤ b ∧ b < D := fun b => by
    rw [hfp, List.mem_range'_1]
    constructor
    · rintro ⟨h1, h2⟩
      exact ⟨h1, by omega⟩
    · rintro ⟨h1, h2⟩
      exact ⟨h1, by omega⟩
  clear hfp
  have f3 : ∀ b ∈ fp, FpOk X pins (upd H D (.lst [])) b ∧ b < s3.heap.objs.size := fun b hb => by
    obtain ⟨h1, h2⟩ := (memfp b).mp hb
    refine ⟨⟨?_, Nat.ne_of_gt (Nat.lt_of_lt_of_le hL0 h1), nofs b h1, .inr (Nat.le_trans hab h1), fun x c e z => ?_, fun p hp z => ?_⟩, by rw [hC]; exact Nat.lt_succ_of_lt h2⟩
    · rw [upd_ne (Nat.ne_of_lt h2)]
      exact hHge b h1
    · exact absurd (hLc x c e) (Nat.not_lt.mpr (z ▸ h1))
    · exact absurd (hLp p hp) (Nat.not_lt.mpr (z ▸ h1))
  have I4 := block_start I3 ok hN f3
  have pg := hg s3 (upd H D (.lst [])) s3.heap.objs.size (cellsFrom (s3.heap.objs.size + 1) scope.names (cloFrom X.env.cells scope.names [])) fp
  have pe := he s3 (upd H D (.lst [])) s3.heap.objs.size (cellsFrom (s3.heap.objs.size + 1) scope.names (cloFrom X.env.cells scope.names [])) fp
  have cC : ∀ x c, (cellsFrom (s3.heap.objs.size + 1) scope.names (cloFrom X.env.cells scope.names [])).lookup x = some c → c < La := fun x c e => by
    rw [← Heap.size_push s3.heap { cls := .type "dict", data := .dict #[] }] at e
    rcases cells_mem (PySem.mem_of_lookup e) with hm | ⟨h1, _, _⟩
    · rcases cloFrom_mem hm with hm | ⟨h1, rfl⟩
      · cases hm
      · obtain ⟨c, hc⟩ := hfree _ h1 rfl
        rw [hc]
        exact hLc _ _ hc
    · exact absurd rfl (hnc _ h1)
  show codeAny _ _ (.compStart (.ListComp elt [⟨.Tuple elts kk tpos, iter, [], 0⟩] scope pos) 0 (.ref (TI + 2)) (.ref D) (compEnvC scope (cellsFrom (s3.heap.objs.size + 1) scope.names (cloFrom X.env.cells scope.names [])) s3.heap.objs.size X.env)) (compPost (model X.prog X.w) X.A X.xe use Qf (.ref D) s3.heap.objs.size) { s3 with heap := pushCells (s3.heap.push { cls := .type "dict", data := .dict #[] }) scope.names }
  have cC2 : ∀ x c, (compEnvC scope (cellsFrom (s3.heap.objs.size + 1) scope.names (cloFrom X.env.cells scope.names [])) s3.heap.objs.size X.env).cells.lookup x = some c → c < La := cC
  generalize hce : compEnvC scope (cellsFrom (s3.heap.objs.size + 1) scope.names (cloFrom X.env.cells scope.names [])) s3.heap.objs.size X.env = ce at I4 pg pe cC2 ⊢
  have cL : ce.locals = D + 1 := by subst hce; exact hC
  generalize hH3 : upd H D (.lst []) = H3 at I3 I4 pg pe p0 f3
  have nH3 : ∀ b, La ≤ b → b ≠ D → H3 b = none := fun b h1 h2 => by
    rw [← hH3, upd_ne h2]
    exact hHge b h1
  generalize hs4 : ({ s3 with heap := pushCells (s3.heap.push { cls := .type "dict", data := .dict #[] }) scope.names } : Shared) = s4 at I4 ⊢
  have kp4 : ∀ b o, sz.heap.get? b = some o → s4.heap.get? b = some o := fun b o e => by rw [← hs4]; exact pushCells_keeps _ _ _ _ (Heap.get?_push_of_some _ (kp3 b o e))
  have g4 : s4.gens = s2.gens := by rw [← hs4, ← eg, ← g3]
  generalize hσ : wipe σ (own.map (·.2)) = σ0 at I4 pstep ⊢
  have backX : ∀ {σ' : L2.St} {pins' : List (Addr × Obj)} {H' : Hp} {s' : Shared}, Inv (X.blk s3 H3 scope ce fp) pins' σ' H' s' → Inv X pins σ H' s' := fun {σ' pins' H' s'} J =>
    I3.call' (ch := fp) J.os J.base J.hok J.bare fun b hb => ⟨(f3 b hb).1.2.2.2.1, (f3 b hb).1.2.1, (f3 b hb).1.2.2.2.2.1, (f3 b hb).1.2.2.2.2.2⟩
  have cls_TO : TI + 1 ≠ TI + 2 := by omega
  let tupo : Value → Value → Obj := fun x y => { cls := .type "tuple", data := .seq #[x, y] }
  let zipo : Value → Obj := fun f0 => { cls := .type "zip", dict := none, data := .fields #[f0, .bool false, .bool false, .ref TI, .ref (TI + 1)], slots := #[] }
  let St : Value → Value → Value → List (Addr × Obj) := fun t1 t2 f0 => [(a1, go1), (a2, go2), (TI, tupo (.ref a1) (.ref a2)), (TI + 1, tupo t1 t2), (TI + 2, zipo f0)]
  have stm : ∀ {t1 t2 f0 : Value} {φ : Addr × Obj → Prop}, φ (a1, go1) → φ (a2, go2) → φ (TI, tupo (.ref a1) (.ref a2)) → φ (TI + 1, tupo t1 t2) → φ (TI + 2, zipo f0) → ∀ p ∈ St t1 t2 f0, φ p := fun {t1 t2 f0 φ} h1 h2 h3 h4 h5 p hp => by
    rcases List.mem_cons.mp hp with rfl | hp
    · exact h1
    rcases List.mem_cons.mp hp with rfl | hp
    · exact h2
    rcases List.mem_cons.mp hp with rfl | hp
    · exact h3
    rcases List.mem_cons.mp hp with rfl | hp
    · exact h4
    · rw [List.mem_singleton.mp hp]
      exact h5
  have m1 : ∀ t1 t2 f0, (a1, go1) ∈ St t1 t2 f0 := fun _ _ _ => List.mem_cons_self
  have m2 : ∀ t1 t2 f0, (a2, go2) ∈ St t1 t2 f0 := fun _ _ _ => List.mem_cons_of_mem _ List.mem_cons_self
  have m3 : ∀ t1 t2 f0, (TI, tupo (.ref a1) (.ref a2)) ∈ St t1 t2 f0 := fun _ _ _ => List.mem_cons_of_mem _ (List.mem_cons_of_mem _ List.mem_cons_self)
  have m4 : ∀ t1 t2 f0, (TI + 1, tupo t1 t2) ∈ St t1 t2 f0 := fun _ _ _ => List.mem_cons_of_mem _ (List.mem_cons_of_mem _ (List.mem_cons_of_mem _ List.mem_cons_self))
  have m5 : ∀ t1 t2 f0, (TI + 2, zipo f0) ∈ St t1 t2 f0 := fun _ _ _ => List.mem_cons_of_mem _ (List.mem_cons_of_mem _ (List.mem_cons_of_mem _ (List.mem_cons_of_mem _ List.mem_cons_self)))
  have ha1 : La ≤ a1 := Nat.le_of_lt hLa1
  have ha2 : La ≤ a2 := Nat.le_of_lt (Nat.lt_trans hL12 hLa2)
  have hTI1 : La ≤ TI := Nat.le_of_lt (Nat.lt_trans hL12 hLbT)
  have hTIb : Lb ≤ TI := Nat.le_of_lt hLbT
  have a1T : a1 < TI := Nat.lt_trans h12 hLbT
  have a2T : a2 < TI := haS2
  have stA : ∀ t1 t2 f0, ∀ p ∈ St t1 t2 f0, La ≤ p.1 ∧ p.1 < D ∧ (∀ v, p.2.data ≠ .cell v) := fun t1 t2 f0 => stm ⟨ha1, Nat.lt_trans a1T hTD, da1⟩ ⟨ha2, Nat.lt_trans a2T hTD, da2⟩ ⟨hTI1, hTD, fun v z => nomatch z⟩ ⟨Nat.le_succ_of_le hTI1, by show TI + 1 < D; omega, fun v z => nomatch z⟩ ⟨Nat.le_succ_of_le (Nat.le_succ_of_le hTI1), by show TI + 2 < D; omega, fun v z => nomatch z⟩
  have notC : ∀ t1 t2 f0, ∀ p ∈ St t1 t2 f0, p.1 ≠ D + 1 := fun t1 t2 f0 p hp => Nat.ne_of_lt (Nat.lt_succ_of_lt (stA t1 t2 f0 p hp).2.1)
  have hchB : ∀ {H' : Hp} {σ' : L2.St} {s' : Shared}, Inv (X.blk s3 H3 scope ce fp) [] σ' H' s' → (∃ acc, H' D = some (.lst acc)) → ∀ b, La ≤ b → H' b = none → b ≠ (X.blk s3 H3 scope ce fp).env.locals →
      (b ∈ (X.blk s3 H3 scope ce fp).ex ∨ (X.blk s3 H3 scope ce fp).s_0.heap.objs.size ≤ b) ∧ (∀ x c, (X.blk s3 H3 scope ce fp).env.cells.lookup x = some c → c ≠ b) ∧ ∀ p ∈ (X.blk s3 H3 scope ce fp).pn, p.1 ≠ b := fun {H' σ' s'} J hacc b hb hn hbc => by
    have hbD : b ≠ D := fun z => by
      obtain ⟨acc, e⟩ := hacc
      rw [z, e] at hn
      cases hn
    refine ⟨?_, fun x c e z => absurd (cC2 x c e) (Nat.not_lt.mpr (z ▸ hb)), fun p hp => by simp [Cx.blk] at hp⟩
    by_cases h : (b : Nat) < D
    · exact .inl ((memfp b).mpr ⟨hb, h⟩)
    · refine .inr ?_
      show s3.heap.objs.size ≤ b
      rw [hC]
      exact Nat.lt_of_le_of_ne (Nat.le_of_not_lt h) (Ne.symm hbD)
  have fpB : ∀ {H' : Hp} {σ' : L2.St} {s' : Shared} {b : Addr}, Inv (X.blk s3 H3 scope ce fp) [] σ' H' s' → (∃ acc, H' D = some (.lst acc)) → La ≤ b → H' b = none → b ≠ D + 1 → FpOk (X.blk s3 H3 scope ce fp) [] H' b := fun {H' σ' s' b} J hacc hb hn hbc => by
    obtain ⟨h1, h2, h3⟩ := hchB J hacc b hb hn (by show b ≠ ce.locals; rw [cL]; exact hbc)
    exact ⟨hn, by show b ≠ ce.locals; rw [cL]; exact hbc, nost b hb, h1, h2, fun p hp => h3 p (by simpa using hp)⟩
  have hd : X.A.handled = none := I.ok.hd hc
  have room : Room k X.A.in1.in1 := ⟨hd, by have := hr.dp; show X.A.depth + 3 * k + 5 < _; omega, by have := hr.un; show X.A.units + 1 + 1 + 16 * k + 200 < _; omega⟩
  have fin : ∀ {H' : Hp} {s' : Shared}, Inv (X.blk s3 H3 scope ce fp) [] σ0 H' s' → Pv xs.length H' → compPost (model X.prog X.w) X.A X.xe use Qf (.ref D) s3.heap.objs.size (.ok .next) s' := fun {H' s'} I7 pe => by
    have I8 := backX I7
    have nC : H' s3.heap.objs.size = none := by
      have z : H' ce.locals = none := I7.free
      rw [cL] at z
      rw [hC]
      exact z
    obtain ⟨m, hn, _⟩ := I7.loc
    have hn : s'.heap.Ns ce.locals m := hn
    rw [cL, ← hC] at hn
    exact hRR D _ s' m H' I8 (pend _ pe) hn (I3.fpOk (Nat.le_refl _) nC)
  have loop : codeAny (model X.prog X.w) X.A (.compLoop (.ListComp elt [⟨.Tuple elts kk tpos, iter, [], 0⟩] scope pos) 0 (.ref (TI + 2)) (.ref D) ce) (compPost (model X.prog X.w) X.A X.xe use Qf (.ref D) s3.heap.objs.size) s4 := by
    refine compLoop_any (fun m s' => 1 ≤ m ∧ m ≤ xs.length + 1 ∧ ∃ (H' : Hp) (st1 : GenState) (O1 : List (Addr × Obj)) (st2 : GenState) (O2 : List (Addr × Obj)) (t1 t2 : Value), Inv (X.blk s3 H3 scope ce fp) [] σ0 H' s' ∧ Pv (xs.length + 1 - m) H' ∧ (∀ b o, La ≤ b → H' b = some o → (∃ l, o = .lst l) ∨ ∃ l, o = .tup l) ∧
      (∀ p ∈ O1, s'.heap.get? p.1 = some p.2 ∧ H' p.1 = none ∧ La ≤ p.1 ∧ (∀ v, p.2.data ≠ .cell v) ∧ p.1 ≠ D + 1 ∧ ∀ q ∈ O2 ++ St t1 t2 .none, q.1 ≠ p.1) ∧
      (∀ p ∈ O2, s'.heap.get? p.1 = some p.2 ∧ H' p.1 = none ∧ La ≤ p.1 ∧ (∀ v, p.2.data ≠ .cell v) ∧ p.1 ≠ D + 1 ∧ ∀ q ∈ St t1 t2 .none, q.1 ≠ p.1) ∧
      (∀ p ∈ St t1 t2 .none, s'.heap.get? p.1 = some p.2 ∧ H' p.1 = none) ∧ (∃ o, (La, o) ∈ O1) ∧ (∃ o, (Lb, o) ∈ O2) ∧ s'.gens[g1]? = some st1 ∧ s'.gens[g2]? = some st2 ∧ PlainAt g1 s' ∧ PlainAt g2 s' ∧
      UG X.prog X.w X.K X.mg X.base X.A.in1.in1 X.stack La Hs xs m st1 O1 ∧ UG X.prog X.w X.K X.mg X.base X.A.in1.in1 X.stack Lb Hs ys m st2 O2 ∧
      ((m = xs.length + 1 ∧ st1 = .fresh c1 ∧ O1 = [(La, oL1)] ∧ st2 = .fresh c2) ∨ (m ≤ xs.length ∧ Susp st1 = true ∧ Susp st2 = true))) ?_ (xs.length + 1) ?_
    · rintro m s5 ⟨hm1, hmn, H5, st1, O1, st2, O2, t1, t2, J5, p5, sq5, hO1, hO2, hSt, hl1, hl2, G1, G2, P1, P2, U1, U2, ph⟩
      have hacc5 := (pD _ _ p5).1
      have sub5 := (pD _ _ p5).2
      have sAd : ∀ {t1 t2 f0 : Value} {b : Addr}, (∀ t1' t2' f0', ∀ q ∈ St t1' t2' f0', q.1 ≠ b) ↔ ∀ q ∈ St t1 t2 f0, q.1 ≠ b := fun {t1 t2 f0 b} => ⟨fun h => h _ _ _, fun h t1' t2' f0' => stm (h (a1, go1) (m1 _ _ _)) (h (a2, go2) (m2 _ _ _)) (h (TI, tupo (.ref a1) (.ref a2)) (m3 _ _ _)) (h (TI + 1, tupo t1 t2) (m4 _ _ _)) (h (TI + 2, zipo f0) (m5 _ _ _))⟩
      have ltT : ∀ {b : Nat}, b < TI → b ≠ TI ∧ b ≠ TI + 1 ∧ b ≠ TI + 2 := fun {b} h => ⟨by omega, by omega, by omega⟩
      have nT : (TI : Nat) ≠ TI + 2 ∧ (TI : Nat) ≠ TI + 1 := ⟨by omega, by omega⟩
      have hz5 : H5 (TI + 2) = none := (hSt _ (m5 _ _ _)).2
      have hO5 : H5 (TI + 1) = none := (hSt _ (m4 _ _ _)).2
      have aTO : La ≤ TI + 1 := Nat.le_succ_of_le hTI1
      have aTz : La ≤ TI + 2 := Nat.le_succ_of_le aTO
      have tDO : TI + 1 ≠ D + 1 := by omega
      have tDz : TI + 2 ≠ D + 1 := by omega
      refine pyNext_zipN cls_TO (hSt _ (m5 _ _ _)).1 (hSt _ (m3 _ _ _)).1 (hSt _ (m4 _ _ _)).1 fun g0 zg0 sb0 => ?_
      obtain ⟨fz0, fz1, fz2, fz3, fz4, fz5⟩ := fpB J5 hacc5 aTz hz5 tDz
      have JA : Inv (X.blk s3 H3 scope ce fp) [] σ0 H5 { s5 with heap := g0 } := J5.turned (t' := s5.toks) (it := TI + 2) (fun b o hb e => (sb0.2 b hb).trans e) fz0 fz1 fz3 fz4 fz5
      have k0 : ∀ b o, b ≠ TI + 2 → s5.heap.get? b = some o → g0.get? b = some o := fun b o hb e => (sb0.2 b hb).trans e
      have hSt0 : ∀ p ∈ St t1 t2 .ellipsis, g0.get? p.1 = some p.2 ∧ H5 p.1 = none := stm ⟨k0 _ _ (ltT a1T).2.2 (hSt _ (m1 _ _ _)).1, (hSt _ (m1 _ _ _)).2⟩ ⟨k0 _ _ (ltT a2T).2.2 (hSt _ (m2 _ _ _)).1, (hSt _ (m2 _ _ _)).2⟩
        ⟨k0 _ _ nT.1 (hSt _ (m3 _ _ _)).1, (hSt _ (m3 _ _ _)).2⟩ ⟨k0 _ _ cls_TO (hSt _ (m4 _ _ _)).1, hO5⟩ ⟨zg0, hz5⟩
      have hO1' : ∀ p ∈ O1, g0.get? p.1 = some p.2 ∧ H5 p.1 = none ∧ p.1 ≠ D + 1 := fun p hp => by
        obtain ⟨q1, q2, q3, q4, q5, q6⟩ := hO1 p hp
        exact ⟨k0 _ _ (q6 _ (List.mem_append_right _ (m5 _ _ _))).symm q1, q2, q5⟩
      have hO2' : ∀ p ∈ O2, g0.get? p.1 = some p.2 := fun p hp => by
        obtain ⟨q1, q2, q3, q4, q5, q6⟩ := hO2 p hp
        exact k0 _ _ (q6 _ (m5 _ _ _)).symm q1
      have hLs : La ≤ g0.objs.size := Nat.le_of_lt (Nat.lt_trans hLa1 (Heap.lt_size (hSt0 _ (m1 _ _ _)).1))
      refine turn_Z (B := X.blk s3 H3 scope ce fp) (L := La) (O := O1) (R := O2 ++ St t1 t2 .ellipsis) (xs := xs) (n := m) (gs := st1) (g := g1) (X1 := m = xs.length + 1) JA sm sub5 hlow sq5 hst (hchB JA hacc5) (by show La ≤ ce.locals; rw [cL]; exact Nat.le_of_lt (Nat.lt_succ_of_lt hLD)) hd
        (by have := hr.dp; show X.A.depth < _; omega) (hgen1 _ (hSt0 _ (m1 _ _ _)).1) G1 (ph.elim (fun z => .inr ⟨c1, z.2.1⟩) fun z => .inl z.2.1) P1 U1 hm1 hmn hLs hl1 (fun p hp => ⟨(hO1' p hp).1, (hO1' p hp).2.1, by show p.1 ≠ ce.locals; rw [cL]; exact (hO1' p hp).2.2⟩)
        (fun p hp => ?_) (fun e s2' hs2 env => ?_) (fun e s' hn I' hr' he => ?_) (fun v1 x1 s6 gs1 N1 rv1 hx1 J6 r6 su1 G1' stay6 pl6 U1' hN1 hln1 fr6 => ?_)
      · rcases List.mem_append.mp hp with hp | hp
        · obtain ⟨q1, q2, q3, q4, q5, q6⟩ := hO2 p hp
          exact ⟨hO2' p hp, q2, q4, nost _ q3, fun q hq z => (hO1 q hq).2.2.2.2.2 p (List.mem_append_left _ hp) z.symm⟩
        · exact ⟨(hSt0 p hp).1, (hSt0 p hp).2, (stA _ _ _ p hp).2.2, nost _ (stA _ _ _ p hp).1, fun q hq z => (sAd.mpr fun r hr => (hO1 q hq).2.2.2.2.2 r (List.mem_append_right _ hr)) _ _ _ p hp z.symm⟩
      · rcases ph with ⟨_, e1, e2, _⟩ | ⟨z, _⟩
        · subst e1
          refine ⟨rfl, fst1 X.A.in1.in1 s2' Hs room I.ok.frames env (by rw [hs2]; exact hLs) ?_ (Classical.byContradiction fun z => absurd (hlow _ z) (Nat.lt_irrefl _)) hfx⟩
          rw [hs2]
          exact (hO1' (La, oL1) (by rw [e2]; exact List.mem_singleton.mpr rfl)).1
        · omega
      · obtain ⟨o, ho1, ho2⟩ := he
        refine ⟨e, o, rfl, ho1, ho2, hr' _ (List.mem_append_right _ (m5 _ _ _)), fun h' sb => ?_⟩
        obtain ⟨f0, f1, f2, f3, f4, f5⟩ := fpB I' hacc5 aTz hz5 tDz
        subst hn
        exact fin (I'.turned (t' := s'.toks) (h' := h') (it := TI + 2) (fun b o hb e => (sb.2 b hb).trans e) f0 f1 f3 f4 f5) p5
      · refine ⟨r6 _ (List.mem_append_right _ (m4 t1 t2 .ellipsis)), fun g1h tg1 sb1 => ?_⟩
        obtain ⟨fo0, fo1, fo2, fo3, fo4, fo5⟩ := fpB J6 hacc5 aTO hO5 tDO
        have JB : Inv (X.blk s3 H3 scope ce fp) [] σ0 H5 { s6 with heap := g1h } := J6.turned (t' := s6.toks) (it := TI + 1) (fun b o hb e => (sb1.2 b hb).trans e) fo0 fo1 fo3 fo4 fo5
        have k1 : ∀ b o, b ≠ TI + 1 → s6.heap.get? b = some o → g1h.get? b = some o := fun b o hb e => (sb1.2 b hb).trans e
        have q6 : ∀ p ∈ St t1 t2 .ellipsis, s6.heap.get? p.1 = some p.2 := fun p hp => r6 p (List.mem_append_right _ hp)
        have hSt1 : ∀ p ∈ St v1 t2 .ellipsis, g1h.get? p.1 = some p.2 ∧ H5 p.1 = none := stm ⟨k1 _ _ (ltT a1T).2.1 (q6 _ (m1 _ _ _)), (hSt0 _ (m1 _ _ _)).2⟩ ⟨k1 _ _ (ltT a2T).2.1 (q6 _ (m2 _ _ _)), (hSt0 _ (m2 _ _ _)).2⟩
          ⟨k1 _ _ nT.2 (q6 _ (m3 _ _ _)), (hSt0 _ (m3 _ _ _)).2⟩ ⟨tg1, hO5⟩ ⟨k1 _ _ cls_TO.symm (q6 _ (m5 _ _ _)), hz5⟩
        have hN1k : ∀ p ∈ N1, g1h.get? p.1 = some p.2 := fun p hp => k1 _ _ ((hN1 p hp).2.2.2.2.2 _ (List.mem_append_right _ (m4 _ _ _))).symm (hN1 p hp).1
        have hO2k : ∀ p ∈ O2, g1h.get? p.1 = some p.2 := fun p hp => k1 _ _ ((hO2 p hp).2.2.2.2.2 _ (m4 _ _ _)).symm (r6 p (List.mem_append_left _ hp))
        have G2' : s6.gens[g2]? = some st2 := ph.elim (fun z => by rw [z.2.2.2]; exact fr6 z.1 g2 c2 hg12.symm (by rw [← z.2.2.2]; exact G2)) fun z => stay6 g2 st2 hg12.symm G2 z.2.2
        have pl2' : PlainAt g2 s6 := fun k l c p fs cl e => P2 k l c p fs cl (by rw [G2, ← G2']; exact e)
        have hLs2 : Lb ≤ g1h.objs.size := Nat.le_of_lt (Nat.lt_trans hLa2 (Heap.lt_size (hSt1 _ (m2 _ _ _)).1))
        have hab2 : ∀ b, Lb ≤ b → La ≤ b := fun b hb => Nat.le_trans (Nat.le_of_lt hL12) hb
        refine turn_Z (B := X.blk s3 H3 scope ce fp) (L := Lb) (O := O2) (R := N1 ++ St v1 t2 .ellipsis) (xs := ys) (n := m) (gs := st2) (g := g2) (X1 := False) JB sm sub5 (fun b hb => Nat.lt_trans (hlow b hb) hL12) (fun b o hb => sq5 b o (hab2 b hb)) (fun b hb => Nat.lt_trans (hst b hb) hL12)
          (fun b hb => hchB JB hacc5 b (hab2 b hb)) (by show Lb ≤ ce.locals; rw [cL]; exact Nat.le_of_lt (Nat.lt_succ_of_lt (Nat.lt_trans hLbT hTD))) hd (by have := hr.dp; show X.A.depth < _; omega) (hgen2 _ (hSt1 _ (m2 _ _ _)).1) G2' (ph.elim (fun z => .inr ⟨c2, z.2.2.2⟩) fun z => .inl z.2.2) pl2' U2 hm1 (by rw [← hlen]; exact hmn) hLs2 hl2
          (fun p hp => ⟨hO2k p hp, (hO2 p hp).2.1, by show p.1 ≠ ce.locals; rw [cL]; exact (hO2 p hp).2.2.2.2.1⟩) (fun p hp => ?_) (fun x => x.elim) (fun e s' hn I' hr' he => ?_) (fun v2 x2 s7 gs2 N2 rv2 hx2 J7 r7 su2 G2'' stay7 pl7 U2' hN2 hln2 _ => ?_)
        · rcases List.mem_append.mp hp with hp | hp
          · obtain ⟨q1, q2, q3, q4, q5, q6⟩ := hN1 p hp
            exact ⟨hN1k p hp, q2, q4, nost _ q3, fun q hq => q6 q (List.mem_append_left _ hq)⟩
          · exact ⟨(hSt1 p hp).1, (hSt1 p hp).2, (stA _ _ _ p hp).2.2, nost _ (stA _ _ _ p hp).1, fun q hq z => (sAd.mpr fun r hr => (hO2 q hq).2.2.2.2.2 r hr) _ _ _ p hp z.symm⟩
        · exfalso
          subst hn
          rw [Nat.add_sub_cancel, List.getElem?_eq_none (Nat.le_refl _)] at hx1
          cases hx1
        · have hx2 : ys[xs.length + 1 - m]? = some x2 := by rw [hlen]; exact hx2
          have q7 : ∀ p ∈ St v1 t2 .ellipsis, s7.heap.get? p.1 = some p.2 := fun p hp => r7 p (List.mem_append_right _ hp)
          refine ⟨q7 _ (m4 _ _ _), q7 _ (m5 _ _ _), fun h' zh' th' tT hsz' k2 tk => ?_⟩
          refine wpAny_letOwnedTupleGo_zip zh' fun h'' zz'' sb'' => ?_
          have hTn : H5 s7.heap.objs.size = none := J7.hok.fresh (Nat.le_refl _)
          have hTz : s7.heap.objs.size ≠ TI + 2 := Nat.ne_of_gt (Heap.lt_size (q7 _ (m5 _ _ _)))
          have k3 : ∀ b o, b ≠ TI + 2 → b ≠ TI + 1 → s7.heap.get? b = some o → h''.get? b = some o := fun b o h1 h2 e => (sb''.2 b h1).trans (k2 b o h1 h2 e)
          have tT'' : IsTupOf2 h'' s7.heap.objs.size v1 v2 := (sb''.2 _ hTz).trans tT
          have JC : Inv (X.blk s3 H3 scope ce fp) [] σ0 (upd H5 s7.heap.objs.size (.tup [x1, x2])) { s7 with heap := h'', toks := tk } := by
            refine J7.turnedNew (t' := tk) (ch := [TI + 2, TI + 1]) (fun b o hb e => k3 b o (fun z => hb (by simp [z])) (fun z => hb (by simp [z])) e) (fun b hb => ?_) (Nat.le_refl _) ⟨by show 2 ≤ sizeLine; decide, [v1, v2], .cons rv1 (.cons rv2 .nil), ⟨_, tT'', rfl, _, rfl⟩⟩
            rcases List.mem_cons.mp hb with z | hb
            · rw [z]
              exact fpB J7 hacc5 aTz hz5 tDz
            · rw [List.mem_singleton.mp hb]
              exact fpB J7 hacc5 aTO hO5 tDO
          have hup : ∀ {b : Addr} {o : Obj}, s7.heap.get? b = some o → H5 b = none → upd H5 s7.heap.objs.size (.tup [x1, x2]) b = none := fun {b o} e n => by
            rw [upd_ne (Nat.ne_of_lt (Heap.lt_size e))]
            exact n
          have pinsOK : ∀ p ∈ N1 ++ (N2 ++ St v1 v2 .none), h''.get? p.1 = some p.2 ∧ upd H5 s7.heap.objs.size (.tup [x1, x2]) p.1 = none ∧ p.1 ≠ (X.blk s3 H3 scope ce fp).env.locals ∧ p.1 ∉ (X.blk s3 H3 scope ce fp).fs ∧ ∀ v, p.2.data ≠ .cell v := fun p hp => by
            rcases List.mem_append.mp hp with hp | hp
            · obtain ⟨n1, n2, n3, n4, n5, n6⟩ := hN1 p hp
              have n7 := r7 p (List.mem_append_left _ hp)
              exact ⟨k3 _ _ (n6 _ (List.mem_append_right _ (m5 _ _ _))).symm (n6 _ (List.mem_append_right _ (m4 _ _ _))).symm n7, hup n7 n2, n5, nost _ n3, n4⟩
            rcases List.mem_append.mp hp with hp | hp
            · obtain ⟨n1, n2, n3, n4, n5, n6⟩ := hN2 p hp
              exact ⟨k3 _ _ (n6 _ (List.mem_append_right _ (m5 _ _ _))).symm (n6 _ (List.mem_append_right _ (m4 _ _ _))).symm n1, hup n1 n2, n5, nost _ (hab2 _ n3), n4⟩
            · refine ⟨?_, ?_, by show p.1 ≠ ce.locals; rw [cL]; exact notC _ _ _ p hp, nost _ (stA _ _ _ p hp).1, (stA _ _ _ p hp).2.2⟩
              · exact stm (φ := fun p => h''.get? p.1 = some p.2) (k3 _ _ (ltT a1T).2.2 (ltT a1T).2.1 (q7 _ (m1 _ _ _))) (k3 _ _ (ltT a2T).2.2 (ltT a2T).2.1 (q7 _ (m2 _ _ _))) (k3 _ _ nT.1 nT.2 (q7 _ (m3 _ _ _))) ((sb''.2 _ cls_TO).trans th') zz'' p hp
              · exact stm (t1 := v1) (t2 := v2) (f0 := .none) (φ := fun p => upd H5 s7.heap.objs.size (.tup [x1, x2]) p.1 = none) (hup (q7 _ (m1 _ _ _)) (hSt1 _ (m1 _ _ _)).2) (hup (q7 _ (m2 _ _ _)) (hSt1 _ (m2 _ _ _)).2) (hup (q7 _ (m3 _ _ _)) (hSt1 _ (m3 _ _ _)).2) (hup (q7 (TI + 1, tupo v1 t2) (m4 _ _ _)) hO5) (hup (q7 (TI + 2, zipo .ellipsis) (m5 _ _ _)) hz5) p hp
          have JC' := JC.pins_of (pins' := N1 ++ (N2 ++ St v1 v2 .none)) pinsOK
          refine thnF (pg.stays JC' (show RelV (.ref s7.heap.objs.size) (.ref s7.heap.objs.size) from rfl) (pstep _ x1 x2 H5 hx1 hx2 p5 _ hTn)) fun _ s8 h8 => ?_
          obtain ⟨⟨σ8, H8, I8, hw8, q8⟩, stay8⟩ := h8
          refine wpAny_tests_nil ?_
          rw [if_pos rfl]
          refine thnF (pe.stays I8 q8) fun zv s10 h10 => ?_
          obtain ⟨⟨yv, H10, I10, r10, acc, hD10, hz10, hns, nx⟩, stay10⟩ := h10
          refine thnF (app_stays (X := X.blk s3 H3 scope ce fp) I10 hD10 hz10 r10) fun _ s11 h11 => ?_
          obtain ⟨I11, stay11⟩ := h11
          have sg1 : s11.gens[g1]? = some gs1 := stay11 g1 gs1 (stay10 g1 gs1 (stay8 g1 gs1 (stay7 g1 gs1 hg12 G1' su1) su1) su1) su1
          have sg2 : s11.gens[g2]? = some gs2 := stay11 g2 gs2 (stay10 g2 gs2 (stay8 g2 gs2 G2'' su2) su2) su2
          have hlt := (List.getElem?_eq_some_iff.mp hx1).1
          have em : xs.length + 1 - m + 1 = xs.length + 1 - (m - 1) := by omega
          rw [em] at nx
          have hl : σ0.length = σ8.length := by rw [← hw8, wipe_length]
          have I12 : Inv (X.blk s3 H3 scope ce fp) (N1 ++ (N2 ++ St v1 v2 .none)) σ0 (upd H10 D (.lst (acc ++ [yv]))) s11 := I11.weak hl fun j v e => by rw [← hw8] at e; exact (wipe_some e).1
          have pin : ∀ p ∈ N1 ++ (N2 ++ St v1 v2 .none), s11.heap.get? p.1 = some p.2 ∧ upd H10 D (.lst (acc ++ [yv])) p.1 = none := fun p hp => ⟨(I12.pin p (List.mem_append_right _ hp)).1, (I12.pin p (List.mem_append_right _ hp)).2.1⟩
          refine ⟨m - 1, by omega, by omega, by omega, _, gs1, N1, gs2, N2, v1, v2, I12.pins_of (pins' := []) fun p hp => absurd hp List.not_mem_nil, nx, fun b o hb e => ?_, fun p hp => ?_, fun p hp => ?_, fun p hp => pin p (List.mem_append_right _ (List.mem_append_right _ hp)), hln1, hln2, sg1, sg2, fun k l c p fs cl e => pl6 k l c p fs cl (by rw [G1', ← sg1]; exact e), fun k l c p fs cl e => pl7 k l c p fs cl (by rw [G2'', ← sg2]; exact e), U1', U2', .inr ⟨by omega, su1, su2⟩⟩
          · by_cases hb2 : b = D
            · rw [hb2, upd_same] at e
              cases e
              exact .inl ⟨_, rfl⟩
            · rw [upd_ne hb2] at e
              rcases hns b o e with z | z
              · exact sq5 b o hb z
              · exact z
          · obtain ⟨n1, n2, n3, n4, n5, n6⟩ := hN1 p hp
            have n5 : p.1 ≠ ce.locals := n5
            rw [cL] at n5
            refine ⟨(pin p (List.mem_append_left _ hp)).1, (pin p (List.mem_append_left _ hp)).2, n3, n4, n5, fun q hq => ?_⟩
            rcases List.mem_append.mp hq with hq | hq
            · exact fun z => (hN2 q hq).2.2.2.2.2 p (List.mem_append_left _ hp) z.symm
            · exact (sAd.mpr fun r hr => n6 r (List.mem_append_right _ hr)) _ _ _ q hq
          · obtain ⟨n1, n2, n3, n4, n5, n6⟩ := hN2 p hp
            have n5 : p.1 ≠ ce.locals := n5
            rw [cL] at n5
            exact ⟨(pin p (List.mem_append_right _ (List.mem_append_left _ hp))).1, (pin p (List.mem_append_right _ (List.mem_append_left _ hp))).2, hab2 _ n3, n4, n5, fun q hq => (sAd.mpr fun r hr => n6 r (List.mem_append_right _ hr)) _ _ _ q hq⟩
    · have I4' : Inv (X.blk s3 H3 scope ce fp) [] σ0 H3 s4 := I4.pins_of (pins' := []) fun p hp => absurd hp List.not_mem_nil
      have at4 : ∀ b o, s2.heap.get? b = some o → s4.heap.get? b = some o := fun b o e => kp4 b o (z5 b o e)
      have nLb : Lb ≠ D := Nat.ne_of_lt (Nat.lt_trans hLbT hTD)
      refine ⟨by omega, Nat.le_refl _, H3, .fresh c1, [(La, oL1)], .fresh c2, [(Lb, oL2)], .none, .none, I4', by rw [Nat.sub_self]; exact p0, fun b o hb e => ?_, fun p hp => ?_, fun p hp => ?_, ?_, ⟨_, List.mem_singleton.mpr rfl⟩, ⟨_, List.mem_singleton.mpr rfl⟩, by rw [g4]; exact gk2 _ _ hgs1, by rw [g4]; exact hgs2, fun k l c p fs cl e => ?_, fun k l c p fs cl e => ?_,
        fun T hT s H h k => ⟨rfl, wake1 X.A.in1.in1 T (pureG Hs xs) hPG1 room I.ok.frames hT s H h k⟩, fun T hT s H h k => ⟨rfl, ?_⟩, .inl ⟨rfl, rfl, rfl, rfl⟩⟩
      · by_cases hb2 : b = D
        · rw [hb2, ← hH3, upd_same] at e
          cases e
          exact .inl ⟨_, rfl⟩
        · rw [nH3 b hb hb2] at e
          cases e
      · rw [List.mem_singleton.mp hp]
        refine ⟨at4 _ _ (kp2 _ _ eL1), nH3 _ (Nat.le_refl _) (Nat.ne_of_lt hLD), Nat.le_refl _, dL1, Nat.ne_of_lt (Nat.lt_succ_of_lt hLD), fun q hq => ?_⟩
        rcases List.mem_append.mp hq with hq | hq
        · rw [List.mem_singleton.mp hq]
          exact Nat.ne_of_gt hL12
        · refine stm (φ := fun q => q.1 ≠ La) (Nat.ne_of_gt hLa1) (Nat.ne_of_gt (Nat.lt_trans hL12 hLa2)) (Nat.ne_of_gt (Nat.lt_trans hL12 hLbT)) (Nat.ne_of_gt (Nat.lt_succ_of_lt (Nat.lt_trans hL12 hLbT))) (Nat.ne_of_gt (Nat.lt_succ_of_lt (Nat.lt_succ_of_lt (Nat.lt_trans hL12 hLbT)))) q hq
      · rw [List.mem_singleton.mp hp]
        exact ⟨at4 _ _ eL2, nH3 _ (Nat.le_of_lt hL12) nLb, Nat.le_of_lt hL12, dL2, Nat.ne_of_lt (Nat.lt_succ_of_lt (Nat.lt_trans hLbT hTD)), stm (φ := fun q => q.1 ≠ Lb) (Nat.ne_of_lt h12) (Nat.ne_of_gt hLa2) (Nat.ne_of_gt hLbT) (Nat.ne_of_gt (Nat.lt_succ_of_lt hLbT)) (Nat.ne_of_gt (Nat.lt_succ_of_lt (Nat.lt_succ_of_lt hLbT)))⟩
      · have nn : ∀ p ∈ St .none .none .none, H3 p.1 = none := fun p hp => nH3 _ (stA _ _ _ p hp).1 (Nat.ne_of_lt (stA _ _ _ p hp).2.1)
        exact stm ⟨at4 _ _ (kp2 _ _ ea1), nn _ (m1 _ _ _)⟩ ⟨at4 _ _ ea2, nn _ (m2 _ _ _)⟩ ⟨kp4 _ _ z2, nn _ (m3 _ _ _)⟩ ⟨kp4 _ _ z3, nn _ (m4 _ _ _)⟩ ⟨kp4 _ _ z1, nn _ (m5 _ _ _)⟩
      · rw [g4, gk2 _ _ hgs1] at e
        cases e
      · rw [g4, hgs2] at e
        cases e
      · rw [hlen] at h ⊢
        exact wake2 X.A.in1.in1 T (pureG Hs ys) hPG2 room I.ok.frames hT s H h k
  exact codeAny_compStart_list loop (wpAny_pyIter_zip (kp4 _ _ z1) loop)
theorem pe_lcZ {X : Cx} {k : Nat} {elt iter : Expr} {elts : List Expr} {kk : Nat} {tpos : Pos} {scope : Scope} {own : List (Str × Nat)} {pos : Pos} {tz : TZ} {g : TG} {te : TE} (hc : X.calm = true) (hN : X.N.Nodup) (h : PZipS X k iter tz) (hr : Room (k + 3) X.A) (ok : BlkOk X.N X.env.scope scope own) (hnc : ∀ y ∈ scope.names, y.2 ≠ .cell)
    (hg : ∀ (s : Shared) (H : Hp) (C : Addr) (cl : List (Str × Addr)) (fp : List Addr), PG (X.blk s H scope (compEnvC scope cl C X.env) fp).nox (.Tuple elts kk tpos) g)
    (he : ∀ (s : Shared) (H : Hp) (C : Addr) (cl : List (Str × Addr)) (fp : List Addr), PE (X.blk s H scope (compEnvC scope cl C X.env) fp).nox elt te) (hs : ∀ x, foldedSetIterable iter X.env x = pure x := by intro _; rfl) :
    PE X (.ListComp elt [⟨.Tuple elts kk tpos, iter, [], 0⟩] scope pos) (tLcZ tz g te (own.map (·.2))) := by
  refine ⟨fun pins s σ H Q I hw => ?_⟩
  rw [eval_ListComp]
  refine lcz_core hc hN I h hr ok hnc hg he hs hw fun D C s' m H' I' q hn f => ⟨m, hn, fun h'' sb => ?_⟩
  obtain ⟨f0, f1, f2, f3, f4, f5⟩ := f
  exact ⟨.ref D, H', I'.turned (t' := s'.toks) (fun b o hb e => (sb.2 b hb).trans e) f0 f1 f3 f4 f5, rfl, q⟩
/-- the store goes within the comprehension -/
theorem ps_setLcZ {X : Cx} {i k : Nat} {y : Str} {py : Pos} {elt iter : Expr} {elts : List Expr} {kk : Nat} {tpos : Pos} {scope : Scope} {own : List (Str × Nat)} {pos spos : Pos} {tz : TZ} {g : TG} {te : TE} (hc : X.calm = true) (hN : X.N.Nodup) (hy : X.N[i]? = some y) (hyl : X.env.scope.names.lookup y = some .local)
    (hsw : swapsWith (.ListComp elt [⟨.Tuple elts kk tpos, iter, [], 0⟩] scope pos) (some (.Name y py)) spos.line X.env = pure true) (h : PZipS X k iter tz) (hr : Room (k + 3) X.A) (ok : BlkOk X.N X.env.scope scope own) (hnc : (scope.names.all fun y => y.2 != .cell) = true)
    (hg : ∀ (s : Shared) (H : Hp) (C : Addr) (cl : List (Str × Addr)) (fp : List Addr), PG (X.blk s H scope (compEnvC scope cl C X.env) fp).nox (.Tuple elts kk tpos) g)
    (he : ∀ (s : Shared) (H : Hp) (C : Addr) (cl : List (Str × Addr)) (fp : List Addr), PE (X.blk s H scope (compEnvC scope cl C X.env) fp).nox elt te) (hs : ∀ x, foldedSetIterable iter X.env x = pure x := by intro _; rfl) :
    PS X (.Assign [.Name y py] (.ListComp elt [⟨.Tuple elts kk tpos, iter, [], 0⟩] scope pos) spos) (tAsg (tLcZ tz g te (own.map (·.2))) (gName i)) := by
  refine ⟨fun pins s σ H D I hw => ?_⟩
  have hnc' : ∀ y ∈ scope.names, y.2 ≠ .cell := fun y hy e => by
    have := List.all_eq_true.mp hnc y hy
    rw [e] at this
    exact absurd this (by decide)
  rw [exec_Assign_Name_used _ _ _ _ hsw]
  refine wpAny_bind (wpAny_standAt (wpAny_bind ?_))
  show wpAny _ X.A (do let _ ← comprehension (.ListComp elt [⟨.Tuple elts kk tpos, iter, [], 0⟩] scope pos) scope X.env (firstIterPos [⟨.Tuple elts kk tpos, iter, [], 0⟩] pos) (newList []) false (eval iter X.env) (some (assign (.Name y py) X.env))) _ _ s
  have hw : tLcZ tz g te (own.map (·.2)) σ H (fun x H1 => gName i x σ H1 D.nx) := hw
  refine wpAny_bind (thn (lcz_core (Qf := fun _ s' => SP X pins D .next s') hc hN I h hr ok hnc' hg he hs hw fun L C s' m H' I' q hn f => ?_) fun _ s' hq => wpAny_pure (wpAny_pure hq))
  show wpAny _ _ (assign (.Name y py) X.env (.ref L)) _ _ _
  refine wpAny_assign_Name (store_ok2 (v := V.ref L) I' hN hy (.inl hyl) rfl (fun s2 I2 ⟨a, sb, ha⟩ => ?_) (.inr hyl))
  obtain ⟨f0, f1, f2, f3, f4, f5⟩ := f
  have haC : C ≠ a := by
    rcases ha with z | z
    · rw [z]; exact f1
    · exact fun e => f4 y a z e.symm
  refine ⟨m, hn.sameBut sb haC, fun h3 sb3 => ?_⟩
  exact ⟨_, H', I2.turned (t' := s2.toks) (fun b o hb e => (sb3.2 b hb).trans e) f0 f1 f3 f4 f5, q⟩
end L2
namespace Pg
open PySem PySem.Spec PyProof.Rows L2
theorem pe_lcZC {X : Cx} {k : Nat} {elt iter : Expr} {elts : List Expr} {kk : Nat} {tpos : Pos} {scope : Scope} {own : List (Str × Nat)} {pos : Pos} {tz : TZ} {g : TG} {te : TE} (hc : X.calm = true) (hN : X.N.Nodup) (h : PZipS X k iter tz) (hr : Room (k + 3) X.A) (ok : BlkOk X.N X.env.scope scope own) (hnc : (scope.names.all fun y => y.2 != .cell) = true)
    (hg : ∀ (s : Shared) (H : Hp) (C : Addr) (cl : List (Str × Addr)) (fp : List Addr), PG (X.blk s H scope (compEnvC scope cl C X.env) fp).nox (.Tuple elts kk tpos) g)
    (he : ∀ (s : Shared) (H : Hp) (C : Addr) (cl : List (Str × Addr)) (fp : List Addr), PE (X.blk s H scope (compEnvC scope cl C X.env) fp).nox elt te) (hs : ∀ x, foldedSetIterable iter X.env x = pure x := by intro _; rfl) :
    PE X (.ListComp elt [⟨.Tuple elts kk tpos, iter, [], 0⟩] scope pos) (tLcZ tz g te (own.map (·.2))) :=
  pe_lcZ hc hN h hr ok (fun y hy e => by
    have := List.all_eq_true.mp hnc y hy
    rw [e] at this
    exact absurd this (by decide)) hg he hs
def LcZE (g : TG) (te : TE) (σ : L2.St) (H : Hp) (vs : List Nat) (Q : VK) : (GPost → Prop) → (Hp → Prop) → (GPost → Prop) → Prop := fun PG1 fx PG2 => (∀ b C dx fs, H b = some (.ins C dx fs) → H dx = some (.own b)) → ∃ (Hs : Hp) (xs ys : List V), (∀ b o, Hs b = some o → H b = some o) ∧ SmallH Hs ∧ fx Hs ∧ PG1 (pureG Hs xs) ∧ PG2 (pureG Hs ys) ∧ xs.length = ys.length ∧ ∀ D, H D = none →
  ∃ Pv : Nat → Hp → Prop, Pv 0 (upd H D (.lst [])) ∧ (∀ j H', Pv j H' → (∃ acc, H' D = some (.lst acc)) ∧ ∀ b o, Hs b = some o → H' b = some o) ∧
    (∀ j x y H', xs[j]? = some x → ys[j]? = some y → Pv j H' → ∀ T, H' T = none → g (.ref T) (wipe σ vs) (upd H' T (.tup [x, y])) fun σ2 H3 => wipe σ2 vs = wipe σ vs ∧ te σ2 H3 fun v H4 => ∃ acc, H4 D = some (.lst acc) ∧ acc.length < sizeLine ∧ NewSeqs H' H4 ∧ Pv (j + 1) (upd H4 D (.lst (acc ++ [v])))) ∧
    ∀ H', Pv xs.length H' → Q (.ref D) H'
theorem w_lcZ {tz : TZ} {g : TG} {te : TE} {σ : L2.St} {H : Hp} {vs : List Nat} {Q : VK} (h : tz σ H (LcZE g te σ H vs Q)) : tLcZ tz g te vs σ H Q := h
end Pg

/-! the first turn of a generator that looks at its argument, sets a name, and goes through a list: no generator is made or woken -/
namespace L2
open PySem PySem.Spec PyProof.Rows GenW
section
variable {X : Cx} {pins : List (Addr × Obj)} {σ : L2.St} {H : Hp} {s : Shared}
theorem store_g {M : Model} {A : Around} {E : Value → Shared → Prop} {x : Str} {u : Value} (I : Inv X pins σ H s) (hk : X.env.scope.names.lookup x = some .local) : wpAny M A (storeName X.env x u) (fun _ s' => s'.gens = s.gens) E s := by
  obtain ⟨m, hn, _⟩ := id I.loc
  exact wpAny_storeName_local hk hn (fun h' _ _ => rfl) (by rw [I.ok.kind]; rfl)
theorem attr_g {A : Around} {E : Value → Shared → Prop} {a C dx : Addr} {f : Str} {fs : List (Str × V)} {v : V} {b : Bool} (I : Inv X pins σ H s) (e : H a = some (.ins C dx fs)) (c : Cls X.K C) (n : NoAttr X.K C f) (l : fs.lookup f = some v) :
    wpAny (model X.prog X.w) A (getAttr (.ref a) f b) (fun u s' => RelV v u ∧ Inv X pins σ H s' ∧ s'.gens = s.gens) E s := by
  obtain ⟨mA, O, r, _, _, _⟩ := ins_get I.hok e
  obtain ⟨u, hu, ru⟩ := RelO.some_of (v := v) (o := mA f) (by rw [← l]; exact r f)
  exact get_map I.kIn O (c.get f) c.hd n hu (handed_of ru) ⟨ru, I.tok _, rfl⟩
/-- o.f[-1] -/
theorem last_g {E : Value → Shared → Prop} {i : Nat} {xo f : Str} {a C dx p r : Addr} {fs : List (Str × V)} {ri : List Addr} {p1 p2 p3 p4 p5 : Pos} {j : Nat} (I : Inv X pins σ H s) (hN : X.N[i]? = some xo) (hov : Vis X.env.scope xo) (eo : σ[i]? = some (some (.ref a)))
    (hH : H a = some (.ins C dx fs)) (T : Cls X.K C) (n : NoAttr X.K C f) (l : fs.lookup f = some (.ref p)) (hp : H p = some (.lst ((ri ++ [r]).map V.ref)))
    (hb : attributeBase (.Name xo p1) f X.env (eval (.Name xo p1) X.env) = eval (.Name xo p1) X.env) (hs : PlainIx (.UnaryOp .USub (.Constant (.int 1) j p3) p4))
    (hd : (xo == ("__debug__" : Str)) = false := by decide) (hcd : (xo == ("__classdict__" : Str)) = false := by decide) :
    wpAny (model X.prog X.w) X.A (eval (.Subscript (.Attribute (.Name xo p1) f p2) (.UnaryOp .USub (.Constant (.int 1) j p3) p4) p5) X.env) (fun u s' => u = .ref r ∧ Inv X pins σ H s' ∧ s'.gens = s.gens) E s := by
  refine Subscript_ (attr_of hb (var_at I hN hov eo (fun u ru => ?_) hd hcd))
  obtain rfl : u = Value.ref a := ru
  refine thn (attr_g I hH T n l) fun u s1 ⟨ru, I1, g1⟩ => ?_
  obtain rfl : u = Value.ref p := ru
  refine UnaryOp_ (wpAny_Constant_int (neg_int ?_))
  have I2 : Inv X pins σ H { { s1 with toks := s1.toks + 1 } with toks := s1.toks + 1 + 1 } := (I1.tok _).tok _
  obtain ⟨its, rv, pl, hz⟩ := I2.list (SqL.of hp)
  have hll := rv.length
  rw [List.length_map, List.length_append] at hll
  have hll : ri.length + 1 = its.length := hll
  obtain ⟨u, hu, ru⟩ := rv.get (show ((ri ++ [r]).map V.ref)[ri.length]? = some (V.ref r) by simp)
  obtain rfl : u = Value.ref r := ru
  have hz2 : its.length ≤ sizeLine := by
    have : ((ri ++ [r]).map V.ref).length ≤ sizeLine := (I2.hok p _ hp).1
    rw [List.length_map, List.length_append] at this
    have this : ri.length + 1 ≤ sizeLine := this
    omega
  refine subscriptTail_builtinR (x := .ref r) pl.isList.typeIs slot_list_getitem.lookup (wpAny_getItem_list_neg (Q := fun v s' => v = .ref r ∧ v = .ref r ∧ Inv X pins σ H s' ∧ s'.gens = s.gens) pl.isList (by decide) (by rw [List.size_toArray]; omega) (by decide) ?_ ⟨rfl, rfl, I2, g1⟩) (hs _ _)
  rw [List.size_toArray, show ((-1 : Int) + (its.length : Int)).toNat = ri.length by omega]
  simpa using hu
/-- if y < 1: ... at a number from 1 on -/
theorem if_g {i : Nat} {y : Str} {n : Int} {b : List Stmt} {q1 q2 q3 q4 : Pos} {j : Nat} {E : Value → Shared → Prop} (I : Inv X pins σ H s) (hN : X.N[i]? = some y) (hv : Vis X.env.scope y) (e : σ[i]? = some (some (.int n))) (hn : 1 ≤ n)
    (hd : (y == ("__debug__" : Str)) = false := by decide) (hcd : (y == ("__classdict__" : Str)) = false := by decide) :
    wpAny (model X.prog X.w) X.A (execs [.If (.Compare (.Name y q1) [.Lt] [.Constant (.int 1) j q2] q3) b [] q4] X.env) (fun fl s' => fl = .next ∧ s'.gens = s.gens) E s := by
  refine wpAny_execs_cons (wpAny_If (wpAny_isTrue_Compare1 (var_at I hN hv e (fun u ru => ?_) hd hcd)))
  obtain ⟨t, rfl⟩ := ru
  refine wpAny_Constant_int (lt_int (wpAny_truthy_bool ?_))
  rw [decide_eq_false (by omega)]
  show wpAny _ _ (execs [] X.env) _ _ _
  exact wpAny_execs_nil (wpAny_execs_nil ⟨rfl, rfl⟩)
end
/-- a def's call, told of the generators alone -/
theorem fun_g {P : Program} {w : World} {K : PySem.W.Frag} {mg : Str → Option Value} {base : Heap} {k : Nat} {x qual : Str} {st : Stmt} {f : Addr} {fd : FuncData} {N ps : List Str} {A : Around} {outer : List Env} {s : Shared} {H : Hp} {args : Args} {us : List Value} {vs : List V}
    (F : Fun K x qual st f fd) (S : FnScope N ps (defScope st)) (hr : Room (k + 1) A) (e0 : Env0 P w K mg base A outer s H) (hb : BindsTo s fd args (ps.zip us)) (r : Vals vs us) (hl : vs.length = ps.length)
    (hbody : ∀ cdv s1, s1.gens = s.gens → Inv (cxOf (L2.CX P w) P w K mg base N qual (defScope st) f cdv A outer s H (fun _ _ _ => False)) [] (start N vs) H s1 →
      wpAny (model P w) (A.deeper (envOfC qual (defScope st) s.heap.objs.size f cdv)) (execs (defBody st) (envOfC qual (defScope st) s.heap.objs.size f cdv)) (fun _ s' => s'.gens = s.gens) (fun _ _ => False) s1) :
    codeAny (model P w) A (.call (.ref f) args) (fun r s' => (∃ u, r = .ok (.ret u)) ∧ s'.gens = s.gens) s := by
  obtain ⟨oc, od, kV, doc, pm, an, cdv, ct, osl, rfl, lk, hcd⟩ := F.ex
  have KX : K.In s.heap := e0.mod.kin.keeps fun b o e => (e0.bs b o e).1
  have lim : s.heap.NoLimit := e0.mod.nolimit.keeps fun b o e => (e0.bs b o e).1
  have hkind : ∀ y ∈ ps.zip us, (defScope st).names.lookup y.1 = some .local ∨ ((defScope st).names.lookup y.1 = some .cell ∧ ((cellsFrom (s.heap.objs.size + 1) (defScope st).names []).lookup y.1).isSome = true) := fun ⟨n, v⟩ hy => by
    rcases S.par n (List.of_mem_zip hy).1 with q | q
    · exact .inl q
    · exact .inr ⟨q, PySem.W.cellsFrom_some _ _ _ (.inl q)⟩
  refine codeAny_call_function hr.depth (KX _ _ lk) rfl S.co S.gen rfl (PySem.W.codeRec_of KX hcd) (hb _ _ _ _ ?_)
  refine wpAny_newFunctionEnv_cells S.kind hkind fun env he s1 x => ?_
  subst he
  refine ⟨lim.keeps x.toInCall.keep, codeAny_func ?_⟩
  have I : Inv (cxOf (L2.CX P w) P w K mg base N qual (defScope st) f cdv A outer s H (fun _ _ _ => False)) [] (start N vs) H s1 := inv_start S hr.hd e0 hl r x
  obtain ⟨h1, tk, es1, hk1⟩ := x.done
  have g1 : s1.gens = s.gens := by rw [es1]
  exact wpAny_mono (hbody cdv s1 g1 I) (fun fl s' hs => ⟨⟨_, rfl⟩, hs⟩) fun e s' hs => hs.elim
/-- a call with one local name, as a statement -/
theorem call_g {X : Cx} {pins : List (Addr × Obj)} {σ : L2.St} {H : Hp} {s : Shared} {k i : Nat} {x y : Str} {st : Stmt} {N : List Str} {n : Int} {b : List Stmt} {q1 q2 q3 q4 p p' pos pos2 : Pos} {j : Nat} {E : Value → Shared → Prop} {ks : Str}
    (hfun : ∃ f fd, X.mg x = some (.ref f) ∧ Fun X.K x x st f fd ∧ Binds X.K fd [ks] []) (S : FnScope N [ks] (defScope st)) (eb : defBody st = [.If (.Compare (.Name ks q1) [.Lt] [.Constant (.int 1) j q2] q3) b [] q4]) (hNk : N[0]? = some ks) (hvk : Vis (defScope st) ks)
    (hr : Room (k + 1) X.A) (I : Inv X pins σ H s) (hN : X.N[i]? = some y) (hv : Vis X.env.scope y) (e : σ[i]? = some (some (.int n))) (hn : 1 ≤ n) (hg : Gl X x) (hs : swapsWith (.Call (.Name x p) [.Name y p'] [] pos) none pos2.line X.env = pure false)
    (hst : starEach [.Name y p'] X.env = [(false, eval (.Name y p') X.env)])
    (hdb : (x == ("__debug__" : Str)) = false := by decide) (hd : (y == ("__debug__" : Str)) = false := by decide) (hcd : (y == ("__classdict__" : Str)) = false := by decide) (hd2 : (ks == ("__debug__" : Str)) = false := by decide) (hcd2 : (ks == ("__classdict__" : Str)) = false := by decide) :
    wpAny (model X.prog X.w) X.A (exec (.Expr (.Call (.Name x p) [.Name y p'] [] pos) pos2) X.env) (fun fl s' => fl = .next ∧ s'.gens = s.gens) E s := by
  obtain ⟨f, fd, hm, F, bd⟩ := hfun
  refine wpAny_Expr_any (E := E) ?_ I.quiet hs
  refine wpAny_Call_Name_kw (ld_glob I hg hm ?_ hdb)
  have hst' : starEach [.Name y p'] X.env = (false, eval (.Name y p') X.env) :: starEach [] X.env := hst
  refine PySem.W.callWith_K (h₀ := X.base) I.ok.mod.kin F.kp ?_ hst' rfl
  rw [hst]
  show wpAny _ _ (spliced ((false, eval (.Name y p') X.env) :: [])) _ _ s
  refine Calls.spliced_cons (var_at I hN hv e (fun u ru => Calls.spliced_nil ⟨I.kIn, ?_⟩) hd hcd)
  have r2 : Vals [V.int n] [u] := .cons ru .nil
  refine wpAny_call (codeAny_mono (fun_g (k := k) (args := ⟨[u], []⟩) (us := [u]) F S hr I.env0 (Pg.binds0 bd r2 rfl I.kIn) r2 rfl fun cdv s1 g1 J => ?_) fun r s' hq => ?_)
  · rw [eb]
    refine wpAny_mono (if_g (E := fun _ _ => False) (i := 0) (y := ks) (n := n) J hNk hvk ?_ hn hd2 hcd2) (fun fl s' h => h.2.trans g1) fun _ _ z => z
    cases N with
    | nil => cases hNk
    | cons a N => rfl
  · obtain ⟨⟨u2, rfl⟩, hq⟩ := hq
    exact ⟨rfl, hq⟩
/-- the whole first turn -/
theorem first_turn {P : Program} {w : World} {K : PySem.W.Frag} {mg : Str → Option Value} {base : Heap} {N : List Str} {qual : Str} {scope : Scope} {f : Addr} {cd : Value} {A : Around} {outer : List Env} {L : Addr} {s2 : NTurn} {H : Hp} {σ σ2 : L2.St} {st1 st2 : Stmt} {iter : Expr} {xl yp : Str} {il ip : Nat} {r : Addr} {xs : List V} {v : V}
    {rest : List Stmt} {pl py pyy pe pf : Pos} (hh : A.handled = none) (hnd : N.Nodup) (I : Inv (ncxOf P w K mg base N qual scope f cd A outer L s2 H) [] σ H s2.toShared)
    (h1 : ∀ s, Inv (ncxOf P w K mg base N qual scope f cd A outer L s2 H) [] σ H s → wpAny (model P w) (A.deeper (envOfC qual scope L f cd)) (exec st1 (envOfC qual scope L f cd)) (fun fl s' => fl = .next ∧ Inv (ncxOf P w K mg base N qual scope f cd A outer L s2 H) [] σ H s' ∧ s'.gens = s.gens) (fun _ _ => False) s)
    (h2 : ∀ s, Inv (ncxOf P w K mg base N qual scope f cd A outer L s2 H) [] σ H s → wpAny (model P w) (A.deeper (envOfC qual scope L f cd)) (exec st2 (envOfC qual scope L f cd)) (fun fl s' => fl = .next ∧ Inv (ncxOf P w K mg base N qual scope f cd A outer L s2 H) [] σ2 H s' ∧ s'.gens = s.gens) (fun _ _ => False) s)
    (h3 : ∀ s, Inv (ncxOf P w K mg base N qual scope f cd A outer L s2 H) [] σ2 H s → wpAny (model P w) (A.deeper (envOfC qual scope L f cd)) (eval iter (envOfC qual scope L f cd)) (fun u s' => u = .ref r ∧ Inv (ncxOf P w K mg base N qual scope f cd A outer L s2 H) [] σ2 H s' ∧ s'.gens = s.gens) (fun _ _ => False) s)
    (hr : H r = some (.lst xs)) (hl : scope.names.lookup xl = some .local) (hil : N[il]? = some xl) (hip : N[ip]? = some yp) (hvp : Vis scope yp) (hv : ∀ x, (σ2.set il (some x))[ip]? = some (some v))
    (hfold : ∀ x, foldedSetIterable iter (envOfC qual scope L f cd) x = pure x) (hco : (envOfC qual scope L f cd).scope.isCoroutine = false) (hi : interactive (envOfC qual scope L f cd) = false)
    (hd : (yp == ("__debug__" : Str)) = false := by decide) (hcd : (yp == ("__classdict__" : Str)) = false := by decide) :
    Seg (model P w) A Rg Yg 1 s2.toShared (.func [st1, st2, .For (.Name xl pl) iter (.Expr (.Yield (some (.Name yp py)) pyy) pe :: rest) [] pf] (envOfC qual scope L f cd)) ((model P w).den (.func [st1, st2, .For (.Name xl pl) iter (.Expr (.Yield (some (.Name yp py)) pyy) pe :: rest) [] pf] (envOfC qual scope L f cd))) [] s2.toShared := by
  refine seg_func ?_
  refine seg_execs_cons ?_
  refine seg_wrap ?_
  rw [over_func]
  refine wpAny_mono (h1 _ I) (fun fl t1 hs => ?_) fun x s' hx => hx.elim
  obtain ⟨rfl, I1, g1⟩ := hs
  refine seg_execs_cons ?_
  refine seg_wrap ?_
  rw [over_func]
  refine wpAny_mono (h2 _ I1) (fun fl t2 hs => ?_) fun x s' hx => hx.elim
  obtain ⟨rfl, I2, g2⟩ := hs
  refine seg_execs_cons ?_
  refine seg_For ?_ hfold
  rw [over_func]
  refine wpAny_mono (h3 _ I2) (fun u t3 hs => ?_) fun x s' hx => hx.elim
  obtain ⟨rfl, I3, g3⟩ := hs
  have gs3 : t3.gens = s2.gens := g3.trans (g2.trans g1)
  obtain ⟨its, rv, p, hz⟩ := I3.list (SqL.of hr)
  refine wpAny_pyIter_list p.isList fun pp => ?_
  generalize ht4 : ({ t3 with heap := t3.heap.push { cls := .type "list_iterator", data := .fields #[.ref r, .int 0 0] } } : Shared) = t4
  have I4 : Inv (ncxOf P w K mg base N qual scope f cd A outer L s2 H) [] σ2 H t4 := by
    rw [← ht4]
    exact I3.kept (t' := t3.toks) fun b o e => Heap.get?_push_of_some _ e
  have hit : t4.heap.IsListIter t3.heap.objs.size r 0 := by
    rw [← ht4]
    exact ⟨_, Heap.get?_push_size _ rfl, rfl, rfl⟩
  have gs4 : t4.gens = s2.gens := by rw [← ht4]; exact gs3
  have hitn : H t3.heap.objs.size = none := I3.hok.fresh (Nat.le_refl _)
  obtain ⟨f0, f1, f2, f3, f4, f5⟩ := I3.fpOk (Nat.le_refl _) hitn
  generalize t3.heap.objs.size = it at *
  refine seg_forLoop ?_
  rw [show A.over (.forLoop (.Name xl pl) (.ref it) (.Expr (.Yield (some (.Name yp py)) pyy) pe :: rest) [] (envOfC qual scope L f cd)) (_ :: _) = A.deeper (envOfC qual scope L f cd) from (over_loop rfl rfl).trans over_func]
  obtain ⟨its4, rv4, p4, hz4⟩ := I4.list (SqL.of hr)
  have hlen := rv4.length
  cases xs with
  | nil =>
    refine wpAny_pyNext_list_end hh hit p4.isList (by cases rv4; rfl) fun h' eb => ?_
    show Seg _ _ _ _ _ _ _ ((execs [] (envOfC qual scope L f cd)).onRaise _ >>= fun f => .pure (.done f)) _ _
    refine seg_bind ?_
    refine wpAny_onRaise ?_
    refine wpAny_execs_nil ?_
    refine seg_leaf (.ok .next) ?_
    exact seg_end (.ok (.ret .none)) gs4
  | cons x xs =>
    obtain ⟨u, hu, ru⟩ := rv4.get (show (x :: xs)[0]? = some x from rfl)
    refine wpAny_pyNext_list_item hit p4.isList (x := u) (by simpa using hu) fun h' st' sb => ?_
    have I5 : Inv (ncxOf P w K mg base N qual scope f cd A outer L s2 H) [] σ2 H { t4 with heap := h' } := I4.turned (t' := t4.toks) (it := it) (fun b o hb e => (sb.2 b hb).trans e) f0 f1 f3 f4 f5
    obtain ⟨o, e, c, d⟩ := id st'
    refine go_of (s := { t4 with heap := h' }) e c d (by decide) ?_
    refine wpAny_assign_Name (wpAny_mono (wpAny_two (store_ok (E := fun _ _ => False) (Q := fun _ s' => Inv (ncxOf P w K mg base N qual scope f cd A outer L s2 H) [] (σ2.set il (some x)) H s') I5 hnd hil (Or.inl hl) ru (fun s' I' => I') (.inl rfl)) (store_g (E := fun _ _ => False) I5 hl)) (fun _ t6 hh6 => ?_) fun _ _ z => z.1.elim)
    obtain ⟨I6, g6⟩ := hh6
    refine seg_execs_cons ?_
    refine seg_Expr_Yield rfl rfl rfl ?_ hco hi
    rw [show A.over (.forLoop (.Name xl pl) (.ref it) (.Expr (.Yield (some (.Name yp py)) pyy) pe :: rest) [] (envOfC qual scope L f cd)) (_ :: _) = A.deeper (envOfC qual scope L f cd) from (over_loop rfl rfl).trans over_func]
    exact var_at I6 hip hvp (hv x) (fun u2 ru2 kap hk => g6.trans gs4) hd hcd
end L2

open PySem PySem.Spec PyProof.Rows L2 Pg
/-! ### steps -/
local macro_rules | `(tactic| walk_at "h") => `(tactic| with_reducible first
  | assumption
  | exact upd_same
  | (refine' at_make ?e3 ?n1 ?n2; (case n1 => assumption); (case n2 => assumption); (case e3 => walk_at "h"))
  | (refine' at_upd ?e3 ?n1; (case n1 => assumption); (case e3 => walk_at "h"))
  | (refine' Fr.at0 ?n1 ?e3; (case n1 => assumption); (case e3 => walk_at "h"))
  | (refine' Fr.at ?e1 (nn2 ?e2) ?e3; (case e1 => assumption); (case e2 => walk_at "n"); (case e3 => walk_at "h"))
  | (refine' Fr.at ?e1 (nn3 ?e2 ?e4) ?e3; (case e1 => assumption); (case e2 => walk_at "n"); (case e4 => walk_at "n"); (case e3 => walk_at "h"))
  | (refine' Eq.trans (upd_ne ?e2) ?e3; (case e2 => walk_at "n"); (case e3 => walk_at "h")))
local macro_rules | `(tactic| walk_at "n") => `(tactic| with_reducible first
  | assumption
  | exact Ne.symm (by assumption)
  | (refine' Ne.symm (ne_of_none ?e1 ?e2); (case e2 => assumption); (case e1 => walk_at "h"))
  | (refine' ne_of_none ?e1 ?e2; (case e2 => assumption); (case e1 => walk_at "h"))
  | (refine' ne_of ?e1 ?e2 ?e3; (case e1 => assumption); (case e2 => walk_at "h"); (case e3 => (first | exact ho_lst_tup | exact ho_lst_own | exact ho_lst_xd | exact ho_lst_dK | exact ho_lst_ins | exact ho_tup_lst | exact ho_tup_own | exact ho_tup_xd | exact ho_tup_dK | exact ho_tup_ins | exact ho_own_lst | exact ho_own_tup | exact ho_own_xd | exact ho_own_dK | exact ho_own_ins | exact ho_xd_lst | exact ho_xd_tup | exact ho_xd_own | exact ho_xd_dK | exact ho_xd_ins | exact ho_dK_lst | exact ho_dK_tup | exact ho_dK_own | exact ho_dK_xd | exact ho_dK_ins | exact ho_ins_lst | exact ho_ins_tup | exact ho_ins_own | exact ho_ins_xd | exact ho_ins_dK))))
local macro_rules | `(tactic| walk_at "f") => `(tactic| with_reducible first
  | assumption
  | exact Fr.refl
  | exact Fr.nil (by assumption)
  | (refine' Fr.make ?e1 ?e2 ?e3; (case e2 => assumption); (case e3 => assumption); (case e1 => walk_at "f"))
  | (refine' Fr.new ?e1 ?e2; (case e2 => assumption); (case e1 => walk_at "f"))
  | (refine' Fr.put ?e1 (Or.inr ?e2); (case e2 => exact List.mem_singleton_self _); (case e1 => walk_at "f"))
  | (refine' Fr.put ?e1 (Or.inr ?e2); (case e2 => exact mem2a); (case e1 => walk_at "f"))
  | (refine' Fr.put ?e1 (Or.inr ?e2); (case e2 => exact mem2b); (case e1 => walk_at "f"))
  | (refine' Fr.put ?e1 (Or.inl ?e2); (case e2 => walk_at "z"); (case e1 => walk_at "f"))
  | (refine' Fr.trans ?e1 ?e2; (case e2 => assumption); (case e1 => walk_at "f"))
  | (refine' Fr.then ?e1 ?e2; (case e2 => assumption); (case e1 => walk_at "f"))
  | (refine' Fr.loc ?e1 ?e2 ?e3; (case e3 => assumption); (case e2 => walk_at "z"); (case e1 => walk_at "f"))
  | (refine' Fr.loc2 ?e1 ?e2 ?e4 ?e3; (case e3 => assumption); (case e2 => walk_at "z"); (case e4 => walk_at "z"); (case e1 => walk_at "f")))
local macro_rules | `(tactic| walk_at "z") => `(tactic| with_reducible first
  | assumption
  | (refine' Fr.free ?e1 (nn2 ?e2) ?e3; (case e3 => assumption); (case e1 => walk_at "f"); (case e2 => walk_at "n"))
  | (refine' Fr.free ?e1 (nn3 ?e2 ?e4) ?e3; (case e3 => assumption); (case e1 => walk_at "f"); (case e2 => walk_at "n"); (case e4 => walk_at "n"))
  | (refine' Fr.free (S := []) ?e1 List.not_mem_nil ?e3; (case e3 => assumption); (case e1 => walk_at "f")))
local macro_rules | `(tactic| walk_at "k") => `(tactic| first
  | with_reducible assumption
  | ((with_reducible refine' hx_of ?a1 ?a0); (case a1 => walk_at "h"); (case a0 => with_reducible exact rfl)))
local macro_rules | `(tactic| walk_at "1") => `(tactic| first
  | with_reducible refine w_seq ?_
  | with_reducible refine w_asg ?_
  | with_reducible refine w_gname ?_
  | with_reducible refine w_ret ?_
  | with_reducible refine w_drop ?_
  | with_reducible refine w_ifS ?_
  | with_reducible refine w_c ?_
  | ((with_reducible refine' w_var ?e1 ?_); (case e1 => exact rfl))
  | with_reducible refine w_op ?_
  | with_reducible refine w_I0 ?_
  | with_reducible refine w_eqI ?_
  | with_reducible refine w_neI ?_
  | with_reducible refine w_nil ?_
  | with_reducible refine w_cons ?_
  | with_reducible refine w_call ?_
  | with_reducible refine w_CB ?_
  | with_reducible refine w_test ?_
  | with_reducible refine w_tB ?_
  | with_reducible refine w_exbl ?_
  | with_reducible refine w_not ?_
  | with_reducible refine w_and ?_
  | with_reducible refine w_or ?_
  | with_reducible refine w_if ?_
  | with_reducible refine w_next ?_
  | with_reducible refine w_retN ?_
  | with_reducible refine w_iteF ?_
  | with_reducible refine w_iteT ?_
  | with_reducible refine w_iteNT ?_
  | with_reducible refine w_iteNF ?_
  | ((with_reducible refine w_iteP ?e1 ?_); (case e1 => with_reducible first | exact rfl | assumption))
  | ((with_reducible refine w_iteNP ?e1 ?_); (case e1 => with_reducible first | exact rfl | assumption))
  | ((with_reducible refine w_iteQ ?e1 ?_); (case e1 => with_reducible assumption))
  | ((with_reducible refine w_iteNQ ?e1 ?_); (case e1 => with_reducible assumption))
  | with_reducible refine w_lst ?_
  | with_reducible refine w_tup ?_
  | with_reducible refine w_bm ?_
  | with_reducible refine w_bm0 ?_
  | with_reducible refine w_chain ?_
  | with_reducible refine w_sub ?_
  | with_reducible refine w_un ?_
  | with_reducible refine w_U ?_
  | with_reducible refine w_par ?_
  | with_reducible refine w_parE ?_
  | with_reducible refine w_par3 ?_
  | with_reducible refine w_par3E ?_
  | ((with_reducible refine' w_aug ?e1 ?_); (case e1 => exact rfl))
  | with_reducible refine w_ipI ?_
  | ((with_reducible refine' w_ipM ?e1 ?_); (case e1 => walk_at "c"))
  | with_reducible refine w_fld ?_
  | with_reducible refine w_tfld ?_
  | ((with_reducible refine' w_powW ?e1 ?_); (case e1 => walk_at "c"); (try dsimp only [Int.reduceToNat, Int.reducePow]))
  | ((with_reducible refine' w_I ?e1 ?_); (case e1 => walk_at "c"))
  | ((with_reducible refine' w_ixL (SqL.of ?e1) ?e2 ?_); (case e1 => walk_at "k"); (case e2 => exact rfl))
  | ((with_reducible refine' w_ixT (SqT.of ?e1) ?e2 ?_); (case e1 => walk_at "k"); (case e2 => exact rfl))
  | ((with_reducible refine' w_setL ?e1 ?e2 ?_); (case e1 => walk_at "k"); (case e2 => exact rfl))
  | ((with_reducible refine' w_ixLi (SqL.of ?e1) ?e2 ?e3 ?e4 ?_); (case e1 => walk_at "k"); (case e2 => exact rfl); (case e3 => omega); (case e4 => (simp only [unV, List.length_cons, List.length_nil]; omega)); intro n hn; simp only [unV, List.mem_cons, List.not_mem_nil, or_false] at hn)
  | ((with_reducible refine' w_ixTi (SqT.of ?e1) ?e2 ?e3 ?e4 ?_); (case e1 => walk_at "k"); (case e2 => exact rfl); (case e3 => omega); (case e4 => (simp only [unV, List.length_cons, List.length_nil]; omega)); intro n hn; simp only [unV, List.mem_cons, List.not_mem_nil, or_false] at hn)
  | ((with_reducible refine' w_ixLast (SqL.of ?e1) ?e3 ?_); (case e1 => walk_at "k"); (case e3 => assumption); intro ini n hn)
  | ((with_reducible refine' w_ixLm (SqL.of ?e1) ?e3 ?e4 ?_); (case e1 => walk_at "k"); (case e3 => omega); (case e4 => (first | omega | (simp only [List.length_append, List.length_cons, List.length_nil, List.length_set]; omega))); intro n hn)
  | ((with_reducible refine' w_lenI (SqL.of ?e1) ?_); (case e1 => walk_at "k"))
  | ((with_reducible refine' w_len (SqL.of ?e1) ?_); (case e1 => walk_at "k"))
  | ((with_reducible refine' w_tyL ?e1 ?_); (case e1 => walk_at "k"))
  | ((with_reducible refine' w_appendI ?e1 ?e2 ?_); (case e1 => walk_at "k"); (case e2 => omega))
  | with_reducible refine w_max2 ?_
  | with_reducible refine w_min2 ?_
  | with_reducible refine w_abs ?_
  | with_reducible refine w_intI ?_
  | with_reducible refine w_intB ?_
  | ((with_reducible refine' w_sum (SqL.of ?e1) ?_); (case e1 => walk_at "k"))
  | ((with_reducible refine' w_neNil (SqL.of ?e1) (SqL.of ?e2) ?_); (case e2 => walk_at "k"); (case e1 => walk_at "k"))
  | ((with_reducible refine' w_eqNil (SqL.of ?e1) (SqL.of ?e2) ?_); (case e2 => walk_at "k"); (case e1 => walk_at "k"))
  | ((with_reducible refine' w_eqLI (SqL.of ?e1) (SqL.of ?e2) ?_); (case e1 => walk_at "k"); (case e2 => walk_at "k"))
  | ((with_reducible refine' w_neLI (SqL.of ?e1) (SqL.of ?e2) ?_); (case e1 => walk_at "k"); (case e2 => walk_at "k"))
  | with_reducible refine w_for ?_
  | with_reducible refine w_lc ?_
  | with_reducible refine w_iList ?_
  | with_reducible refine w_iTup ?_
  | ((with_reducible refine' w_iTupE (SqT.of ?e1) ?_); (case e1 => walk_at "k"))
  | with_reducible refine w_rng1 ?_
  | with_reducible refine w_rng2 ?_
  | ((with_reducible refine' w_iListE (SqL.of ?e1) ?_); (case e1 => walk_at "k"))
  | ((with_reducible refine w_rng1E ?_ ?_ ?_); omega; omega)
  | ((with_reducible refine w_rng2E ?_ ?_); omega)
  | with_reducible refine w_fldaug ?_
  | ((with_reducible refine' w_fldP ?e1 ?e2 ?e3 ?e4 ?e5 ?_); (case e1 => walk_at "k"); (case e2 => assumption); (case e3 => assumption); (case e4 => exact Nat.le_of_ble_eq_true rfl); (case e5 => walk_at "fl"))
  | ((with_reducible refine' w_fldA ?e1 ?e2 ?e3 ?e5 ?_); (case e1 => walk_at "k"); (case e2 => assumption); (case e3 => assumption); (case e5 => walk_at "fl"))
  | ((with_reducible refine' w_fldQ ?e1 ?e4 ?e5 ?_); (case e1 => walk_at "k"); (case e4 => exact Nat.le_of_ble_eq_true rfl); (case e5 => walk_at "fl"))
  | ((with_reducible refine' w_fldG ?e1 ?e2 ?e3 ?e5 ?_); (case e1 => walk_at "k"); (case e2 => assumption); (case e3 => assumption); (case e5 => walk_at "fl"))
  | with_reducible refine w_meth ?_
  | ((with_reducible refine' w_methE ?e1 ?e5 ?_); (case e1 => walk_at "k"); (case e5 => walk_at "fl"))
  | with_reducible refine w_prop ?_
  | ((with_reducible refine' w_propE ?e1 ?_); (case e1 => walk_at "k"))
  | with_reducible refine w_make ?_
  | with_reducible refine w_rAdd ?_
  | with_reducible refine w_rSub ?_
  | ((with_reducible refine' w_listof (SqL.of ?e1) ?_); (case e1 => walk_at "k"); intro p np)
  | with_reducible refine w_tYes ?_
  | ((with_reducible refine' w_appEI ?e1 ?e2 ?_); (case e1 => walk_at "k"); (case e2 => omega))
  | ((with_reducible refine' w_appEB ?e1 ?e2 ?_); (case e1 => walk_at "k"); (case e2 => omega))
  | with_reducible refine w_whT ?_
  | with_reducible refine w_lenSet ?_
  | ((with_reducible refine' w_lenSE (SqL.of ?e1) ?e2 ?_); (case e1 => walk_at "k"); (case e2 => omega))
  | ((with_reducible refine' w_isi ?e1 ?e2 ?_); (case e1 => (first | exact .base (.int _) | exact .base .non | exact .base (.bl _) | exact .base (.str _) | (refine' tyx_lst ?f1; (case f1 => walk_at "k")) | (refine' tyx_tup ?f1; (case f1 => walk_at "k")))); (case e2 => (first | exact kit_ty (r := true) (by decide +kernel) | exact kit_ty (r := false) (by decide +kernel))))
  | with_reducible refine w_sortKw ?_
  | ((with_reducible refine' w_sortedKw (SqL.of ?e1) ?_); (case e1 => walk_at "k"); intro ns' p hperm hord np)
  | ((with_reducible refine' w_sortedI (SqL.of ?e1) ?_); (case e1 => walk_at "k"); intro ns' p hperm hord np)
  | ((with_reducible refine' w_extendI ?e1 ?e2 ?e3 ?_); (case e1 => walk_at "k"); (case e2 => walk_at "k"); (case e3 => (first | omega | (simp only [List.length_replicate]; omega))))
  | ((with_reducible refine' w_rep1 ?e1 ?e2 ?e3 ?_); (case e1 => walk_at "k"); (case e2 => omega); (case e3 => omega); intro p np)
  | ((with_reducible refine' w_maxL (SqL.of ?e1) ?e2 ?_); (case e1 => walk_at "k"); (case e2 => (first | omega | (simp; done))); intro m hm hle)
  | ((with_reducible refine' w_minL (SqL.of ?e1) ?e2 ?_); (case e1 => walk_at "k"); (case e2 => (first | omega | (simp; done))); intro m hm hle)
  | ((with_reducible refine' w_catI ?e1 ?e2 ?e3 ?_); (case e1 => walk_at "k"); (case e2 => walk_at "k"); (case e3 => (first | omega | (simp only [List.length_replicate]; omega))); intro p np)
  | ((with_reducible refine' w_catIL ?e1 ?e2 ?e3 ?e4 ?_); (case e1 => walk_at "k"); (case e2 => walk_at "k"); (case e3 => exact rfl); (case e4 => (simp only [unV, List.length_cons, List.length_nil]; omega)); intro p np; dsimp only [unV])
  | ((with_reducible refine' w_catLI ?e1 ?e2 ?e3 ?e4 ?_); (case e1 => walk_at "k"); (case e2 => walk_at "k"); (case e3 => exact rfl); (case e4 => (simp only [unV, List.length_cons, List.length_nil]; omega)); intro p np; dsimp only [unV])
  | with_reducible refine w_callK0 ?_
  | ((with_reducible refine w_kwE ?e1 ?_); (case e1 => exact rfl))
  | with_reducible refine w_makeK ?_
  | ((with_reducible refine w_mkE ?e1 ?_); (case e1 => exact rfl))
  | with_reducible refine w_methK ?_
  | ((with_reducible refine' w_methKE ?e1 ?e5 ?_); (case e1 => walk_at "k"); (case e5 => walk_at "fl"))
  | ((with_reducible refine w_mkwE ?e1 ?_); (case e1 => exact rfl))
  | with_reducible refine w_enum ?_
  | with_reducible refine w_zip ?_
  | with_reducible refine w_gNil ?_
  | with_reducible refine w_gCons ?_
  | ((with_reducible refine' w_gTup (SqT.of ?e1) ?e2 ?_); (case e1 => walk_at "k"); (case e2 => exact rfl))
  | ((with_reducible refine' w_gLst (SqL.of ?e1) ?e2 ?_); (case e1 => walk_at "k"); (case e2 => exact rfl))
  | ((with_reducible refine' w_enumE (SqL.of ?e1) ?_); (case e1 => walk_at "k"))
  | ((with_reducible refine' w_zipE (SqL.of ?e1) (SqL.of ?e2) ?_); (case e1 => walk_at "k"); (case e2 => walk_at "k"))
  | with_reducible refine w_dget ?_
  | ((with_reducible refine' w_dgetE ?e1 ?e5 ?_); (case e1 => walk_at "k"); (case e5 => walk_at "dl"))
  | with_reducible refine w_dput ?_
  | ((with_reducible refine' w_dputE ?e1 ?e4 ?e5 ?_); (case e1 => walk_at "k"); (case e4 => exact Nat.le_of_ble_eq_true rfl); (case e5 => walk_at "dl"))
  | with_reducible refine w_daug ?_
  | ((with_reducible refine' w_daugE ?e1 ?e5 ?_); (case e1 => walk_at "k"); (case e5 => walk_at "dl"))
  | (with_reducible refine w_disp ?_; intro p np)
  | with_reducible refine w_pairN ?_
  | (with_reducible refine w_dnewK ?_; intro p np)
  | with_reducible refine w_dnotIn ?_
  | ((with_reducible refine' w_dnotInE ?e1 ?_); (case e1 => walk_at "k"))
  | with_reducible refine w_pairC ?_
  | ((with_reducible refine' w_dspE ?e1 ?e2 ?e3 ?e4 ?_); (case e1 => walk_at "k"); (case e2 => exact rfl); (case e3 => exact Nat.le_of_ble_eq_true rfl); (case e4 => walk_at "dn"))
  | ((with_reducible refine' w_pop0 ?e1 ?_); (case e1 => walk_at "k"))
  | ((with_reducible refine' w_reprI (log_lt ?e1) ?_); (case e1 => omega))
  | with_reducible refine w_eqS ?_
  | with_reducible refine w_eqB ?_
  | with_reducible refine w_neB ?_
  | with_reducible refine w_neS ?_
  | with_reducible refine w_sl ?_
  | with_reducible refine w_noPart ?_
  | with_reducible refine w_part ?_
  | with_reducible refine w_partE ?_
  | ((with_reducible refine' w_slI (SqL.of ?e1) ?_); (case e1 => walk_at "k"); intro p np)
  | ((with_reducible refine' w_lcount (SqL.of ?e1) ?_); (case e1 => walk_at "k"))
  | ((with_reducible refine' w_popAt ?e1 ?e2 ?e3 ?e4 ?_); (case e1 => walk_at "k"); (case e2 => omega); (case e3 => omega); (case e4 => omega); intro n hn)
  | ((with_reducible refine' w_setLI ?e1 ?e2 ?e3 ?_); (case e1 => walk_at "k"); (case e2 => omega); (case e3 => (first | omega | (simp only [List.length_set]; omega))))
  | ((with_reducible refine' w_catLL ?e1 ?e2 ?e3 ?e4 ?e5 ?_); (case e1 => walk_at "k"); (case e2 => walk_at "k"); (case e3 => exact rfl); (case e4 => exact rfl); (case e5 => exact Nat.le_of_ble_eq_true rfl); intro p np; dsimp only [unV])
  | with_reducible refine w_andV ?_
  | with_reducible refine w_orV ?_
  | with_reducible refine w_notV ?_
  | with_reducible refine w_revL ?_
  | ((with_reducible refine' w_revE (SqL.of ?e1) ?_); (case e1 => walk_at "k"); intro p np)
  | with_reducible refine w_gThen ?_
  | with_reducible refine w_gWh ?_
  | with_reducible refine w_listG ?_
  | with_reducible refine w_callG ?_
  | (with_reducible refine w_listGE ?_; intro p np)
  | with_reducible refine w_gPlain ?_
  | ((with_reducible refine w_gYield ?_ ?_); omega)
  | with_reducible refine w_g0 ?_
  | with_reducible refine w_at ?_
  | with_reducible refine w_rng3 ?_
  | ((with_reducible refine' w_appendR ?e1 ?e2 ?_); (case e1 => walk_at "k"); (case e2 => omega))
  | ((with_reducible refine w_rng3N ?_ ?_); omega)
  | with_reducible refine w_sls ?_
  | with_reducible refine w_isNN ?_
  | with_reducible refine w_isNI ?_
  | with_reducible refine w_isNR ?_
  | with_reducible refine w_notNN ?_
  | with_reducible refine w_notNI ?_
  | with_reducible refine w_notNR ?_
  | with_reducible refine w_orT ?_
  | with_reducible refine w_orN ?_
  | ((with_reducible refine' w_orI ?e1 ?_); (case e1 => omega))
  | ((with_reducible refine' w_rep3 ?e1 ?_); (case e1 => walk_at "k"); intro p np)
  | ((with_reducible refine' w_appV ?e1 ?e2 ?_); (case e1 => walk_at "k"); (case e2 => exact Nat.le_of_ble_eq_true rfl))
  | refine ⟨szle rfl, fun p np => ?_⟩)
local macro_rules | `(tactic| walk_at "g") => `(tactic| repeat walk_at "1")
local macro_rules | `(tactic| walk_at "H") => `(tactic| first | walk_at "k" | fail "heap")
local macro_rules | `(tactic| walk_at "F") => `(tactic| first | walk_at "f" | fail "frame")
local macro_rules | `(tactic| walk_at "Z") => `(tactic| first | walk_at "z" | fail "free")
local macro_rules | `(tactic| walk_at "N") => `(tactic| first | walk_at "n" | fail "differ")
local macro_rules | `(tactic| walk_at "P") => `(tactic| first | walk_at "p" | fail "pool")
local macro_rules | `(tactic| walk_at "G") => `(tactic| first | walk_at "1" | fail "step")
local macro_rules | `(tactic| walk_at "c") => `(tactic| first
  | with_reducible assumption
  | ((with_reducible refine wide_div (b := 400) ?_ ?_ (by decide) (by decide)) <;> omega)
  | ((with_reducible refine wide_mul (a := 400) (b := 400) ?_ ?_ (by decide) (by decide) (by decide)) <;> omega)
  | ((with_reducible refine CPowW.of 400 (by decide) ?_ (by decide) (by decide)); omega)
  | ((with_reducible show (0 : Int) < _); first | decide | omega))
/-! ### steps about exceptions -/
local macro_rules | `(tactic| walk_at "1") => `(tactic| first
  | with_reducible refine w_try ?_
  | with_reducible refine w_callX ?_
  | with_reducible refine w_callXE ?_
  | with_reducible refine w_callXK ?_
  | ((with_reducible refine w_kwXE ?e1 ?_); (case e1 => exact rfl))
  | with_reducible refine w_methX ?_
  | with_reducible refine w_methXK ?_
  | ((with_reducible refine' w_methXE ?e1 ?e5 ?_); (case e1 => walk_at "k"); (case e5 => walk_at "fl"))
  | with_reducible refine w_mrunXE ?_
  | ((with_reducible refine w_mkwXE ?e1 ?_); (case e1 => exact rfl))
  | with_reducible refine w_makeX ?_
  | with_reducible refine w_makeXE ?_
  | with_reducible refine w_makeXK ?_
  | ((with_reducible refine w_makeXKE ?e1 ?_); (case e1 => exact rfl))
  | with_reducible refine w_raise ?_
  | with_reducible refine w_veI ?_
  | with_reducible refine w_ost ?_
  | with_reducible refine w_xfH ?_
  | ((with_reducible refine' w_xfE ?e1 ?e2 ?e3 ?_); (case e1 => walk_at "k"); (case e2 => walk_at "k"); (case e3 => walk_at "xa"))
  | ((with_reducible refine' w_isE ?e1 ?e2 ?e3 ?e4 ?e5 ?_); (case e1 => walk_at "k"); (case e2 => walk_at "k"); (case e3 => walk_at "xa"); (case e4 => (first | exact .ty _ | exact .own _)); (case e5 => walk_at "ki"))
  | ((with_reducible refine' w_isET ?e0 ?e1 ?e2 ?e3 ?e4 ?e5 ?_); (case e0 => walk_at "k"); (case e1 => walk_at "k"); (case e2 => walk_at "k"); (case e3 => walk_at "xa"); (case e4 => walk_at "cl"); (case e5 => walk_at "ka"))
  | ((with_reducible refine' w_listofT (SqT.of ?e1) ?_); (case e1 => walk_at "k"); intro p np)
  | ((with_reducible refine w_caught ?e1 ?_); (case e1 => walk_at "ex"); intro ca nca))
local macro_rules | `(tactic| walk_at "cl") => `(tactic| with_reducible first
  | exact .nil
  | (refine' Paired.cons ?e1 ?e2; (case e1 => (first | exact .ty _ | exact .own _)); (case e2 => walk_at "cl")))
local macro_rules | `(tactic| walk_at "ka") => `(tactic| first
  | exact kit_any_nil
  | (refine' kit_any_no ?e1 ?e2; (case e1 => walk_at "ki"); (case e2 => walk_at "ka"))
  | (refine' kit_any_yes ?e1; (case e1 => walk_at "ki")))
/-! ### steps about generators -/
local macro_rules | `(tactic| walk_at "1") => `(tactic| first
  | with_reducible refine w_methG ?_
  | with_reducible refine w_methGK ?_
  | with_reducible refine w_grunE ?_
  | ((with_reducible refine w_gkwE ?e1 ?_); (case e1 => exact rfl))
  | with_reducible refine w_callGK ?_
  | ((with_reducible refine w_gkw0 ?e1 ?_); (case e1 => exact rfl))
  | with_reducible refine w_gFor ?_
  | with_reducible refine w_listRg ?_
  | with_reducible refine w_rg2 ?_
  | with_reducible refine w_rg1 ?_
  | with_reducible refine w_rg2E ?_
  | with_reducible refine w_rg1E ?_
  | ((with_reducible refine w_rgLE ?e1 ?e2 ?e3 ?e4 ?_); (case e1 => omega); (case e2 => omega); (case e3 => omega); (case e4 => omega); intro p np)
  | with_reducible refine w_forGR ?_
  | with_reducible refine w_methGR ?_
  | with_reducible refine w_grunR ?_
  | with_reducible refine w_cmetX ?_
  | with_reducible refine w_cmetE ?_
  | ((with_reducible refine w_makeLX ?e1 ?_); (case e1 => exact rfl)))
/-! ### steps about generators whose consumer has a body -/
local macro_rules | `(tactic| walk_at "1") => `(tactic| first
  | with_reducible refine w_nThen ?_
  | with_reducible refine w_n0 ?_
  | with_reducible refine w_nNil ?_
  | with_reducible refine w_nAt ?_
  | with_reducible refine w_nYield ?_
  | with_reducible refine w_nWh ?_
  | with_reducible refine w_forN ?_
  | with_reducible refine w_callN ?_
  | ((with_reducible refine w_callNE ?e1 ?_); (case e1 => exact rfl))
  | with_reducible refine w_callR ?_
  | with_reducible refine w_callRE ?_
  | with_reducible refine w_forGR ?_)
/-! ### a comprehension over a generator -/
local macro_rules | `(tactic| walk_at "1") => `(tactic| first
  | with_reducible refine w_lcN ?_)
/-! ### a for within a generator whose consumer has a body; a classmethod by keywords -/
local macro_rules | `(tactic| walk_at "1") => `(tactic| first
  | with_reducible refine w_nFor ?_
  | with_reducible refine w_cmethXK ?_)
/-! ### a comprehension over zip of two generators -/
local macro_rules | `(tactic| walk_at "1") => `(tactic| first
  | with_reducible refine w_lcZ ?_)
namespace K26
open PySem PySem.Spec PyProof.Rows L2 Pg
def top (i : Nat) : Stmt := PySem.Challenge.pw_pagecounts_k26_live_books_copy.main.body.getD i (.Pass ⟨0, 0, 0, 0⟩)
abbrev s_law_draw : Stmt := (top 24)
abbrev sc_law_draw_N : List Str := ["pool", "many", "drawn", "mixed"]
theorem sc_law_draw : FnScope sc_law_draw_N ["pool", "many"] (defScope s_law_draw) := ⟨rfl, rfl, rfl, by decide +kernel, rfl, by decide +kernel, by decide +kernel⟩
abbrev s_law_length : Stmt := (top 25)
abbrev sc_law_length_N : List Str := ["pool", "far"]
theorem sc_law_length : FnScope sc_law_length_N ["pool", "far"] (defScope s_law_length) := ⟨rfl, rfl, rfl, by decide +kernel, rfl, by decide +kernel, by decide +kernel⟩
abbrev s_law_book : Stmt := (top 26)
abbrev sc_law_book_N : List Str := ["pool", "most", "far", "found", "turn"]
theorem sc_law_book : FnScope sc_law_book_N ["pool", "most", "far"] (defScope s_law_book) := ⟨rfl, rfl, rfl, by decide +kernel, rfl, by decide +kernel, by decide +kernel⟩
abbrev s_law_pool : Stmt := (top 23)
abbrev sc_law_pool_N : List Str := ["script", "at", "cell"]
theorem sc_law_pool : FnScope sc_law_pool_N ["script", "at"] (defScope s_law_pool) := ⟨rfl, rfl, rfl, by decide +kernel, rfl, by decide +kernel, by decide +kernel⟩
abbrev s_law_pages : Stmt := (top 27)
abbrev sc_law_pages_N : List Str := ["lengths", "lines_here", "one"]
theorem sc_law_pages : FnScope sc_law_pages_N ["lengths", "lines_here"] (defScope s_law_pages) := ⟨rfl, rfl, rfl, by decide +kernel, rfl, by decide +kernel, by decide +kernel⟩
abbrev s_chapter_pages : Stmt := (top 10)
abbrev sc_chapter_pages_N : List Str := ["length", "size"]
theorem sc_chapter_pages : FnScope sc_chapter_pages_N ["length", "size"] (defScope s_chapter_pages) := ⟨rfl, rfl, rfl, by decide +kernel, rfl, by decide +kernel, by decide +kernel⟩
abbrev s_count_pages : Stmt := (top 11)
abbrev sc_count_pages_N : List Str := ["book", "size", "length"]
theorem sc_count_pages : FnScope sc_count_pages_N ["book", "size"] (defScope s_count_pages) := ⟨rfl, rfl, rfl, by decide +kernel, rfl, by decide +kernel, by decide +kernel⟩
abbrev s_InvalidBook___init__ : Stmt := (inClass (top 2) 0)
abbrev sc_InvalidBook___init___N : List Str := ["self", "value"]
theorem sc_InvalidBook___init__ : FnScope sc_InvalidBook___init___N ["self", "value"] (defScope s_InvalidBook___init__) := ⟨rfl, rfl, rfl, by decide +kernel, rfl, by decide +kernel, by decide +kernel⟩
abbrev s_InvalidSize___init__ : Stmt := (inClass (top 3) 0)
abbrev sc_InvalidSize___init___N : List Str := ["self", "value"]
theorem sc_InvalidSize___init__ : FnScope sc_InvalidSize___init___N ["self", "value"] (defScope s_InvalidSize___init__) := ⟨rfl, rfl, rfl, by decide +kernel, rfl, by decide +kernel, by decide +kernel⟩
abbrev s_check_book : Stmt := (top 8)
abbrev sc_check_book_N : List Str := ["book", "index", "length"]
theorem sc_check_book : FnScope sc_check_book_N ["book"] (defScope s_check_book) := ⟨rfl, rfl, rfl, by decide +kernel, rfl, by decide +kernel, by decide +kernel⟩
abbrev s_check_size : Stmt := (top 9)
abbrev sc_check_size_N : List Str := ["size"]
theorem sc_check_size : FnScope sc_check_size_N ["size"] (defScope s_check_size) := ⟨rfl, rfl, rfl, by decide +kernel, rfl, by decide +kernel, by decide +kernel⟩
abbrev s_LiveBook___init__ : Stmt := (inClass (top 20) 0)
abbrev sc_LiveBook___init___N : List Str := ["self", "book"]
theorem sc_LiveBook___init__ : FnScope sc_LiveBook___init___N ["self", "book"] (defScope s_LiveBook___init__) := ⟨rfl, rfl, rfl, by decide +kernel, rfl, by decide +kernel, by decide +kernel⟩
abbrev s_LiveBook_add : Stmt := (inClass (top 20) 6)
abbrev sc_LiveBook_add_N : List Str := ["self", "lengths"]
theorem sc_LiveBook_add : FnScope sc_LiveBook_add_N ["self", "lengths"] (defScope s_LiveBook_add) := ⟨rfl, rfl, rfl, by decide +kernel, rfl, by decide +kernel, by decide +kernel⟩
abbrev s_LiveBook_book : Stmt := (inClass (top 20) 3)
abbrev sc_LiveBook_book_N : List Str := ["self"]
theorem sc_LiveBook_book : FnScope sc_LiveBook_book_N ["self"] (defScope s_LiveBook_book) := ⟨rfl, rfl, rfl, by decide +kernel, rfl, by decide +kernel, by decide +kernel⟩
abbrev s_InvalidNumber___init__ : Stmt := (inClass (top 5) 0)
abbrev sc_InvalidNumber___init___N : List Str := ["self", "value"]
theorem sc_InvalidNumber___init__ : FnScope sc_InvalidNumber___init___N ["self", "value"] (defScope s_InvalidNumber___init__) := ⟨rfl, rfl, rfl, by decide +kernel, rfl, by decide +kernel, by decide +kernel⟩
abbrev s_NothingToUndo___init__ : Stmt := (inClass (top 6) 0)
abbrev sc_NothingToUndo___init___N : List Str := ["self", "value"]
theorem sc_NothingToUndo___init__ : FnScope sc_NothingToUndo___init___N ["self", "value"] (defScope s_NothingToUndo___init__) := ⟨rfl, rfl, rfl, by decide +kernel, rfl, by decide +kernel, by decide +kernel⟩
abbrev s_sizes_that_differ : Stmt := (top 21)
abbrev sc_sizes_that_differ_N : List Str := ["whole", "parts", "size"]
theorem sc_sizes_that_differ : FnScope sc_sizes_that_differ_N ["whole", "parts"] (defScope s_sizes_that_differ) := ⟨rfl, rfl, rfl, by decide +kernel, rfl, by decide +kernel, by decide +kernel⟩
abbrev s_LiveBook_chapters : Stmt := (inClass (top 20) 4)
abbrev sc_LiveBook_chapters_N : List Str := ["self"]
theorem sc_LiveBook_chapters : FnScope sc_LiveBook_chapters_N ["self"] (defScope s_LiveBook_chapters) := ⟨rfl, rfl, rfl, by decide +kernel, rfl, by decide +kernel, by decide +kernel⟩
abbrev s_LiveBook_lines : Stmt := (inClass (top 20) 5)
abbrev sc_LiveBook_lines_N : List Str := ["self"]
theorem sc_LiveBook_lines : FnScope sc_LiveBook_lines_N ["self"] (defScope s_LiveBook_lines) := ⟨rfl, rfl, rfl, by decide +kernel, rfl, by decide +kernel, by decide +kernel⟩
abbrev s_LiveBook_titles : Stmt := (inClass (top 20) 10)
abbrev sc_LiveBook_titles_N : List Str := ["self", "size", "page", "length"]
theorem sc_LiveBook_titles : GScope sc_LiveBook_titles_N ["self", "size"] (defScope s_LiveBook_titles) := ⟨rfl, rfl, rfl, by decide +kernel, rfl, by decide +kernel, by decide +kernel⟩
abbrev s_LiveBook_join : Stmt := (inClass (top 20) 8)
abbrev sc_LiveBook_join_N : List Str := ["self", "chapter", "present", "parts"]
theorem sc_LiveBook_join : FnScope sc_LiveBook_join_N ["self", "chapter"] (defScope s_LiveBook_join) := ⟨rfl, rfl, rfl, by decide +kernel, rfl, by decide +kernel, by decide +kernel⟩
abbrev s_LiveBook_undo : Stmt := (inClass (top 20) 9)
abbrev sc_LiveBook_undo_N : List Str := ["self"]
theorem sc_LiveBook_undo : FnScope sc_LiveBook_undo_N ["self"] (defScope s_LiveBook_undo) := ⟨rfl, rfl, rfl, by decide +kernel, rfl, by decide +kernel, by decide +kernel⟩
abbrev s_longer_counts : Stmt := (top 15)
abbrev sc_longer_counts_N : List Str := ["table", "greatest", "chapters", "longer", "size"]
theorem sc_longer_counts : FnScope sc_longer_counts_N ["table"] (defScope s_longer_counts) := ⟨rfl, rfl, rfl, by decide +kernel, rfl, by decide +kernel, by decide +kernel⟩
abbrev s_times_of : Stmt := (top 16)
abbrev sc_times_of_N : List Str := ["table", "longer", "found", "length", "times"]
theorem sc_times_of : FnScope sc_times_of_N ["table"] (defScope s_times_of) := ⟨rfl, rfl, rfl, by decide +kernel, rfl, by decide +kernel, by decide +kernel⟩
abbrev s_lengths_of : Stmt := (top 17)
abbrev sc_lengths_of_N : List Str := ["table", "found", "length", "times"]
theorem sc_lengths_of : FnScope sc_lengths_of_N ["table"] (defScope s_lengths_of) := ⟨rfl, rfl, rfl, by decide +kernel, rfl, by decide +kernel, by decide +kernel⟩
abbrev s_law_told_right : Stmt := (top 28)
abbrev sc_law_told_right_N : List Str := ["live", "lengths", "lines_here", "starts", "page", "one"]
theorem sc_law_told_right : FnScope sc_law_told_right_N ["live", "lengths", "lines_here"] (defScope s_law_told_right) := ⟨rfl, rfl, rfl, by decide +kernel, rfl, by decide +kernel, by decide +kernel⟩
abbrev s_LiveBook_split : Stmt := (inClass (top 20) 7)
abbrev sc_LiveBook_split_N : List Str := ["self", "chapter", "line", "present", "length", "parts"]
theorem sc_LiveBook_split : FnScope sc_LiveBook_split_N ["self", "chapter", "line"] (defScope s_LiveBook_split) := ⟨rfl, rfl, rfl, by decide +kernel, rfl, by decide +kernel, by decide +kernel⟩
abbrev s_LiveBook_from_table : Stmt := (inClass (top 20) 2)
abbrev sc_LiveBook_from_table_N : List Str := ["cls", "table"]
theorem sc_LiveBook_from_table : FnScope sc_LiveBook_from_table_N ["cls", "table"] (defScope s_LiveBook_from_table) := ⟨rfl, rfl, rfl, by decide +kernel, rfl, by decide +kernel, by decide +kernel⟩
abbrev s_law_right : Stmt := (top 29)
abbrev sc_law_right_N : List Str := ["pool", "lengths", "passed", "due", "by_table", "made", "other", "held", "kept", "here", "turn", "one", "at", "lines_here", "pairs", "two", "number"]
theorem sc_law_right : FnScope sc_law_right_N ["pool"] (defScope s_law_right) := ⟨rfl, rfl, rfl, by decide +kernel, rfl, by decide +kernel, by decide +kernel⟩
abbrev s_law : Stmt := (top 30)
abbrev sc_law_N : List Str := ["script", "at", "pool", "turn"]
theorem sc_law : FnScope sc_law_N ["script"] (defScope s_law) := ⟨rfl, rfl, rfl, by decide +kernel, rfl, by decide +kernel, by decide +kernel⟩
theorem LiveBook_get_past (a0 : V) : List.lookup ("past" : Str) ([("past", a0)] : List (Str × V)) = some a0 := by
  exact lk_eq
theorem LiveBook_put_past (v : V) (a0 : V) : putF ("past" : Str) v ([("past", a0)] : List (Str × V)) = ([("past", v)] : List (Str × V)) := by
  rw [putF_eq]
theorem LiveBook_ini_past (v : V)  : putF ("past" : Str) v ([] : List (Str × V)) = ([("past", v)] : List (Str × V)) := by
  rfl
theorem LiveBook_no_add (a0 : V) : List.lookup ("add" : Str) ([("past", a0)] : List (Str × V)) = none := by
  rw [lk_ne (by decide +kernel)]
  rfl
theorem LiveBook_no_titles (a0 : V) : List.lookup ("titles" : Str) ([("past", a0)] : List (Str × V)) = none := by
  rw [lk_ne (by decide +kernel)]
  rfl
theorem LiveBook_no_join (a0 : V) : List.lookup ("join" : Str) ([("past", a0)] : List (Str × V)) = none := by
  rw [lk_ne (by decide +kernel)]
  rfl
theorem LiveBook_no_undo (a0 : V) : List.lookup ("undo" : Str) ([("past", a0)] : List (Str × V)) = none := by
  rw [lk_ne (by decide +kernel)]
  rfl
theorem LiveBook_no_split (a0 : V) : List.lookup ("split" : Str) ([("past", a0)] : List (Str × V)) = none := by
  rw [lk_ne (by decide +kernel)]
  rfl
theorem LiveBook_no_from_table (a0 : V) : List.lookup ("from_table" : Str) ([("past", a0)] : List (Str × V)) = none := by
  rw [lk_ne (by decide +kernel)]
  rfl
local macro_rules | `(tactic| walk_at "fl") => `(tactic| first
  | exact LiveBook_get_past _
  | exact LiveBook_put_past _ _
  | exact LiveBook_ini_past _ 
  | exact LiveBook_no_add _
  | exact LiveBook_no_titles _
  | exact LiveBook_no_join _
  | exact LiveBook_no_undo _
  | exact LiveBook_no_split _
  | exact LiveBook_no_from_table _)
/-- where the classes stand -/
structure Cs where
  LiveBook : Addr
  InvalidBook : Addr
  InvalidNumber : Addr
  InvalidSize : Addr
  InvalidTable : Addr
  NothingToUndo : Addr
  BookError : Addr
  nil_ : Unit
/-- what the top has written -/
structure Txt (K : PySem.W.Frag) (mg : Str → Option Value) (c : Cs) : Prop where
  triv_ : True
  n_abs : mg "abs" = none
  n_enumerate : mg "enumerate" = none
  n_len : mg "len" = none
  n_list : mg "list" = none
  n_max : mg "max" = none
  n_min : mg "min" = none
  n_range : mg "range" = none
  n_repr : mg "repr" = none
  n_sorted : mg "sorted" = none
  n_sum : mg "sum" = none
  n_zip : mg "zip" = none
  c_MOST_SIZE : ∃ t, mg "MOST_SIZE" = some (.int 100 t)
  k_LiveBook : ClsAt K mg "LiveBook" c.LiveBook
  na_LiveBook_past : NoAttr K c.LiveBook "past"
  xb_ : ExBase K mg "BookError" c.BookError
  xd_ : PySem.W.hasDictIn K c.BookError = true
  xt_ : PySem.W.typeIn K (.ref c.BookError) = some (.type "type")
  xe_ : PySem.W.subIn K (.ref c.BookError) (.type "BaseException") = some true
  x_InvalidBook : ExAt K mg "InvalidBook" c.InvalidBook
  x_InvalidNumber : ExAt K mg "InvalidNumber" c.InvalidNumber
  x_InvalidSize : ExAt K mg "InvalidSize" c.InvalidSize
  x_InvalidTable : ExAt K mg "InvalidTable" c.InvalidTable
  x_NothingToUndo : ExAt K mg "NothingToUndo" c.NothingToUndo
  sb_InvalidBook_InvalidBook : PySem.W.subIn K (.ref c.InvalidBook) (.ref c.InvalidBook) = some true
  sb_InvalidBook_InvalidNumber : PySem.W.subIn K (.ref c.InvalidBook) (.ref c.InvalidNumber) = some false
  sb_InvalidBook_InvalidSize : PySem.W.subIn K (.ref c.InvalidBook) (.ref c.InvalidSize) = some false
  sb_InvalidBook_InvalidTable : PySem.W.subIn K (.ref c.InvalidBook) (.ref c.InvalidTable) = some false
  sb_InvalidBook_NothingToUndo : PySem.W.subIn K (.ref c.InvalidBook) (.ref c.NothingToUndo) = some false
  sb_InvalidBook_BookError : PySem.W.subIn K (.ref c.InvalidBook) (.ref c.BookError) = some true
  sb_InvalidBook_ValueError : PySem.W.subIn K (.ref c.InvalidBook) (.type "ValueError") = some true
  sb_InvalidNumber_InvalidBook : PySem.W.subIn K (.ref c.InvalidNumber) (.ref c.InvalidBook) = some false
  sb_InvalidNumber_InvalidNumber : PySem.W.subIn K (.ref c.InvalidNumber) (.ref c.InvalidNumber) = some true
  sb_InvalidNumber_InvalidSize : PySem.W.subIn K (.ref c.InvalidNumber) (.ref c.InvalidSize) = some false
  sb_InvalidNumber_InvalidTable : PySem.W.subIn K (.ref c.InvalidNumber) (.ref c.InvalidTable) = some false
  sb_InvalidNumber_NothingToUndo : PySem.W.subIn K (.ref c.InvalidNumber) (.ref c.NothingToUndo) = some false
  sb_InvalidNumber_BookError : PySem.W.subIn K (.ref c.InvalidNumber) (.ref c.BookError) = some true
  sb_InvalidNumber_ValueError : PySem.W.subIn K (.ref c.InvalidNumber) (.type "ValueError") = some true
  sb_InvalidSize_InvalidBook : PySem.W.subIn K (.ref c.InvalidSize) (.ref c.InvalidBook) = some false
  sb_InvalidSize_InvalidNumber : PySem.W.subIn K (.ref c.InvalidSize) (.ref c.InvalidNumber) = some false
  sb_InvalidSize_InvalidSize : PySem.W.subIn K (.ref c.InvalidSize) (.ref c.InvalidSize) = some true
  sb_InvalidSize_InvalidTable : PySem.W.subIn K (.ref c.InvalidSize) (.ref c.InvalidTable) = some false
  sb_InvalidSize_NothingToUndo : PySem.W.subIn K (.ref c.InvalidSize) (.ref c.NothingToUndo) = some false
  sb_InvalidSize_BookError : PySem.W.subIn K (.ref c.InvalidSize) (.ref c.BookError) = some true
  sb_InvalidSize_ValueError : PySem.W.subIn K (.ref c.InvalidSize) (.type "ValueError") = some true
  sb_NothingToUndo_InvalidBook : PySem.W.subIn K (.ref c.NothingToUndo) (.ref c.InvalidBook) = some false
  sb_NothingToUndo_InvalidNumber : PySem.W.subIn K (.ref c.NothingToUndo) (.ref c.InvalidNumber) = some false
  sb_NothingToUndo_InvalidSize : PySem.W.subIn K (.ref c.NothingToUndo) (.ref c.InvalidSize) = some false
  sb_NothingToUndo_InvalidTable : PySem.W.subIn K (.ref c.NothingToUndo) (.ref c.InvalidTable) = some false
  sb_NothingToUndo_NothingToUndo : PySem.W.subIn K (.ref c.NothingToUndo) (.ref c.NothingToUndo) = some true
  sb_NothingToUndo_BookError : PySem.W.subIn K (.ref c.NothingToUndo) (.ref c.BookError) = some true
  sb_NothingToUndo_ValueError : PySem.W.subIn K (.ref c.NothingToUndo) (.type "ValueError") = some true
  f_law_draw : FunAt K mg "_law_draw" s_law_draw
  f_law_length : FunAt K mg "_law_length" s_law_length
  f_law_book : FunAt K mg "_law_book" s_law_book
  f_law_pool : FunAt K mg "_law_pool" s_law_pool
  f_law_pages : FunAt K mg "_law_pages" s_law_pages
  f_chapter_pages : FunAt K mg "chapter_pages" s_chapter_pages
  f_count_pages : FunAt K mg "count_pages" s_count_pages
  f_InvalidBook___init__ : MethAt K c.InvalidBook "__init__" "InvalidBook.__init__" s_InvalidBook___init__
  f_InvalidSize___init__ : MethAt K c.InvalidSize "__init__" "InvalidSize.__init__" s_InvalidSize___init__
  f_check_book : FunAt K mg "check_book" s_check_book
  f_check_size : FunAt K mg "check_size" s_check_size
  f_LiveBook___init__ : MethAt K c.LiveBook "__init__" "LiveBook.__init__" s_LiveBook___init__
  f_LiveBook_add : MethAt K c.LiveBook "add" "LiveBook.add" s_LiveBook_add
  f_LiveBook_book : PropAt K c.LiveBook "book" "LiveBook.book" s_LiveBook_book
  f_InvalidNumber___init__ : MethAt K c.InvalidNumber "__init__" "InvalidNumber.__init__" s_InvalidNumber___init__
  f_NothingToUndo___init__ : MethAt K c.NothingToUndo "__init__" "NothingToUndo.__init__" s_NothingToUndo___init__
  f_sizes_that_differ : FunAt K mg "sizes_that_differ" s_sizes_that_differ
  f_LiveBook_chapters : PropAt K c.LiveBook "chapters" "LiveBook.chapters" s_LiveBook_chapters
  f_LiveBook_lines : PropAt K c.LiveBook "lines" "LiveBook.lines" s_LiveBook_lines
  f_LiveBook_titles : MethAt K c.LiveBook "titles" "LiveBook.titles" s_LiveBook_titles
  f_LiveBook_join : MethAt K c.LiveBook "join" "LiveBook.join" s_LiveBook_join
  f_LiveBook_undo : MethAt K c.LiveBook "undo" "LiveBook.undo" s_LiveBook_undo
  f_longer_counts : FunAt K mg "longer_counts" s_longer_counts
  f_times_of : FunAt K mg "times_of" s_times_of
  f_lengths_of : FunAt K mg "lengths_of" s_lengths_of
  f_law_told_right : FunAt K mg "_law_told_right" s_law_told_right
  f_LiveBook_split : MethAt K c.LiveBook "split" "LiveBook.split" s_LiveBook_split
  f_LiveBook_from_table : CMethAt K c.LiveBook "from_table" "LiveBook.from_table" s_LiveBook_from_table
  f_law_right : FunAt K mg "_law_right" s_law_right
  f_law : FunAt K mg "law" s_law
theorem kit_InvalidBook_InvalidBook {K : PySem.W.Frag} {mg : Str → Option Value} {c : Cs} (T : Txt K mg c) : PySem.W.kitOne K (.ref c.InvalidBook) (.ref c.InvalidBook) = some true := kit_ex T.x_InvalidBook.hd T.x_InvalidBook.o.tyC T.sb_InvalidBook_InvalidBook T.sb_InvalidBook_InvalidBook
theorem exm_InvalidBook_InvalidBook {K : PySem.W.Frag} {mg : Str → Option Value} {c : Cs} (T : Txt K mg c) : PySem.W.exmOne K (.ref c.InvalidBook) (.ref c.InvalidBook) = some true := PySem.W.exm_ref T.x_InvalidBook.o.exC T.x_InvalidBook.hd T.x_InvalidBook.o.tyC T.sb_InvalidBook_InvalidBook
theorem kit_InvalidBook_InvalidNumber {K : PySem.W.Frag} {mg : Str → Option Value} {c : Cs} (T : Txt K mg c) : PySem.W.kitOne K (.ref c.InvalidBook) (.ref c.InvalidNumber) = some false := kit_ex T.x_InvalidNumber.hd T.x_InvalidNumber.o.tyC T.sb_InvalidBook_InvalidBook T.sb_InvalidBook_InvalidNumber
theorem exm_InvalidBook_InvalidNumber {K : PySem.W.Frag} {mg : Str → Option Value} {c : Cs} (T : Txt K mg c) : PySem.W.exmOne K (.ref c.InvalidBook) (.ref c.InvalidNumber) = some false := PySem.W.exm_ref T.x_InvalidNumber.o.exC T.x_InvalidNumber.hd T.x_InvalidNumber.o.tyC T.sb_InvalidBook_InvalidNumber
theorem kit_InvalidBook_InvalidSize {K : PySem.W.Frag} {mg : Str → Option Value} {c : Cs} (T : Txt K mg c) : PySem.W.kitOne K (.ref c.InvalidBook) (.ref c.InvalidSize) = some false := kit_ex T.x_InvalidSize.hd T.x_InvalidSize.o.tyC T.sb_InvalidBook_InvalidBook T.sb_InvalidBook_InvalidSize
theorem exm_InvalidBook_InvalidSize {K : PySem.W.Frag} {mg : Str → Option Value} {c : Cs} (T : Txt K mg c) : PySem.W.exmOne K (.ref c.InvalidBook) (.ref c.InvalidSize) = some false := PySem.W.exm_ref T.x_InvalidSize.o.exC T.x_InvalidSize.hd T.x_InvalidSize.o.tyC T.sb_InvalidBook_InvalidSize
theorem kit_InvalidBook_InvalidTable {K : PySem.W.Frag} {mg : Str → Option Value} {c : Cs} (T : Txt K mg c) : PySem.W.kitOne K (.ref c.InvalidBook) (.ref c.InvalidTable) = some false := kit_ex T.x_InvalidTable.hd T.x_InvalidTable.o.tyC T.sb_InvalidBook_InvalidBook T.sb_InvalidBook_InvalidTable
theorem exm_InvalidBook_InvalidTable {K : PySem.W.Frag} {mg : Str → Option Value} {c : Cs} (T : Txt K mg c) : PySem.W.exmOne K (.ref c.InvalidBook) (.ref c.InvalidTable) = some false := PySem.W.exm_ref T.x_InvalidTable.o.exC T.x_InvalidTable.hd T.x_InvalidTable.o.tyC T.sb_InvalidBook_InvalidTable
theorem kit_InvalidBook_NothingToUndo {K : PySem.W.Frag} {mg : Str → Option Value} {c : Cs} (T : Txt K mg c) : PySem.W.kitOne K (.ref c.InvalidBook) (.ref c.NothingToUndo) = some false := kit_ex T.x_NothingToUndo.hd T.x_NothingToUndo.o.tyC T.sb_InvalidBook_InvalidBook T.sb_InvalidBook_NothingToUndo
theorem exm_InvalidBook_NothingToUndo {K : PySem.W.Frag} {mg : Str → Option Value} {c : Cs} (T : Txt K mg c) : PySem.W.exmOne K (.ref c.InvalidBook) (.ref c.NothingToUndo) = some false := PySem.W.exm_ref T.x_NothingToUndo.o.exC T.x_NothingToUndo.hd T.x_NothingToUndo.o.tyC T.sb_InvalidBook_NothingToUndo
theorem kit_InvalidBook_BookError {K : PySem.W.Frag} {mg : Str → Option Value} {c : Cs} (T : Txt K mg c) : PySem.W.kitOne K (.ref c.InvalidBook) (.ref c.BookError) = some true := kit_ex T.xd_ T.xt_ T.sb_InvalidBook_InvalidBook T.sb_InvalidBook_BookError
theorem exm_InvalidBook_BookError {K : PySem.W.Frag} {mg : Str → Option Value} {c : Cs} (T : Txt K mg c) : PySem.W.exmOne K (.ref c.InvalidBook) (.ref c.BookError) = some true := PySem.W.exm_ref T.xe_ T.xd_ T.xt_ T.sb_InvalidBook_BookError
theorem kit_InvalidBook_ValueError {K : PySem.W.Frag} {mg : Str → Option Value} {c : Cs} (T : Txt K mg c) : PySem.W.kitOne K (.ref c.InvalidBook) (.type "ValueError") = some true := kit_exT (by decide +kernel) T.sb_InvalidBook_ValueError
theorem kit_InvalidNumber_InvalidBook {K : PySem.W.Frag} {mg : Str → Option Value} {c : Cs} (T : Txt K mg c) : PySem.W.kitOne K (.ref c.InvalidNumber) (.ref c.InvalidBook) = some false := kit_ex T.x_InvalidBook.hd T.x_InvalidBook.o.tyC T.sb_InvalidNumber_InvalidNumber T.sb_InvalidNumber_InvalidBook
theorem exm_InvalidNumber_InvalidBook {K : PySem.W.Frag} {mg : Str → Option Value} {c : Cs} (T : Txt K mg c) : PySem.W.exmOne K (.ref c.InvalidNumber) (.ref c.InvalidBook) = some false := PySem.W.exm_ref T.x_InvalidBook.o.exC T.x_InvalidBook.hd T.x_InvalidBook.o.tyC T.sb_InvalidNumber_InvalidBook
theorem kit_InvalidNumber_InvalidNumber {K : PySem.W.Frag} {mg : Str → Option Value} {c : Cs} (T : Txt K mg c) : PySem.W.kitOne K (.ref c.InvalidNumber) (.ref c.InvalidNumber) = some true := kit_ex T.x_InvalidNumber.hd T.x_InvalidNumber.o.tyC T.sb_InvalidNumber_InvalidNumber T.sb_InvalidNumber_InvalidNumber
theorem exm_InvalidNumber_InvalidNumber {K : PySem.W.Frag} {mg : Str → Option Value} {c : Cs} (T : Txt K mg c) : PySem.W.exmOne K (.ref c.InvalidNumber) (.ref c.InvalidNumber) = some true := PySem.W.exm_ref T.x_InvalidNumber.o.exC T.x_InvalidNumber.hd T.x_InvalidNumber.o.tyC T.sb_InvalidNumber_InvalidNumber
theorem kit_InvalidNumber_InvalidSize {K : PySem.W.Frag} {mg : Str → Option Value} {c : Cs} (T : Txt K mg c) : PySem.W.kitOne K (.ref c.InvalidNumber) (.ref c.InvalidSize) = some false := kit_ex T.x_InvalidSize.hd T.x_InvalidSize.o.tyC T.sb_InvalidNumber_InvalidNumber T.sb_InvalidNumber_InvalidSize
theorem exm_InvalidNumber_InvalidSize {K : PySem.W.Frag} {mg : Str → Option Value} {c : Cs} (T : Txt K mg c) : PySem.W.exmOne K (.ref c.InvalidNumber) (.ref c.InvalidSize) = some false := PySem.W.exm_ref T.x_InvalidSize.o.exC T.x_InvalidSize.hd T.x_InvalidSize.o.tyC T.sb_InvalidNumber_InvalidSize
theorem kit_InvalidNumber_InvalidTable {K : PySem.W.Frag} {mg : Str → Option Value} {c : Cs} (T : Txt K mg c) : PySem.W.kitOne K (.ref c.InvalidNumber) (.ref c.InvalidTable) = some false := kit_ex T.x_InvalidTable.hd T.x_InvalidTable.o.tyC T.sb_InvalidNumber_InvalidNumber T.sb_InvalidNumber_InvalidTable
theorem exm_InvalidNumber_InvalidTable {K : PySem.W.Frag} {mg : Str → Option Value} {c : Cs} (T : Txt K mg c) : PySem.W.exmOne K (.ref c.InvalidNumber) (.ref c.InvalidTable) = some false := PySem.W.exm_ref T.x_InvalidTable.o.exC T.x_InvalidTable.hd T.x_InvalidTable.o.tyC T.sb_InvalidNumber_InvalidTable
theorem kit_InvalidNumber_NothingToUndo {K : PySem.W.Frag} {mg : Str → Option Value} {c : Cs} (T : Txt K mg c) : PySem.W.kitOne K (.ref c.InvalidNumber) (.ref c.NothingToUndo) = some false := kit_ex T.x_NothingToUndo.hd T.x_NothingToUndo.o.tyC T.sb_InvalidNumber_InvalidNumber T.sb_InvalidNumber_NothingToUndo
theorem exm_InvalidNumber_NothingToUndo {K : PySem.W.Frag} {mg : Str → Option Value} {c : Cs} (T : Txt K mg c) : PySem.W.exmOne K (.ref c.InvalidNumber) (.ref c.NothingToUndo) = some false := PySem.W.exm_ref T.x_NothingToUndo.o.exC T.x_NothingToUndo.hd T.x_NothingToUndo.o.tyC T.sb_InvalidNumber_NothingToUndo
theorem kit_InvalidNumber_BookError {K : PySem.W.Frag} {mg : Str → Option Value} {c : Cs} (T : Txt K mg c) : PySem.W.kitOne K (.ref c.InvalidNumber) (.ref c.BookError) = some true := kit_ex T.xd_ T.xt_ T.sb_InvalidNumber_InvalidNumber T.sb_InvalidNumber_BookError
theorem exm_InvalidNumber_BookError {K : PySem.W.Frag} {mg : Str → Option Value} {c : Cs} (T : Txt K mg c) : PySem.W.exmOne K (.ref c.InvalidNumber) (.ref c.BookError) = some true := PySem.W.exm_ref T.xe_ T.xd_ T.xt_ T.sb_InvalidNumber_BookError
theorem kit_InvalidNumber_ValueError {K : PySem.W.Frag} {mg : Str → Option Value} {c : Cs} (T : Txt K mg c) : PySem.W.kitOne K (.ref c.InvalidNumber) (.type "ValueError") = some true := kit_exT (by decide +kernel) T.sb_InvalidNumber_ValueError
theorem kit_InvalidSize_InvalidBook {K : PySem.W.Frag} {mg : Str → Option Value} {c : Cs} (T : Txt K mg c) : PySem.W.kitOne K (.ref c.InvalidSize) (.ref c.InvalidBook) = some false := kit_ex T.x_InvalidBook.hd T.x_InvalidBook.o.tyC T.sb_InvalidSize_InvalidSize T.sb_InvalidSize_InvalidBook
theorem exm_InvalidSize_InvalidBook {K : PySem.W.Frag} {mg : Str → Option Value} {c : Cs} (T : Txt K mg c) : PySem.W.exmOne K (.ref c.InvalidSize) (.ref c.InvalidBook) = some false := PySem.W.exm_ref T.x_InvalidBook.o.exC T.x_InvalidBook.hd T.x_InvalidBook.o.tyC T.sb_InvalidSize_InvalidBook
theorem kit_InvalidSize_InvalidNumber {K : PySem.W.Frag} {mg : Str → Option Value} {c : Cs} (T : Txt K mg c) : PySem.W.kitOne K (.ref c.InvalidSize) (.ref c.InvalidNumber) = some false := kit_ex T.x_InvalidNumber.hd T.x_InvalidNumber.o.tyC T.sb_InvalidSize_InvalidSize T.sb_InvalidSize_InvalidNumber
theorem exm_InvalidSize_InvalidNumber {K : PySem.W.Frag} {mg : Str → Option Value} {c : Cs} (T : Txt K mg c) : PySem.W.exmOne K (.ref c.InvalidSize) (.ref c.InvalidNumber) = some false := PySem.W.exm_ref T.x_InvalidNumber.o.exC T.x_InvalidNumber.hd T.x_InvalidNumber.o.tyC T.sb_InvalidSize_InvalidNumber
theorem kit_InvalidSize_InvalidSize {K : PySem.W.Frag} {mg : Str → Option Value} {c : Cs} (T : Txt K mg c) : PySem.W.kitOne K (.ref c.InvalidSize) (.ref c.InvalidSize) = some true := kit_ex T.x_InvalidSize.hd T.x_InvalidSize.o.tyC T.sb_InvalidSize_InvalidSize T.sb_InvalidSize_InvalidSize
theorem exm_InvalidSize_InvalidSize {K : PySem.W.Frag} {mg : Str → Option Value} {c : Cs} (T : Txt K mg c) : PySem.W.exmOne K (.ref c.InvalidSize) (.ref c.InvalidSize) = some true := PySem.W.exm_ref T.x_InvalidSize.o.exC T.x_InvalidSize.hd T.x_InvalidSize.o.tyC T.sb_InvalidSize_InvalidSize
theorem kit_InvalidSize_InvalidTable {K : PySem.W.Frag} {mg : Str → Option Value} {c : Cs} (T : Txt K mg c) : PySem.W.kitOne K (.ref c.InvalidSize) (.ref c.InvalidTable) = some false := kit_ex T.x_InvalidTable.hd T.x_InvalidTable.o.tyC T.sb_InvalidSize_InvalidSize T.sb_InvalidSize_InvalidTable
theorem exm_InvalidSize_InvalidTable {K : PySem.W.Frag} {mg : Str → Option Value} {c : Cs} (T : Txt K mg c) : PySem.W.exmOne K (.ref c.InvalidSize) (.ref c.InvalidTable) = some false := PySem.W.exm_ref T.x_InvalidTable.o.exC T.x_InvalidTable.hd T.x_InvalidTable.o.tyC T.sb_InvalidSize_InvalidTable
theorem kit_InvalidSize_NothingToUndo {K : PySem.W.Frag} {mg : Str → Option Value} {c : Cs} (T : Txt K mg c) : PySem.W.kitOne K (.ref c.InvalidSize) (.ref c.NothingToUndo) = some false := kit_ex T.x_NothingToUndo.hd T.x_NothingToUndo.o.tyC T.sb_InvalidSize_InvalidSize T.sb_InvalidSize_NothingToUndo
theorem exm_InvalidSize_NothingToUndo {K : PySem.W.Frag} {mg : Str → Option Value} {c : Cs} (T : Txt K mg c) : PySem.W.exmOne K (.ref c.InvalidSize) (.ref c.NothingToUndo) = some false := PySem.W.exm_ref T.x_NothingToUndo.o.exC T.x_NothingToUndo.hd T.x_NothingToUndo.o.tyC T.sb_InvalidSize_NothingToUndo
theorem kit_InvalidSize_BookError {K : PySem.W.Frag} {mg : Str → Option Value} {c : Cs} (T : Txt K mg c) : PySem.W.kitOne K (.ref c.InvalidSize) (.ref c.BookError) = some true := kit_ex T.xd_ T.xt_ T.sb_InvalidSize_InvalidSize T.sb_InvalidSize_BookError
theorem exm_InvalidSize_BookError {K : PySem.W.Frag} {mg : Str → Option Value} {c : Cs} (T : Txt K mg c) : PySem.W.exmOne K (.ref c.InvalidSize) (.ref c.BookError) = some true := PySem.W.exm_ref T.xe_ T.xd_ T.xt_ T.sb_InvalidSize_BookError
theorem kit_InvalidSize_ValueError {K : PySem.W.Frag} {mg : Str → Option Value} {c : Cs} (T : Txt K mg c) : PySem.W.kitOne K (.ref c.InvalidSize) (.type "ValueError") = some true := kit_exT (by decide +kernel) T.sb_InvalidSize_ValueError
theorem kit_NothingToUndo_InvalidBook {K : PySem.W.Frag} {mg : Str → Option Value} {c : Cs} (T : Txt K mg c) : PySem.W.kitOne K (.ref c.NothingToUndo) (.ref c.InvalidBook) = some false := kit_ex T.x_InvalidBook.hd T.x_InvalidBook.o.tyC T.sb_NothingToUndo_NothingToUndo T.sb_NothingToUndo_InvalidBook
theorem exm_NothingToUndo_InvalidBook {K : PySem.W.Frag} {mg : Str → Option Value} {c : Cs} (T : Txt K mg c) : PySem.W.exmOne K (.ref c.NothingToUndo) (.ref c.InvalidBook) = some false := PySem.W.exm_ref T.x_InvalidBook.o.exC T.x_InvalidBook.hd T.x_InvalidBook.o.tyC T.sb_NothingToUndo_InvalidBook
theorem kit_NothingToUndo_InvalidNumber {K : PySem.W.Frag} {mg : Str → Option Value} {c : Cs} (T : Txt K mg c) : PySem.W.kitOne K (.ref c.NothingToUndo) (.ref c.InvalidNumber) = some false := kit_ex T.x_InvalidNumber.hd T.x_InvalidNumber.o.tyC T.sb_NothingToUndo_NothingToUndo T.sb_NothingToUndo_InvalidNumber
theorem exm_NothingToUndo_InvalidNumber {K : PySem.W.Frag} {mg : Str → Option Value} {c : Cs} (T : Txt K mg c) : PySem.W.exmOne K (.ref c.NothingToUndo) (.ref c.InvalidNumber) = some false := PySem.W.exm_ref T.x_InvalidNumber.o.exC T.x_InvalidNumber.hd T.x_InvalidNumber.o.tyC T.sb_NothingToUndo_InvalidNumber
theorem kit_NothingToUndo_InvalidSize {K : PySem.W.Frag} {mg : Str → Option Value} {c : Cs} (T : Txt K mg c) : PySem.W.kitOne K (.ref c.NothingToUndo) (.ref c.InvalidSize) = some false := kit_ex T.x_InvalidSize.hd T.x_InvalidSize.o.tyC T.sb_NothingToUndo_NothingToUndo T.sb_NothingToUndo_InvalidSize
theorem exm_NothingToUndo_InvalidSize {K : PySem.W.Frag} {mg : Str → Option Value} {c : Cs} (T : Txt K mg c) : PySem.W.exmOne K (.ref c.NothingToUndo) (.ref c.InvalidSize) = some false := PySem.W.exm_ref T.x_InvalidSize.o.exC T.x_InvalidSize.hd T.x_InvalidSize.o.tyC T.sb_NothingToUndo_InvalidSize
theorem kit_NothingToUndo_InvalidTable {K : PySem.W.Frag} {mg : Str → Option Value} {c : Cs} (T : Txt K mg c) : PySem.W.kitOne K (.ref c.NothingToUndo) (.ref c.InvalidTable) = some false := kit_ex T.x_InvalidTable.hd T.x_InvalidTable.o.tyC T.sb_NothingToUndo_NothingToUndo T.sb_NothingToUndo_InvalidTable
theorem exm_NothingToUndo_InvalidTable {K : PySem.W.Frag} {mg : Str → Option Value} {c : Cs} (T : Txt K mg c) : PySem.W.exmOne K (.ref c.NothingToUndo) (.ref c.InvalidTable) = some false := PySem.W.exm_ref T.x_InvalidTable.o.exC T.x_InvalidTable.hd T.x_InvalidTable.o.tyC T.sb_NothingToUndo_InvalidTable
theorem kit_NothingToUndo_NothingToUndo {K : PySem.W.Frag} {mg : Str → Option Value} {c : Cs} (T : Txt K mg c) : PySem.W.kitOne K (.ref c.NothingToUndo) (.ref c.NothingToUndo) = some true := kit_ex T.x_NothingToUndo.hd T.x_NothingToUndo.o.tyC T.sb_NothingToUndo_NothingToUndo T.sb_NothingToUndo_NothingToUndo
theorem exm_NothingToUndo_NothingToUndo {K : PySem.W.Frag} {mg : Str → Option Value} {c : Cs} (T : Txt K mg c) : PySem.W.exmOne K (.ref c.NothingToUndo) (.ref c.NothingToUndo) = some true := PySem.W.exm_ref T.x_NothingToUndo.o.exC T.x_NothingToUndo.hd T.x_NothingToUndo.o.tyC T.sb_NothingToUndo_NothingToUndo
theorem kit_NothingToUndo_BookError {K : PySem.W.Frag} {mg : Str → Option Value} {c : Cs} (T : Txt K mg c) : PySem.W.kitOne K (.ref c.NothingToUndo) (.ref c.BookError) = some true := kit_ex T.xd_ T.xt_ T.sb_NothingToUndo_NothingToUndo T.sb_NothingToUndo_BookError
theorem exm_NothingToUndo_BookError {K : PySem.W.Frag} {mg : Str → Option Value} {c : Cs} (T : Txt K mg c) : PySem.W.exmOne K (.ref c.NothingToUndo) (.ref c.BookError) = some true := PySem.W.exm_ref T.xe_ T.xd_ T.xt_ T.sb_NothingToUndo_BookError
theorem kit_NothingToUndo_ValueError {K : PySem.W.Frag} {mg : Str → Option Value} {c : Cs} (T : Txt K mg c) : PySem.W.kitOne K (.ref c.NothingToUndo) (.type "ValueError") = some true := kit_exT (by decide +kernel) T.sb_NothingToUndo_ValueError
local macro_rules | `(tactic| walk_at "ki") => `(tactic| first
  | exact kit_InvalidBook_InvalidBook (by assumption)
  | exact kit_InvalidBook_InvalidNumber (by assumption)
  | exact kit_InvalidBook_InvalidSize (by assumption)
  | exact kit_InvalidBook_InvalidTable (by assumption)
  | exact kit_InvalidBook_NothingToUndo (by assumption)
  | exact kit_InvalidBook_BookError (by assumption)
  | exact kit_InvalidBook_ValueError (by assumption)
  | exact kit_InvalidNumber_InvalidBook (by assumption)
  | exact kit_InvalidNumber_InvalidNumber (by assumption)
  | exact kit_InvalidNumber_InvalidSize (by assumption)
  | exact kit_InvalidNumber_InvalidTable (by assumption)
  | exact kit_InvalidNumber_NothingToUndo (by assumption)
  | exact kit_InvalidNumber_BookError (by assumption)
  | exact kit_InvalidNumber_ValueError (by assumption)
  | exact kit_InvalidSize_InvalidBook (by assumption)
  | exact kit_InvalidSize_InvalidNumber (by assumption)
  | exact kit_InvalidSize_InvalidSize (by assumption)
  | exact kit_InvalidSize_InvalidTable (by assumption)
  | exact kit_InvalidSize_NothingToUndo (by assumption)
  | exact kit_InvalidSize_BookError (by assumption)
  | exact kit_InvalidSize_ValueError (by assumption)
  | exact kit_NothingToUndo_InvalidBook (by assumption)
  | exact kit_NothingToUndo_InvalidNumber (by assumption)
  | exact kit_NothingToUndo_InvalidSize (by assumption)
  | exact kit_NothingToUndo_InvalidTable (by assumption)
  | exact kit_NothingToUndo_NothingToUndo (by assumption)
  | exact kit_NothingToUndo_BookError (by assumption)
  | exact kit_NothingToUndo_ValueError (by assumption))
local macro_rules | `(tactic| walk_at "ex") => `(tactic| first
  | exact exm_InvalidBook_InvalidBook (by assumption)
  | exact exm_InvalidBook_BookError (by assumption)
  | exact exm_InvalidNumber_InvalidNumber (by assumption)
  | exact exm_InvalidNumber_BookError (by assumption)
  | exact exm_InvalidSize_InvalidSize (by assumption)
  | exact exm_InvalidSize_BookError (by assumption)
  | exact exm_NothingToUndo_NothingToUndo (by assumption)
  | exact exm_NothingToUndo_BookError (by assumption))
local macro_rules | `(tactic| walk_at "xa") => `(tactic| first
  | exact Txt.x_InvalidBook (by assumption)
  | exact Txt.x_InvalidNumber (by assumption)
  | exact Txt.x_InvalidSize (by assumption)
  | exact Txt.x_NothingToUndo (by assumption))
def spLaw (K : PySem.W.Frag) : Sp := fun vs H Q _ => ∃ (a : Addr) (ns : List Int), vs = [.ref a] ∧ SqL K H a (ns.map V.int) ∧ ns.length ≤ 63 ∧ (∀ z ∈ ns, Builtin.Int.intBits z ≤ 1048576) ∧ ∀ H', Q (.bl true) H'
section
variable {P : Program} {w : World} {K : PySem.W.Frag} {mg : Str → Option Value} {base : Heap} {c : Cs}
/-- a pool at a: what is left of the cell, the mixing number, how many numbers were mixed -/
def Pool (H : Hp) (a : Addr) (n : Int) : Prop := ∃ d m : Int, H a = some (.lst [.int d, .int m, .int n]) ∧ 0 ≤ m ∧ m < 2 ^ 64 ∧ 0 ≤ n
theorem Pool.new {H : Hp} {a p : Addr} {n : Int} {o : HO} (h : Pool H a n) (np : H p = none) : Pool (upd H p o) a n := by
  obtain ⟨d, m, h1, h2⟩ := h
  exact ⟨d, m, at_upd h1 np, h2⟩
theorem Pool.make {H : Hp} {a p dx : Addr} {n : Int} {o u : HO} (h : Pool H a n) (n1 : H dx = none) (n2 : H p = none) : Pool (upd (upd H dx u) p o) a n := by
  obtain ⟨d, m, h1, h2⟩ := h
  exact ⟨d, m, at_make h1 n1 n2, h2⟩
theorem Pool.ne {H : Hp} {a p : Addr} {n : Int} (h : Pool H a n) (np : H p = none) : p ≠ a := by
  obtain ⟨d, m, h1, h2⟩ := h
  exact (ne_of_none h1 np).symm
theorem Pool.fr {H H' : Hp} {a : Addr} {n : Int} {S : List Addr} (h : Pool H a n) (f : Fr S H H') (ns : a ∉ S) : Pool H' a n := by
  obtain ⟨d, m, h1, h2⟩ := h
  exact ⟨d, m, f.at ns h1, h2⟩
def spDraw : Sp := fun vs H Q _ => ∃ (a : Addr) (k n : Int), vs = [.ref a, .int n] ∧ Pool H a k ∧ 0 < n ∧ n < 2 ^ 300 ∧ k < 2 ^ 40 ∧
  ∀ (r k' : Int) (H' : Hp), 0 ≤ r → r < n → k' ≤ k + 1 → Pool H' a k' → Fr [a] H H' → Q (.int r) H'
theorem spDraw.go {H : Hp} {a : Addr} {k n : Int} {Q : VK} {E : XK} (p : Pool H a k) (n0 : 0 < n) (n1 : n < 2 ^ 300) (k1 : k < 2 ^ 40)
    (h : ∀ (r k' : Int) (H' : Hp), 0 ≤ r → r < n → k' ≤ k + 1 → Pool H' a k' → Fr [a] H H' → Q (.int r) H') : spDraw ([.ref a, .int n] ++ []) H Q E := ⟨a, k, n, rfl, p, n0, n1, k1, h⟩
theorem Pool.put {H : Hp} {a p : Addr} {n : Int} {o : HO} (h : Pool H a n) (np : p ≠ a) : Pool (upd H p o) a n := by
  obtain ⟨d, m, h1, h2⟩ := h
  exact ⟨d, m, by rw [upd_ne np.symm]; exact h1, h2⟩
/-- a drawn length -/
def spLength : Sp := fun vs H Q _ => ∃ (a : Addr) (k n : Int), vs = [.ref a, .int n] ∧ Pool H a k ∧ 0 < n ∧ n < 2 ^ 300 ∧ k < 2 ^ 39 ∧
  ∀ (r k' : Int) (H' : Hp), 1 ≤ r → (r ≤ n ∨ r ≤ 200) → k' ≤ k + 2 → Pool H' a k' → Fr [a] H H' → Q (.int r) H'
local macro_rules | `(tactic| walk_at "p") => `(tactic| first
  | assumption
  | (refine' Pool.make ?e2 ?e1 ?e3; (case e1 => assumption); (case e3 => assumption); (case e2 => walk_at "p"))
  | (refine' Pool.new ?e2 ?e1; (case e1 => assumption); (case e2 => walk_at "p"))
  | (refine' Pool.put ?e2 ?e1; (case e1 => walk_at "n"); (case e2 => walk_at "p"))
  | (refine' Pool.fr ?e2 ?e1 ?e3; (case e1 => assumption); (case e3 => exact List.not_mem_nil); (case e2 => walk_at "p"))
  | (refine' Pool.fr ?e2 ?e1 (nn2 ?e3); (case e1 => assumption); (case e3 => walk_at "n"); (case e2 => walk_at "p")))
local macro_rules | `(tactic| walk_at "n") => `(tactic| first
  | assumption
  | exact Ne.symm (by assumption)
  | (refine' Pool.ne ?e2 ?e1; (case e1 => assumption); (case e2 => walk_at "p"))
  | (refine' Ne.symm (Pool.ne ?e2 ?e1); (case e1 => assumption); (case e2 => walk_at "p")))
local macro_rules | `(tactic| walk_at "1") => `(tactic| ((with_reducible refine' spDraw.go ?e1 ?e2 ?e3 ?e4 ?_); (case e1 => walk_at "p"); (case e2 => omega); (case e3 => omega); (case e4 => omega); intro r k' H' r0 r1 rk rp rf))
/-- a drawn book -/
def spBook : Sp := fun vs H Q _ => ∃ (a : Addr) (k m n : Int), vs = [.ref a, .int m, .int n] ∧ Pool H a k ∧ 0 ≤ m ∧ m ≤ 100 ∧ 0 < n ∧ n < 2 ^ 300 ∧ k < 2 ^ 38 ∧
  ∀ (p : Addr) (xs : List Int) (k' : Int) (H' : Hp), xs.length ≤ m.toNat → (∀ x ∈ xs, 1 ≤ x ∧ (x ≤ n ∨ x ≤ 200)) → k' ≤ k + 401 → Pool H' a k' → Fr [a] H H' → H p = none → H' p = some (.lst (xs.map V.int)) → Q (.ref p) H'
set_option maxHeartbeats 4000000 in
theorem ok_law_draw (T : Txt K mg c) : DefAt P w K mg base "_law_draw" s_law_draw 1 ["pool", "many"] spDraw := by
  have cls_LiveBook := T.k_LiveBook.c
  have na_LiveBook_past := T.na_LiveBook_past
  refine T.f_law_draw.ok sc_law_draw (fun vs H Q E h => ?_) (fun _ _ _ _ _ _ us hl => match us, hl with | [_, _], _ => rfl) (fun f cdv A outer s H vs Q E hr h => ?_)
  · obtain ⟨a, k, n, rfl, ⟨d, m, ha, m0, m1, c0⟩, n0, n1, c1, q⟩ := h
    rfl
  · obtain ⟨a, k, n, rfl, ⟨d, m, ha, m0, m1, c0⟩, n0, n1, c1, q⟩ := h
    refine ⟨_, (pss_cons (ps_if (pt_cmpR op_gt (pe_ix ix_list (pv 0) pe_int (fun _ _ => rfl)) pe_int (nomark _)) (pss_cons (ps_set (i := 2) sc_law_draw.nd rfl (Or.inl rfl) (pe_op op_mod (pe_ix ix_list (pv 0) pe_int (fun _ _ => rfl)) (pv 1)))
    (pss_cons (ps_asg (pe_op op_fdivW (pe_ix ix_list (pv 0) pe_int (fun _ _ => rfl)) (pv 1)) (pg_sub (pv 0) pe_int set_list))
    (pss_one (ps_ret (pv 2))))) pss_nil)
    (pss_cons (ps_asg (pe_op op_add (pe_ix ix_list (pv 0) pe_int (fun _ _ => rfl)) pe_int) (pg_sub (pv 0) pe_int set_list))
    (pss_cons (ps_set (i := 3) sc_law_draw.nd rfl (Or.inl rfl) (pe_op op_mod (pe_op op_powW (pe_op op_add (pe_ix ix_list (pv 0) pe_int (fun _ _ => rfl)) (pe_op op_mulW pe_int (pe_ix ix_list (pv 0) pe_int (fun _ _ => rfl)))) pe_int) pe_int))
    (pss_cons (ps_set (i := 3) sc_law_draw.nd rfl (Or.inl rfl) (pe_op op_mod (pe_op op_powW (pe_op op_add (pv 3) (pe_op op_mulW pe_int (pe_ix ix_list (pv 0) pe_int (fun _ _ => rfl)))) pe_int) pe_int))
    (pss_one (ps_ret (pe_op op_mod (pe_op op_fdivW (pv 3) pe_int) (pv 1)))))))), ?_⟩
    refine w_start (σ' := [some (.ref a), some (.int n), none, none]) rfl ?_
    walk_at "g"
    refine w_ite (fun hd => ?_) (fun hd => ?_)
    · walk_at "g"
      exact q _ k _ (Int.emod_nonneg _ (by omega)) (Int.emod_lt_of_pos _ n0) (by omega) ⟨_, _, upd_same, m0, m1, c0⟩ (Fr.refl.put (.inr (by simp)))
    · walk_at "g"
      exact q _ (k + 1) _ (Int.emod_nonneg _ (by omega)) (Int.emod_lt_of_pos _ n0) (by omega) ⟨_, _, upd_same, m0, m1, by omega⟩ (Fr.refl.put (.inr (by simp)))
set_option maxHeartbeats 4000000 in
theorem ok_law_length (T : Txt K mg c) : DefAt P w K mg base "_law_length" s_law_length 2 ["pool", "far"] spLength := by
  have D_law_draw := ok_law_draw (P := P) (w := w) (base := base) T
  have cls_LiveBook := T.k_LiveBook.c
  have na_LiveBook_past := T.na_LiveBook_past
  refine T.f_law_length.ok sc_law_length (fun vs H Q E h => ?_) (fun _ _ _ _ _ _ us hl => match us, hl with | [_, _], _ => rfl) (fun f cdv A outer s H vs Q E hr h => ?_)
  · obtain ⟨a, k, n, rfl, hp, n0, n1, k1, q⟩ := h
    rfl
  · obtain ⟨a, k, n, rfl, hp, n0, n1, k1, q⟩ := h
    refine ⟨_, (pss_one (ps_ret (pe_op op_add pe_int (pe_callD D_law_draw (hr.mono (by decide)) (pa_cons (pv 0) (pa_cons (pe_ix ix_list (pe_lst (pa_cons pe_int (pa_cons pe_int (pa_cons pe_int (pa_cons (pv 1) pa_nil))))) (pe_callD D_law_draw (hr.mono (by decide)) (pa_cons (pv 0) (pa_cons pe_int pa_nil))) (fun _ _ => rfl)) pa_nil)))))), ?_⟩
    refine w_start (σ' := [some (.ref a), some (.int n)]) rfl ?_
    walk_at "g"
    rename_i p np r2 k2 H2 ra rb rk2 rp2 rf2 z hz r k3 H3 r0 r1 rk rp rf
    exact q _ k3 _ (by omega) (by omega) (by omega) rp (by walk_at "F")
set_option maxHeartbeats 4000000 in
theorem ok_law_book (T : Txt K mg c) : DefAt P w K mg base "_law_book" s_law_book 3 ["pool", "most", "far"] spBook := by
  have D_law_draw := ok_law_draw (P := P) (w := w) (base := base) T
  have D_law_length := ok_law_length (P := P) (w := w) (base := base) T
  have cls_LiveBook := T.k_LiveBook.c
  have na_LiveBook_past := T.na_LiveBook_past
  refine T.f_law_book.ok sc_law_book (fun vs H Q E h => ?_) (fun _ _ _ _ _ _ us hl => match us, hl with | [_, _, _], _ => rfl) (fun f cdv A outer s H vs Q E hr h => ?_)
  · obtain ⟨a, k, m, n, rfl, hp, m0, m1, n0, n1, k1, q⟩ := h
    rfl
  · obtain ⟨a, k, m, n, rfl, hp, m0, m1, n0, n1, k1, q⟩ := h
    refine ⟨_, (pss_cons (ps_set (i := 3) sc_law_book.nd rfl (Or.inl rfl) (pe_lst pa_nil))
    (pss_cons (ps_for PassesOwn.never rfl (pi_range1 (by rfl) T.n_range (pa_cons (pe_callD D_law_draw (hr.mono (by decide)) (pa_cons (pv 0) (pa_cons (pe_op op_add (pv 1) pe_int) pa_nil))) pa_nil)) (pg_name (i := 4) sc_law_book.nd rfl (Or.inl rfl)) (pss_one (ps_if (PW.pt (pw_and (pt_cmpR (op_neD hr.units) (pv 3) (pe_lst pa_nil) (nomark _)) (pw_and1 (pt_cmpR op_eq (pe_callD D_law_draw (hr.mono (by decide)) (pa_cons (pv 0) (pa_cons pe_int pa_nil))) pe_int (nomark _))))) (pss_one (ps_expr (pe_bm PySem.F.plainAttrs_list PySem.F.slot_list_append PySem.F.type_list_append mt_append (pv 3) (pa_cons (pe_ix ix_list (pv 3) (pe_callD D_law_draw (hr.mono (by decide)) (pa_cons (pv 0) (pa_cons (pe_callB call_lenN (by rfl) T.n_len (by decide +kernel) (pa_cons (pv 3) pa_nil)) pa_nil))) (fun _ _ => rfl)) pa_nil)))) (pss_one (ps_expr (pe_bm PySem.F.plainAttrs_list PySem.F.slot_list_append PySem.F.type_list_append mt_append (pv 3) (pa_cons (pe_callD D_law_length (hr.mono (by decide)) (pa_cons (pv 0) (pa_cons (pv 2) pa_nil))) pa_nil)))))))
    (pss_one (ps_ret (pv 3))))), ?_⟩
    refine w_start (σ' := [some (.ref a), some (.int m), some (.int n), none, none]) rfl ?_
    walk_at "g"
    rename_i p np r k2 H2 r0 r1 rk rp rf
    refine f_range (fun i σ' H3 => ∃ (v : Option V) (xs : List Int) (k3 : Int), σ' = [some (.ref a), some (.int m), some (.int n), some (.ref p), v] ∧ Pool H3 a k3 ∧ k3 ≤ k + 1 + 4 * i ∧ Fr [a] H H3 ∧ H3 p = some (.lst (xs.map V.int)) ∧ xs.length = i ∧ ∀ x ∈ xs, 1 ≤ x ∧ (x ≤ n ∨ x ≤ 200)) ?_ ?_ ?_
    · exact ⟨none, [], k2, rfl, rp, by omega, by walk_at "F", (by walk_at "H" : H2 p = some (.lst [])), rfl, by simp⟩
    · rintro i σ' H3 hi ⟨v, xs, k3, rfl, hp3, hk3, hf3, h3, hl, hx⟩
      walk_at "g"
      refine w_iteN (fun hne => ?_) (fun he => ?_)
      · have hpos := List.length_pos_iff.mpr hne
        walk_at "g"
        refine w_ite (fun h0 => ?_) (fun h0 => ?_)
        · walk_at "g"
          rename_i x hx'
          exact ⟨_, xs ++ [x], _, rfl, by walk_at "P", by omega, by walk_at "F", upd_same, len_snoc hl, mem_snoc hx (hx x (List.mem_of_getElem? hx'))⟩
        · walk_at "g"
          refine ⟨a, _, n, rfl, by walk_at "P", n0, n1, by omega, fun x k4 H4 x0 x1 kk pp ff => ?_⟩
          walk_at "g"
          exact ⟨_, xs ++ [x], _, rfl, by walk_at "P", by omega, by walk_at "F", upd_same, len_snoc hl, mem_snoc hx ⟨x0, x1⟩⟩
      · walk_at "g"
        refine ⟨a, _, n, rfl, by walk_at "P", n0, n1, by omega, fun x k4 H4 x0 x1 kk pp ff => ?_⟩
        walk_at "g"
        exact ⟨_, xs ++ [x], _, rfl, by walk_at "P", by omega, by walk_at "F", upd_same, len_snoc hl, mem_snoc hx ⟨x0, x1⟩⟩
    · rintro σ' H3 ⟨v, xs, k3, rfl, hp3, hk3, hf3, h3, hl, hx⟩
      walk_at "g"
      exact q p xs k3 H3 (by omega) hx (by omega) hp3 hf3 np h3
def spPoolOf (K : PySem.W.Frag) : Sp := fun vs H Q _ => ∃ (a : Addr) (ns : List Int) (n : Int), vs = [.ref a, .int n] ∧ SqL K H a (ns.map V.int) ∧ ns.length ≤ 63 ∧ 0 ≤ n ∧ n < 64 ∧ ∀ p H', Fr [] H H' → H p = none → Pool H' p 0 → Q (.ref p) H'
set_option maxHeartbeats 4000000 in
theorem ok_law_pool (T : Txt K mg c) : DefAt P w K mg base "_law_pool" s_law_pool 1 ["script", "at"] (spPoolOf K) := by
  have cls_LiveBook := T.k_LiveBook.c
  have na_LiveBook_past := T.na_LiveBook_past
  refine T.f_law_pool.ok sc_law_pool (fun vs H Q E h => ?_) (fun _ _ _ _ _ _ us hl => match us, hl with | [_, _], _ => rfl) (fun f cdv A outer s H vs Q E hr h => ?_)
  · obtain ⟨a, ns, n, rfl, hS, hl, n0, n1, q⟩ := h
    rfl
  · obtain ⟨a, ns, n, rfl, hS, hl, n0, n1, q⟩ := h
    refine ⟨_, (pss_cons (ps_set (i := 2) sc_law_pool.nd rfl (Or.inl rfl) pe_int)
    (pss_cons (ps_if (pt_cmpR op_lt (pv 1) (pe_callB call_lenN (by rfl) T.n_len (by decide +kernel) (pa_cons (pv 0) pa_nil)) (nomark _)) (pss_one (ps_set (i := 2) sc_law_pool.nd rfl (Or.inl rfl) (pe_ix ix_list (pv 0) (pv 1) (fun _ _ => rfl)))) pss_nil)
    (pss_one (ps_ret (pe_lst (pa_cons (pe_callB (call_max2N rfl) (by rfl) T.n_max (by decide +kernel) (pa_cons pe_int (pa_cons (pe_op op_sub (pe_callB call_absN (by rfl) T.n_abs (by decide +kernel) (pa_cons (pv 2) pa_nil)) (pe_op op_powW pe_int pe_int)) pa_nil))) (pa_cons (pe_op op_add (pe_op op_mod (pv 2) pe_int) (pe_op op_mulW pe_int (pe_op op_add (pv 1) pe_int))) (pa_cons pe_int pa_nil)))))))), ?_⟩
    refine w_start (σ' := [some (.ref a), some (.int n), none]) rfl ?_
    walk_at "g"
    refine w_lenI hS ?_
    walk_at "g"
    refine w_ite (fun h => ?_) (fun h => ?_)
    · walk_at "g"
      refine w_ixLm hS n0 h (fun cell hc => ?_)
      walk_at "g"
      exact q _ _ (by walk_at "F") (by assumption) ⟨_, _, upd_same, by omega, by omega, by omega⟩
    · walk_at "g"
      exact q _ _ (by walk_at "F") (by assumption) ⟨_, _, upd_same, by omega, by omega, by omega⟩
/-- pages of a chapter, of a book -/
def cp (l s : Int) : Int := (l + s - 1) / s
def pg (ns : List Int) (s : Int) : Int := (ns.map fun l => cp l s).sum
def spPages (K : PySem.W.Frag) : Sp := fun vs H Q _ => ∃ (p : Addr) (ns : List Int) (s : Int), vs = [.ref p, .int s] ∧ H p = some (.lst (ns.map V.int)) ∧ ns.length ≤ 1000000 ∧ 0 < s ∧ s < 2 ^ 390 ∧ ∀ H', Fr [] H H' → Q (.int (pg ns s)) H'
def spCp : Sp := fun vs H Q _ => ∃ (l s : Int), vs = [.int l, .int s] ∧ 0 < s ∧ s < 2 ^ 390 ∧ Q (.int (cp l s)) H
set_option maxHeartbeats 4000000 in
theorem ok_law_pages (T : Txt K mg c) : DefAt P w K mg base "_law_pages" s_law_pages 1 ["lengths", "lines_here"] (spPages K) := by
  have cls_LiveBook := T.k_LiveBook.c
  have na_LiveBook_past := T.na_LiveBook_past
  refine T.f_law_pages.ok sc_law_pages (fun vs H Q E h => ?_) (fun _ _ _ _ _ _ us hl => match us, hl with | [_, _], _ => rfl) (fun f cdv A outer s H vs Q E hr h => ?_)
  · obtain ⟨p, ns, n, rfl, hp, hl, n0, n1, q⟩ := h
    rfl
  · obtain ⟨p, ns, n, rfl, hp, hl, n0, n1, q⟩ := h
    refine ⟨_, (pss_one (ps_ret (pe_callB (cr_sum rfl) (by rfl) T.n_sum (by decide +kernel) (pa_cons (pe_lc (own := [("one", 2)]) (tt := tYes) rfl sc_law_pages.nd (pi_list (pv 0)) (blkOk_by (N := sc_law_pages_N) (sc := defScope s_law_pages) (by decide +kernel)) (fun _ _ _ _ _ => (pg_name (i := 2) sc_law_pages.nd rfl (Or.inl rfl))) (fun _ _ _ _ _ => pts_nil) (fun _ _ _ _ _ => (pe_op op_fdivW (pe_op op_sub (pe_op op_add (pv 2) (pv 1)) pe_int) (pv 1)))) pa_nil)))), ?_⟩
    refine w_start (σ' := [some (.ref p), some (.int n), none]) rfl ?_
    walk_at "g"
    refine l_map ns (fun l => cp l n) (SqL.of hp) (fun _ => rfl) (by omega) (fun i l H2 hi f2 Q2 k2 => ?_) (fun L H2 hL f2 h2 => ?_)
    · walk_at "g"
      exact k2 _ Fr.refl
    · walk_at "g"
      exact q _ f2
set_option maxHeartbeats 4000000 in
theorem ok_chapter_pages (T : Txt K mg c) : DefAt P w K mg base "chapter_pages" s_chapter_pages 1 ["length", "size"] spCp := by
  have cls_LiveBook := T.k_LiveBook.c
  have na_LiveBook_past := T.na_LiveBook_past
  refine T.f_chapter_pages.ok sc_chapter_pages (fun vs H Q E h => ?_) (fun _ _ _ _ _ _ us hl => match us, hl with | [_, _], _ => rfl) (fun f cdv A outer s H vs Q E hr h => ?_)
  · obtain ⟨l, n, rfl, n0, n1, q⟩ := h
    rfl
  · obtain ⟨l, n, rfl, n0, n1, q⟩ := h
    refine ⟨_, (pss_one (ps_ret (pe_op op_fdivW (pe_op op_sub (pe_op op_add (pv 0) (pv 1)) pe_int) (pv 1)))), ?_⟩
    refine w_start (σ' := [some (.int l), some (.int n)]) rfl ?_
    walk_at "g"
    exact q
set_option maxHeartbeats 4000000 in
theorem ok_count_pages (T : Txt K mg c) : DefAt P w K mg base "count_pages" s_count_pages 2 ["book", "size"] (spPages K) := by
  have D_chapter_pages := ok_chapter_pages (P := P) (w := w) (base := base) T
  have cls_LiveBook := T.k_LiveBook.c
  have na_LiveBook_past := T.na_LiveBook_past
  refine T.f_count_pages.ok sc_count_pages (fun vs H Q E h => ?_) (fun _ _ _ _ _ _ us hl => match us, hl with | [_, _], _ => rfl) (fun f cdv A outer s H vs Q E hr h => ?_)
  · obtain ⟨p, ns, n, rfl, hp, hl, n0, n1, q⟩ := h
    rfl
  · obtain ⟨p, ns, n, rfl, hp, hl, n0, n1, q⟩ := h
    refine ⟨_, (pss_one (ps_ret (pe_callB (cr_sum rfl) (by rfl) T.n_sum (by decide +kernel) (pa_cons (pe_lc (own := [("length", 2)]) (tt := tYes) rfl sc_count_pages.nd (pi_list (pv 0)) (blkOk_by (N := sc_count_pages_N) (sc := defScope s_count_pages) (by decide +kernel)) (fun _ _ _ _ _ => (pg_name (i := 2) sc_count_pages.nd rfl (Or.inl rfl))) (fun _ _ _ _ _ => pts_nil) (fun _ _ _ _ _ => (pe_callD D_chapter_pages (hr.mono (by decide)) (pa_cons (pv 2) (pa_cons (pv 1) pa_nil))))) pa_nil)))), ?_⟩
    refine w_start (σ' := [some (.ref p), some (.int n), none]) rfl ?_
    walk_at "g"
    refine l_map ns (fun l => cp l n) (SqL.of hp) (fun _ => rfl) (by omega) (fun i l H2 hi f2 Q2 k2 => ?_) (fun L H2 hL f2 h2 => ?_)
    · walk_at "g"
      exact ⟨l, n, rfl, n0, n1, k2 _ Fr.refl⟩
    · walk_at "g"
      exact q _ f2
/-! ### books and sizes looked at; what is raised -/
/-- i is the index of the first length below 1 -/
def BadAt (ns : List Int) (i : Nat) : Prop := ∃ n, ns[i]? = some n ∧ n < 1 ∧ ∀ (j : Nat) (m : Int), j < i → ns[j]? = some m → 1 ≤ m
theorem BadAt.uniq {ns : List Int} {i j : Nat} (h : BadAt ns i) (k : BadAt ns j) : i = j := by
  obtain ⟨n, h1, h2, h3⟩ := h
  obtain ⟨m, k1, k2, k3⟩ := k
  rcases Nat.lt_trichotomy i j with z | z | z
  · have := k3 i n z h1
    omega
  · exact z
  · have := h3 j m z k1
    omega
theorem BadAt.not {ns : List Int} {i : Nat} (h : BadAt ns i) (k : ∀ n ∈ ns, 1 ≤ n) : False := by
  obtain ⟨n, h1, h2, h3⟩ := h
  have := k n (List.mem_of_getElem? h1)
  omega
theorem BadAt.lt {ns : List Int} {i : Nat} (h : BadAt ns i) : i < ns.length := by
  obtain ⟨n, h1, h2, h3⟩ := h
  exact (List.getElem?_eq_some_iff.mp h1).1
theorem good_or_bad : ∀ ns : List Int, (∀ n ∈ ns, 1 ≤ n) ∨ ∃ i, BadAt ns i
  | [] => .inl (by simp)
  | n :: ns => by
    by_cases h : n < 1
    · exact .inr ⟨0, n, rfl, h, fun j m hj => by omega⟩
    · rcases good_or_bad ns with z | ⟨i, x, h1, h2, h3⟩
      · exact .inl fun y hy => by
          rcases List.mem_cons.mp hy with e | e
          · omega
          · exact z y e
      · refine .inr ⟨i + 1, x, by simpa using h1, h2, fun j m hj hm => ?_⟩
        cases j with
        | zero =>
          simp at hm
          omega
        | succ j => exact h3 j m (by omega) (by simpa using hm)
/-- an exception of class D with this value is let out at H'' -/
def Raised (E : XK) (H : Hp) (D : Addr) (y : V) : Prop := ∀ (d : Addr) (H'' : Hp), Fr [] H H'' → H d = none → H'' d = some (.xd [("value", y)]) → E (.ref D) (some d) H''
theorem Raised.fr {E : XK} {H H' : Hp} {D : Addr} {y : V} (h : Raised E H D y) (f : Fr [] H H') : Raised E H' D y := fun d H'' f2 nd hd => h d H'' (f.trans f2) (f.free List.not_mem_nil nd) hd
theorem Raised.go {W : WX} {σ : L2.St} {H H' : Hp} {D : Addr} {y : V} (h : Raised (wAt W σ) H D y) (f : Fr [] H H') : ∀ d, H' d = none → W (.ref D) (some d) σ (upd H' d (.xd [("value", y)])) := fun d nd => h d _ (f.new nd) (f.free List.not_mem_nil nd) upd_same
theorem Raised.at {E : XK} {H H' : Hp} {D : Addr} {y : V} (h : Raised E H D y) (f : Fr [] H H') : ∀ d, H' d = none → E (.ref D) (some d) (upd H' d (.xd [("value", y)])) := fun d nd => h d _ (f.new nd) (f.free List.not_mem_nil nd) upd_same
def spCheckBookX (K : PySem.W.Frag) (c : Cs) : Sp := fun vs H Q E => ∃ (p : Addr) (ns : List Int), vs = [.ref p] ∧ H p = some (.lst (ns.map V.int)) ∧ ns.length ≤ 1000000 ∧ ((∀ n ∈ ns, 1 ≤ n) → ∀ H', Fr [] H H' → Q .non H') ∧
  ∀ i : Nat, BadAt ns i → Raised E H c.InvalidBook (.int i)
def spCheckSizeX (c : Cs) : Sp := fun vs H Q E => ∃ (s : Int), vs = [.int s] ∧ (1 ≤ s → Q .non H) ∧ (s < 1 → Raised E H c.InvalidSize (.int s))
set_option maxHeartbeats 4000000 in
theorem ok_InvalidBook___init__ (T : Txt K mg c) : MDefAt P w K mg base c.InvalidBook "__init__" "InvalidBook.__init__" s_InvalidBook___init__ 1 ["self", "value"] (spEInit K c.InvalidBook) := by
  have cls_LiveBook := T.k_LiveBook.c
  have na_LiveBook_past := T.na_LiveBook_past
  refine T.f_InvalidBook___init__.ok sc_InvalidBook___init__ (fun vs H Q E h => ?_) (fun _ _ _ _ _ _ us hl => match us, hl with | [_, _], _ => rfl) (fun f cdv A outer s H vs Q E hr h => ?_)
  · obtain ⟨a, y, rfl, ha, q⟩ := h
    rfl
  · obtain ⟨a, y, rfl, ha, q⟩ := h
    refine ⟨_, (pss_cons (ps_expr (pe_beinit T.xb_ (pa_cons (pv 0) (pa_cons pe_str pa_nil))))
    (pss_one (ps_ost (pv 0) (pv 1)))), ?_⟩
    refine w_start (σ' := [some (.ref a), some (y)]) rfl ?_
    walk_at "g"
    refine w_veIE (by simp) T.x_InvalidBook.o ha ?_
    walk_at "g"
    refine w_ostE T.x_InvalidBook.o T.x_InvalidBook.no ha (fun dx nd ne => ?_)
    walk_at "g"
    exact q dx nd ne
set_option maxHeartbeats 4000000 in
theorem ok_InvalidSize___init__ (T : Txt K mg c) : MDefAt P w K mg base c.InvalidSize "__init__" "InvalidSize.__init__" s_InvalidSize___init__ 1 ["self", "value"] (spEInit K c.InvalidSize) := by
  have cls_LiveBook := T.k_LiveBook.c
  have na_LiveBook_past := T.na_LiveBook_past
  refine T.f_InvalidSize___init__.ok sc_InvalidSize___init__ (fun vs H Q E h => ?_) (fun _ _ _ _ _ _ us hl => match us, hl with | [_, _], _ => rfl) (fun f cdv A outer s H vs Q E hr h => ?_)
  · obtain ⟨a, y, rfl, ha, q⟩ := h
    rfl
  · obtain ⟨a, y, rfl, ha, q⟩ := h
    refine ⟨_, (pss_cons (ps_expr (pe_beinit T.xb_ (pa_cons (pv 0) (pa_cons pe_str pa_nil))))
    (pss_one (ps_ost (pv 0) (pv 1)))), ?_⟩
    refine w_start (σ' := [some (.ref a), some (y)]) rfl ?_
    walk_at "g"
    refine w_veIE (by simp) T.x_InvalidSize.o ha ?_
    walk_at "g"
    refine w_ostE T.x_InvalidSize.o T.x_InvalidSize.no ha (fun dx nd ne => ?_)
    walk_at "g"
    exact q dx nd ne
set_option maxHeartbeats 4000000 in
theorem ok_check_book (T : Txt K mg c) : DefAtX P w K mg base "check_book" s_check_book 3 ["book"] (spCheckBookX K c) := by
  have D_InvalidBook___init__ := ok_InvalidBook___init__ (P := P) (w := w) (base := base) T
  have cls_LiveBook := T.k_LiveBook.c
  have na_LiveBook_past := T.na_LiveBook_past
  refine T.f_check_book.okX sc_check_book (fun vs H Q E h => ?_) (fun _ _ _ _ _ _ us hl => match us, hl with | [_], _ => rfl) (fun f cdv A outer s H vs Q E hr h => ?_)
  · obtain ⟨p, ns, rfl, hp, hl, q, e⟩ := h
    rfl
  · obtain ⟨p, ns, rfl, hp, hl, q, e⟩ := h
    refine ⟨_, (pss_one (ps_for (passes_of rfl) rfl (pi_enum (by rfl) T.n_enumerate (pa_cons (pv 0) pa_nil)) (pg_tup rfl (pgs_cons (pg_name (i := 1) sc_check_book.nd rfl (Or.inl rfl)) (pgs_cons (pg_name (i := 2) sc_check_book.nd rfl (Or.inl rfl)) pgs_nil))) (pss_one (ps_if (pt_cmpR op_lt (pv 2) pe_int (nomark _)) (pss_one (ps_raiseX T.x_InvalidBook D_InvalidBook___init__ (hr.mono (by decide)) (takes_of rfl rfl rfl rfl) (pv 1))) pss_nil)))), ?_⟩
    refine w_start (σ' := [some (.ref p), none, none]) rfl ?_
    walk_at "g"
    refine f_enum (ns.map V.int) (fun i σ' H2 => ∃ v u : Option V, σ' = [some (.ref p), v, u] ∧ Fr [] H H2 ∧ ∀ (j : Nat) (m : Int), j < i → ns[j]? = some m → 1 ≤ m) ⟨none, none, rfl, Fr.refl, fun j m hj => by omega⟩ ?_ ?_ ?_
    · rintro i σ' H2 _ ⟨v, u, rfl, f2, _⟩
      exact SqL.of (f2.at0 hp)
    · rintro i x tp σ' H2 hx ⟨v, u, rfl, f2, h2⟩ htp
      obtain ⟨n, hn, rfl⟩ := map_at hx
      walk_at "g"
      refine w_ite (fun h => ?_) (fun h => ?_)
      · walk_at "g"
        refine w_raiseE ((e i ⟨n, hn, h, h2⟩).at (f2.new htp))
      · walk_at "g"
        refine ⟨_, _, rfl, by walk_at "F", fun j m hj hm => ?_⟩
        rcases Nat.lt_succ_iff_lt_or_eq.mp hj with z | z
        · exact h2 j m z hm
        · rw [z, hn] at hm
          cases hm
          omega
    · rintro σ' H2 ⟨v, u, rfl, f2, h2⟩
      refine q (fun n hn => ?_) _ f2
      obtain ⟨j, hj⟩ := List.getElem?_of_mem hn
      exact h2 j n (by rw [List.length_map]; exact (List.getElem?_eq_some_iff.mp hj).1) hj
set_option maxHeartbeats 4000000 in
theorem ok_check_size (T : Txt K mg c) : DefAtX P w K mg base "check_size" s_check_size 3 ["size"] (spCheckSizeX c) := by
  have D_InvalidSize___init__ := ok_InvalidSize___init__ (P := P) (w := w) (base := base) T
  have cls_LiveBook := T.k_LiveBook.c
  have na_LiveBook_past := T.na_LiveBook_past
  refine T.f_check_size.okX sc_check_size (fun vs H Q E h => ?_) (fun _ _ _ _ _ _ us hl => match us, hl with | [_], _ => rfl) (fun f cdv A outer s H vs Q E hr h => ?_)
  · obtain ⟨n, rfl, q, e⟩ := h
    rfl
  · obtain ⟨n, rfl, q, e⟩ := h
    refine ⟨_, (pss_one (ps_if (pt_cmpR op_lt (pv 0) pe_int (nomark _)) (pss_one (ps_raiseX T.x_InvalidSize D_InvalidSize___init__ (hr.mono (by decide)) (takes_of rfl rfl rfl rfl) (pv 0))) pss_nil)), ?_⟩
    refine w_start (σ' := [some (.int n)]) rfl ?_
    walk_at "g"
    refine w_ite (fun h => ?_) (fun h => ?_)
    · walk_at "g"
      exact w_raiseE ((e h).at Fr.refl)
    · walk_at "g"
      exact q (by omega)
/-- all of these stand in the heap -/
def Old (H : Hp) (A : List Addr) : Prop := ∀ v ∈ A, ∃ o, H v = some o
theorem Old.nin {H : Hp} {A : List Addr} {u : Addr} (h : Old H A) (n : H u = none) : u ∉ A := fun hm => by
  obtain ⟨o, e⟩ := h u hm
  rw [n] at e
  cases e
theorem Old.fr {H H' : Hp} {A : List Addr} (h : Old H A) (f : Fr [] H H') : Old H' A := fun v hv => by
  obtain ⟨o, e⟩ := h v hv
  exact ⟨o, f.at0 e⟩
/-- a live book at a: what it was before, what it is; none of its places is in A -/
structure Live (c : Cs) (H : Hp) (a dx : Addr) (init : List (List Int)) (ns : List Int) (A : List Addr) : Prop where
  ex : ∃ (p r : Addr) (ri : List Addr), H a = some (.ins c.LiveBook dx [("past", .ref p)]) ∧ H p = some (.lst ((ri ++ [r]).map V.ref)) ∧ ListsAt H ri init ∧ H r = some (.lst (ns.map V.int)) ∧ ∀ u ∈ a :: p :: r :: ri, u ∉ A
theorem Live.fr {c : Cs} {H H' : Hp} {a dx : Addr} {init : List (List Int)} {ns : List Int} {A S : List Addr} (h : Live c H a dx init ns A) (f : Fr S H H') (hS : ∀ s ∈ S, s ∈ A) : Live c H' a dx init ns A := by
  obtain ⟨p, r, ri, h1, h2, h3, h4, h5⟩ := h.ex
  have n : ∀ u ∈ a :: p :: r :: ri, u ∉ S := fun u hu hs => h5 u hu (hS u hs)
  exact ⟨p, r, ri, f.at (n a (by simp)) h1, f.at (n p (by simp)) h2, ⟨h3.len, fun i q l e1 e2 => f.at (n q (by simp [List.mem_of_getElem? e1])) (h3.at_ i q l e1 e2)⟩, f.at (n r (by simp)) h4, h5⟩
def spLInitX (K : PySem.W.Frag) (c : Cs) : Sp := fun vs H Q E => ∃ (a dx p : Addr) (ns : List Int) (A : List Addr), vs = [.ref a, .ref p] ∧ H a = some (.ins c.LiveBook dx []) ∧ H p = some (.lst (ns.map V.int)) ∧ ns.length ≤ 1000000 ∧ a ∉ A ∧ Old H A ∧
  ((∀ n ∈ ns, 1 ≤ n) → ∀ H', Live c H' a dx [] ns A → Fr [a] H H' → Q .non H') ∧ ∀ i : Nat, BadAt ns i → Raised E H c.InvalidBook (.int i)
def spLAdd (K : PySem.W.Frag) (c : Cs) : Sp := fun vs H Q E => ∃ (a dx t : Addr) (init : List (List Int)) (ns xs : List Int) (A : List Addr), vs = [.ref a, .ref t] ∧ Live c H a dx init ns A ∧ Old H A ∧ H t = some (.tup (xs.map V.int)) ∧ init.length ≤ 100000 ∧ ns.length ≤ 1000000 ∧ xs.length ≤ 1000 ∧
  ((∀ n ∈ xs, 1 ≤ n) → ∀ H', Live c H' a dx (init ++ [ns]) (ns ++ xs) A → Fr [a] H H' → Q .non H') ∧ ∀ i : Nat, BadAt xs i → Raised E H c.InvalidBook (.int i)
def spLBook (K : PySem.W.Frag) (c : Cs) : Sp := fun vs H Q _ => ∃ (a dx : Addr) (init : List (List Int)) (ns : List Int) (A : List Addr), vs = [.ref a] ∧ Live c H a dx init ns A ∧ ∀ p, H p = none → Q (.ref p) (upd H p (.lst (ns.map V.int)))
theorem kb_LiveBook___init___book : KB0 "__init__" "LiveBook.__init__" s_LiveBook___init__ ["self", "book"] ["book"] 1 [0] := fun _ _ _ _ _ _ us ws hu hw => match us, ws, hu, hw with | [_], [_], _, _ => rfl
set_option maxHeartbeats 4000000 in
theorem ok_LiveBook___init__ (T : Txt K mg c) : MDefAtX P w K mg base c.LiveBook "__init__" "LiveBook.__init__" s_LiveBook___init__ 4 ["self", "book"] (spLInitX K c) := by
  have D_check_book := ok_check_book (P := P) (w := w) (base := base) T
  have cls_LiveBook := T.k_LiveBook.c
  have na_LiveBook_past := T.na_LiveBook_past
  refine T.f_LiveBook___init__.okX sc_LiveBook___init__ (fun vs H Q E h => ?_) (fun _ _ _ _ _ _ us hl => match us, hl with | [_, _], _ => rfl) (fun f cdv A outer s H vs Q E hr h => ?_)
  · obtain ⟨a, dx, p, ns, A0, rfl, ha, hp, hl, aA, hA, q, e⟩ := h
    rfl
  · obtain ⟨a, dx, p, ns, A0, rfl, ha, hp, hl, aA, hA, q, e⟩ := h
    refine ⟨_, (pss_cons (ps_expr (pe_callX D_check_book (hr.mono (by decide)) (takes_of rfl rfl rfl rfl) (pa_cons (pv 1) pa_nil)))
    (pss_one (ps_fld (pv 0) (pe_lst (pa_cons (pe_callTy call_listN (by rfl) T.n_list (by decide +kernel) (pa_cons (pv 1) pa_nil)) pa_nil)) rfl))), ?_⟩
    refine w_start (σ' := [some (.ref a), some (.ref p)]) rfl ?_
    walk_at "g"
    refine ⟨p, ns, rfl, hp, hl, fun h1 H2 f2 => ?_, e⟩
    have hp2 := f2.at0 hp
    have ha2 := f2.at0 ha
    have hA2 := hA.fr f2
    walk_at "g"
    rename_i r nr pp npp
    have rA := hA2.nin nr
    have pA := (hA2.fr (Fr.refl.new nr)).nin npp
    have pa : pp ≠ a := (ne_of_none (at_upd ha2 nr) npp).symm
    have ra : r ≠ a := (ne_of_none ha2 nr).symm
    have k1 : upd (upd (upd H2 r (.lst (ns.map V.int))) pp (.lst [.ref r])) a (.ins c.LiveBook dx [("past", .ref pp)]) pp = some (.lst (([] ++ [r]).map V.ref)) := by
      rw [upd_ne pa]
      exact upd_same
    have k2 : upd (upd (upd H2 r (.lst (ns.map V.int))) pp (.lst [.ref r])) a (.ins c.LiveBook dx [("past", .ref pp)]) r = some (.lst (ns.map V.int)) := by
      rw [upd_ne ra]
      exact at_upd upd_same npp
    refine q h1 _ ⟨pp, r, [], upd_same, k1, .nil, k2, fun u hu => ?_⟩ (((f2.nil.new nr).new npp).put (.inr (by simp)))
    simp only [List.mem_cons, List.not_mem_nil, or_false] at hu
    rcases hu with rfl | rfl | rfl
    · exact aA
    · exact pA
    · exact rA
set_option maxHeartbeats 4000000 in
theorem ok_LiveBook_add (T : Txt K mg c) : MDefAtS P w K mg base c.LiveBook "add" "LiveBook.add" s_LiveBook_add 4 ["self"] "lengths" (spLAdd K c) := by
  have D_check_book := ok_check_book (P := P) (w := w) (base := base) T
  have cls_LiveBook := T.k_LiveBook.c
  have na_LiveBook_past := T.na_LiveBook_past
  refine T.f_LiveBook_add.okS sc_LiveBook_add (fun kV doc pm an cdv ct => StX.bind_star1 (B := fun us => bindArgs (PySem.W.fnOf "add" "LiveBook.add" (defArgs s_LiveBook_add) (defBody s_LiveBook_add) (defScope s_LiveBook_add) .none kV doc pm an cdv ct) ⟨us, []⟩) (fun _ => rfl) (fun _ _ _ => rfl)) (fun f cdv A outer s H vs Q E hr h => ?_)
  · obtain ⟨a, dx, t, init, ns, xs, A0, rfl, hL, hA, ht, z1, z2, z3, q, e⟩ := h
    refine ⟨_, (pss_cons (ps_expr (pe_callX D_check_book (hr.mono (by decide)) (takes_of rfl rfl rfl rfl) (pa_cons (pe_callTy call_listN (by rfl) T.n_list (by decide +kernel) (pa_cons (pv 1) pa_nil)) pa_nil)))
    (pss_one (ps_fld (pv 0) (pe_op op_cat (pe_fld (pv 0) rfl) (pe_lst (pa_cons (pe_op op_cat (pe_ix ix_list (pe_fld (pv 0) rfl) (pe_un un_neg pe_int) (fun _ _ => rfl)) (pe_callTy call_listN (by rfl) T.n_list (by decide +kernel) (pa_cons (pv 1) pa_nil))) pa_nil))) rfl))), ?_⟩
    refine w_start (σ' := [some (.ref a), some (.ref t)]) rfl ?_
    walk_at "g"
    rename_i l0 nl0
    refine ⟨l0, xs, rfl, upd_same, by omega, fun h1 H2 f2 => ?_, fun i hb => (e i hb).fr (Fr.refl.new nl0)⟩
    have f02 : Fr [] H H2 := (Fr.refl.new nl0).trans f2
    have hA2 := hA.fr f02
    have ht2 := f02.at0 ht
    obtain ⟨p, r, ri, k1, k2, k3, k4, k5⟩ := (hL.fr f02 (by simp)).ex
    have hz := k3.len
    clear f2
    walk_at "g"
    refine w_ixLastR k2 ?_
    walk_at "g"
    rename_i l5 nl5 r6 nr6 p7 np7
    refine w_catR (ps := ri ++ [r]) (qs := [r6]) (at_upd (at_upd (at_upd k2 nl5) nr6) np7) upd_same (by simp; omega) (fun p8 np8 => ?_)
    walk_at "g"
    have n2 : ∀ {u : Addr} {o : HO}, H2 u = some o → upd (upd (upd (upd H2 l5 (.lst (xs.map V.int))) r6 (.lst ((ns ++ xs).map V.int))) p7 (.lst [.ref r6])) p8 (.lst ((ri ++ [r] ++ [r6]).map V.ref)) u = some o := fun h => at_upd (at_upd (at_upd (at_upd h nl5) nr6) np7) np8
    have f28 : Fr [] H2 (upd (upd (upd (upd H2 l5 (.lst (xs.map V.int))) r6 (.lst ((ns ++ xs).map V.int))) p7 (.lst [.ref r6])) p8 (.lst ((ri ++ [r] ++ [r6]).map V.ref))) := (((Fr.refl.new nl5).new nr6).new np7).new np8
    have p8a : p8 ≠ a := (ne_of_none (at_upd (at_upd (at_upd k1 nl5) nr6) np7) np8).symm
    have r6a : r6 ≠ a := (ne_of_none (at_upd k1 nl5) nr6).symm
    have ra : r ≠ a := fun e => by
      rw [e, k1] at k4
      cases k4
    have p8A := (((hA2.fr (Fr.refl.new nl5)).fr (Fr.refl.new nr6)).fr (Fr.refl.new np7)).nin np8
    have r6A := (hA2.fr (Fr.refl.new nl5)).nin nr6
    refine q h1 _ ⟨p8, r6, ri ++ [r], upd_same, ?_, ?_, ?_, fun u hu => ?_⟩ ((f02.nil.trans f28.nil).put (.inr (by simp)))
    · rw [upd_ne p8a]
      exact upd_same
    · refine ⟨by simp [k3.len], fun i q' l e1 e2 => ?_⟩
      have e3 := (k3.app (.one k4)).at_ i q' l e1 e2
      have qa : q' ≠ a := fun e => by
        rw [e, k1] at e3
        cases e3
      rw [upd_ne qa]
      exact n2 e3
    · rw [upd_ne r6a]
      exact at_upd (at_upd upd_same np7) np8
    · simp only [List.mem_cons, List.mem_append, List.not_mem_nil, or_false] at hu
      rcases hu with rfl | rfl | rfl | hu | rfl
      · exact k5 _ (by simp)
      · exact p8A
      · exact r6A
      · exact k5 _ (by simp [hu])
      · exact k5 _ (by simp)
set_option maxHeartbeats 4000000 in
theorem ok_LiveBook_book (T : Txt K mg c) : PDefAt P w K mg base c.LiveBook "book" "LiveBook.book" s_LiveBook_book 1 (spLBook K c) := by
  have cls_LiveBook := T.k_LiveBook.c
  have na_LiveBook_past := T.na_LiveBook_past
  refine T.f_LiveBook_book.ok sc_LiveBook_book (fun vs H Q E h => ?_) (fun _ _ _ _ _ _ us hl => match us, hl with | [_], _ => rfl) (fun f cdv A outer s H vs Q E hr h => ?_)
  · obtain ⟨a, dx, init, ns, A0, rfl, hL, q⟩ := h
    rfl
  · obtain ⟨a, dx, init, ns, A0, rfl, hL, q⟩ := h
    refine ⟨_, (pss_one (ps_ret (pe_callTy call_listN (by rfl) T.n_list (by decide +kernel) (pa_cons (pe_ix ix_list (pe_fld (pv 0) rfl) (pe_un un_neg pe_int) (fun _ _ => rfl)) pa_nil)))), ?_⟩
    refine w_start (σ' := [some (.ref a)]) rfl ?_
    walk_at "g"
    obtain ⟨p, r, ri, k1, k2, k3, k4, k5⟩ := hL.ex
    walk_at "g"
    refine w_ixLastR k2 ?_
    walk_at "g"
    exact q _ (by assumption)
set_option maxHeartbeats 4000000 in
theorem ok_InvalidNumber___init__ (T : Txt K mg c) : MDefAt P w K mg base c.InvalidNumber "__init__" "InvalidNumber.__init__" s_InvalidNumber___init__ 1 ["self", "value"] (spEInit K c.InvalidNumber) := by
  have cls_LiveBook := T.k_LiveBook.c
  have na_LiveBook_past := T.na_LiveBook_past
  refine T.f_InvalidNumber___init__.ok sc_InvalidNumber___init__ (fun vs H Q E h => ?_) (fun _ _ _ _ _ _ us hl => match us, hl with | [_, _], _ => rfl) (fun f cdv A outer s H vs Q E hr h => ?_)
  · obtain ⟨a, y, rfl, ha, q⟩ := h
    rfl
  · obtain ⟨a, y, rfl, ha, q⟩ := h
    refine ⟨_, (pss_cons (ps_expr (pe_beinit T.xb_ (pa_cons (pv 0) (pa_cons pe_str pa_nil))))
    (pss_one (ps_ost (pv 0) (pv 1)))), ?_⟩
    refine w_start (σ' := [some (.ref a), some (y)]) rfl ?_
    walk_at "g"
    refine w_veIE (by simp) T.x_InvalidNumber.o ha ?_
    walk_at "g"
    refine w_ostE T.x_InvalidNumber.o T.x_InvalidNumber.no ha (fun dx nd ne => ?_)
    walk_at "g"
    exact q dx nd ne
set_option maxHeartbeats 4000000 in
theorem ok_NothingToUndo___init__ (T : Txt K mg c) : MDefAt P w K mg base c.NothingToUndo "__init__" "NothingToUndo.__init__" s_NothingToUndo___init__ 1 ["self", "value"] (spEInit K c.NothingToUndo) := by
  have cls_LiveBook := T.k_LiveBook.c
  have na_LiveBook_past := T.na_LiveBook_past
  refine T.f_NothingToUndo___init__.ok sc_NothingToUndo___init__ (fun vs H Q E h => ?_) (fun _ _ _ _ _ _ us hl => match us, hl with | [_, _], _ => rfl) (fun f cdv A outer s H vs Q E hr h => ?_)
  · obtain ⟨a, y, rfl, ha, q⟩ := h
    rfl
  · obtain ⟨a, y, rfl, ha, q⟩ := h
    refine ⟨_, (pss_cons (ps_expr (pe_beinit T.xb_ (pa_cons (pv 0) (pa_cons pe_str pa_nil))))
    (pss_one (ps_ost (pv 0) (pv 1)))), ?_⟩
    refine w_start (σ' := [some (.ref a), some (y)]) rfl ?_
    walk_at "g"
    refine w_veIE (by simp) T.x_NothingToUndo.o ha ?_
    walk_at "g"
    refine w_ostE T.x_NothingToUndo.o T.x_NothingToUndo.no ha (fun dx nd ne => ?_)
    walk_at "g"
    exact q dx nd ne
/-! ### live books: chapters, lines, split, join, undo, titles -/
theorem Live.more {c : Cs} {H : Hp} {a dx v : Addr} {init : List (List Int)} {ns : List Int} {A : List Addr} (h : Live c H a dx init ns A) (n : ∀ u ∈ [a], u ≠ v) (nv : ∀ o : List V, H v ≠ some (.lst o)) : Live c H a dx init ns (v :: A) := by
  obtain ⟨p, r, ri, h1, h2, h3, h4, h5⟩ := h.ex
  refine ⟨p, r, ri, h1, h2, h3, h4, fun u hu hv => ?_⟩
  rcases List.mem_cons.mp hv with e | e
  · subst e
    rcases List.mem_cons.mp hu with z | z
    · exact n a (by simp) z.symm
    · rcases List.mem_cons.mp z with z | z
      · rw [z] at nv; exact nv _ h2
      · rcases List.mem_cons.mp z with z | z
        · rw [z] at nv; exact nv _ h4
        · obtain ⟨i, hi⟩ := List.getElem?_of_mem z
          obtain ⟨l, hl⟩ : ∃ l, init[i]? = some l := ⟨init[i]'(by have := (List.getElem?_eq_some_iff.mp hi).1; have := h3.len; omega), List.getElem?_eq_getElem _⟩
          exact nv _ (h3.at_ i u l hi hl)
  · exact h5 u hu e
/-- a new address is none of its places -/
theorem Live.new {c : Cs} {H : Hp} {a dx v : Addr} {init : List (List Int)} {ns : List Int} {A : List Addr} (h : Live c H a dx init ns A) (n : H v = none) : Live c H a dx init ns (v :: A) := by
  obtain ⟨p, r, ri, h1, h2, h3, h4, h5⟩ := h.ex
  refine h.more (fun u hu e => ?_) (fun o e => by rw [n] at e; cases e)
  rw [List.mem_singleton] at hu
  subst hu
  rw [e, n] at h1
  cases h1
theorem Live.here {c : Cs} {H : Hp} {a dx : Addr} {init : List (List Int)} {ns : List Int} {A : List Addr} (h : Live c H a dx init ns A) : H a = some (.ins c.LiveBook dx [("past", .ref h.ex.choose)]) := h.ex.choose_spec.choose_spec.choose_spec.1
theorem Live.less {c : Cs} {H : Hp} {a dx : Addr} {init : List (List Int)} {ns : List Int} {A B : List Addr} (h : Live c H a dx init ns A) (s : ∀ u ∈ B, u ∈ A) : Live c H a dx init ns B := by
  obtain ⟨p, r, ri, h1, h2, h3, h4, h5⟩ := h.ex
  exact ⟨p, r, ri, h1, h2, h3, h4, fun u hu hv => h5 u hu (s u hv)⟩
/-- the sizes from 1 on at which two books differ -/
def difN (xs ys : List Int) : Nat → List Int
  | 0 => []
  | n + 1 => difN xs ys n ++ (if pg xs (1 + n) = pg ys (1 + n) then [] else [1 + (n : Int)])
theorem difN_len (xs ys : List Int) : ∀ n, (difN xs ys n).length ≤ n
  | 0 => by simp [difN]
  | n + 1 => by
    have := difN_len xs ys n
    rw [difN, List.length_append]
    split <;> simp <;> omega
theorem difN_comm (xs ys : List Int) : ∀ n, difN xs ys n = difN ys xs n
  | 0 => rfl
  | n + 1 => by
    rw [difN, difN, difN_comm xs ys n]
    by_cases h : pg xs (1 + n) = pg ys (1 + n)
    · rw [if_pos h, if_pos h.symm]
    · rw [if_neg h, if_neg (fun z => h z.symm)]
def spDiffer (K : PySem.W.Frag) : Sp := fun vs H Q _ => ∃ (p q : Addr) (xs ys : List Int), vs = [.ref p, .ref q] ∧ H p = some (.lst (xs.map V.int)) ∧ H q = some (.lst (ys.map V.int)) ∧ xs.length ≤ 1000 ∧ ys.length ≤ 1000 ∧
  ∀ r H', Fr [] H H' → H r = none → H' r = some (.lst ((difN xs ys 100).map V.int)) → Q (.ref r) H'
/-- a book with chapter i split behind line l; with chapters i, i + 1 joined -/
def splitI (ns : List Int) (i : Nat) (l x : Int) : List Int := ns.take i ++ [l, x - l] ++ ns.drop (i + 1)
def joinI (ns : List Int) (i : Nat) (x y : Int) : List Int := ns.take i ++ [x + y] ++ ns.drop (i + 2)
theorem cutI_mid (ns : List Int) {i j : Nat} (h : i ≤ j) (hj : j ≤ ns.length) : cutI ns (some (i : Int)) (some (j : Int)) = (ns.drop i).take (j - i) := by
  unfold cutI
  rw [HT.sIx_nat, HT.sIx_nat, Nat.min_eq_left hj, Nat.min_eq_left (by omega)]
theorem take2 {ns : List Int} {i : Nat} {x y : Int} (hx : ns[i]? = some x) (hy : ns[i + 1]? = some y) : (ns.drop i).take 2 = [x, y] := by
  have h1 := (List.getElem?_eq_some_iff.mp hx)
  have h2 := (List.getElem?_eq_some_iff.mp hy)
  obtain ⟨l1, e1⟩ := h1
  obtain ⟨l2, e2⟩ := h2
  rw [List.drop_eq_getElem_cons l1, List.drop_eq_getElem_cons l2, e1, e2]
  rfl
theorem cutV_init {xs : List V} {y : V} : cutV (xs ++ [y]) none (some (-1)) = xs := by
  show ((xs ++ [y]).drop (HT.sIx (xs ++ [y]).length 0 none)).take (HT.sIx (xs ++ [y]).length (xs ++ [y]).length (some (-1)) - HT.sIx (xs ++ [y]).length 0 none) = xs
  have e1 : HT.sIx (xs ++ [y]).length 0 none = 0 := rfl
  have e2 : HT.sIx (xs ++ [y]).length (xs ++ [y]).length (some (-1)) = xs.length := by
    simp only [HT.sIx, List.length_append, List.length_singleton]
    rw [if_pos (by omega)]
    omega
  rw [e1, e2, List.drop_zero, Nat.sub_zero, List.take_left]
theorem w_slInit {K : PySem.W.Frag} {H : Hp} {Q : VK} {a r : Addr} {ri : List Addr} (h : H a = some (.lst ((ri ++ [r]).map V.ref))) (q : ∀ p, H p = none → Q (.ref p) (upd H p (.lst (ri.map V.ref)))) : rSlL K (.ref a) none (some (-1)) H Q :=
  ⟨a, _, rfl, SqL.of h, fun p hp => by
    rw [List.map_append]
    show Q _ (upd H p (.lst (cutV (ri.map V.ref ++ [V.ref r]) none (some (-1)))))
    rw [cutV_init]
    exact q p hp⟩
/-- a live book whose past is written anew: p' the new past, r' the new present -/
theorem Live.put {c : Cs} {H : Hp} {a dx p' r' : Addr} {init : List (List Int)} {ms : List Int} {ri : List Addr} {A : List Addr} {o : HO} (ho : H a = some o) (hno : ∀ l : List V, o ≠ .lst l) (h1 : H p' = some (.lst ((ri ++ [r']).map V.ref))) (h2 : ListsAt H ri init) (h3 : H r' = some (.lst (ms.map V.int))) (h4 : ∀ u ∈ a :: p' :: r' :: ri, u ∉ A) :
    Live c (upd H a (.ins c.LiveBook dx [("past", .ref p')])) a dx init ms A := by
  have ne : ∀ {u : Addr} {l : List V}, H u = some (.lst l) → u ≠ a := fun {u l} e z => by
    rw [z, ho] at e
    exact hno l (Option.some.inj e)
  refine ⟨p', r', ri, upd_same, by rw [upd_ne (ne h1)]; exact h1, ⟨h2.len, fun i q l e1 e2 => ?_⟩, by rw [upd_ne (ne h3)]; exact h3, h4⟩
  have e3 := h2.at_ i q l e1 e2
  rw [upd_ne (ne e3)]
  exact e3
def spLChap (c : Cs) : Sp := fun vs H Q _ => ∃ (a dx : Addr) (init : List (List Int)) (ns : List Int) (A : List Addr), vs = [.ref a] ∧ Live c H a dx init ns A ∧ Q (.int ns.length) H
def spLLines (c : Cs) : Sp := fun vs H Q _ => ∃ (a dx : Addr) (init : List (List Int)) (ns : List Int) (A : List Addr), vs = [.ref a] ∧ Live c H a dx init ns A ∧ Q (.int ns.sum) H
def spLSplit (K : PySem.W.Frag) (c : Cs) : Sp := fun vs H Q E => ∃ (a dx : Addr) (m l : Int) (init : List (List Int)) (ns : List Int) (A : List Addr), vs = [.ref a, .int m, .int l] ∧ Live c H a dx init ns A ∧ Old H A ∧ init.length ≤ 100000 ∧ ns.length ≤ 1000000 ∧
  (∀ x, 1 ≤ m → m ≤ ns.length → ns[(m - 1).toNat]? = some x → 1 ≤ l → l < x → ∀ r H', Live c H' a dx (init ++ [ns]) (splitI ns (m - 1).toNat l x) A → Fr [a] H H' → H r = none → H' r = some (.lst ((difN [x] [l, x - l] 100).map V.int)) → Q (.ref r) H') ∧
  (¬(1 ≤ m ∧ m ≤ ns.length) → Raised E H c.InvalidNumber (.int m)) ∧ (∀ x, 1 ≤ m → m ≤ ns.length → ns[(m - 1).toNat]? = some x → ¬(1 ≤ l ∧ l < x) → Raised E H c.InvalidNumber (.int l))
def spLJoin (K : PySem.W.Frag) (c : Cs) : Sp := fun vs H Q E => ∃ (a dx : Addr) (m : Int) (init : List (List Int)) (ns : List Int) (A : List Addr), vs = [.ref a, .int m] ∧ Live c H a dx init ns A ∧ Old H A ∧ init.length ≤ 100000 ∧ ns.length ≤ 1000000 ∧
  (∀ x y, 1 ≤ m → m < ns.length → ns[(m - 1).toNat]? = some x → ns[m.toNat]? = some y → ∀ r H', Live c H' a dx (init ++ [ns]) (joinI ns (m - 1).toNat x y) A → Fr [a] H H' → H r = none → H' r = some (.lst ((difN [x + y] [x, y] 100).map V.int)) → Q (.ref r) H') ∧
  (¬(1 ≤ m ∧ m < ns.length) → Raised E H c.InvalidNumber (.int m))
def spLUndo (K : PySem.W.Frag) (c : Cs) : Sp := fun vs H Q E => ∃ (a dx : Addr) (init : List (List Int)) (ns : List Int) (A : List Addr), vs = [.ref a] ∧ Live c H a dx init ns A ∧ Old H A ∧ init.length ≤ 100000 ∧
  (∀ init' ns', init = init' ++ [ns'] → ∀ H', Live c H' a dx init' ns' A → Fr [a] H H' → Q .non H') ∧ (init = [] → Raised E H c.NothingToUndo (.int 0))
/-- the first pages -/
def starts (ns : List Int) (s : Int) : List Int := (List.range ns.length).map fun i => 1 + pg (ns.take i) s
theorem starts_len (ns : List Int) (s : Int) : (starts ns s).length = ns.length := by simp [starts]
theorem starts_take {ns : List Int} {s : Int} {i : Nat} (h : i < ns.length) : (starts ns s).take (i + 1) = (starts ns s).take i ++ [1 + pg (ns.take i) s] := by
  rw [List.take_succ]
  have : (starts ns s)[i]? = some (1 + pg (ns.take i) s) := by simp [starts, h]
  rw [this]
  rfl
theorem pg_take {ns : List Int} {s x : Int} {i : Nat} (h : ns[i]? = some x) : pg (ns.take (i + 1)) s = pg (ns.take i) s + cp x s := by
  rw [List.take_succ, h]
  simp [pg]
theorem pg_one (x s : Int) : pg [x] s = cp x s := by simp [pg]
def spLTitles (K : PySem.W.Frag) (c : Cs) : SpG := fun vs H Q E => ∃ (a dx : Addr) (s : Int) (init : List (List Int)) (ns : List Int) (A : List Addr), vs = [.ref a, .int s] ∧ Live c H a dx init ns A ∧ ns.length ≤ 1000000 ∧ s < 2 ^ 390 ∧
  (1 ≤ s → ∀ H', Fr [] H H' → Q ((starts ns s).map V.int) H') ∧ (s < 1 → Raised E H c.InvalidSize (.int s))
set_option maxHeartbeats 4000000 in
theorem ok_sizes_that_differ (T : Txt K mg c) : DefAt P w K mg base "sizes_that_differ" s_sizes_that_differ 3 ["whole", "parts"] (spDiffer K) := by
  have D_count_pages := ok_count_pages (P := P) (w := w) (base := base) T
  have cls_LiveBook := T.k_LiveBook.c
  have na_LiveBook_past := T.na_LiveBook_past
  refine T.f_sizes_that_differ.ok sc_sizes_that_differ (fun vs H Q E h => ?_) (fun _ _ _ _ _ _ us hl => match us, hl with | [_, _], _ => rfl) (fun f cdv A outer s H vs Q E hr h => ?_)
  · obtain ⟨p1, p2, xs, ys, rfl, h1, h2, l1, l2, q⟩ := h
    rfl
  · obtain ⟨p1, p2, xs, ys, rfl, h1, h2, l1, l2, q⟩ := h
    refine ⟨_, (pss_one (ps_ret (pe_lc (own := [("size", 2)])  rfl sc_sizes_that_differ.nd (pi_range2 (by rfl) T.n_range (pa_cons pe_int (pa_cons (pe_op op_add (pe_gint T.c_MOST_SIZE) pe_int) pa_nil))) (blkOk_by (N := sc_sizes_that_differ_N) (sc := defScope s_sizes_that_differ) (by decide +kernel)) (fun _ _ _ _ _ => (pg_name (i := 2) sc_sizes_that_differ.nd rfl (Or.inl rfl))) (fun _ _ _ _ _ => (pts_one (pt_cmpR op_ne (pe_callD D_count_pages (hr.mono (by decide)) (pa_cons (pv 0) (pa_cons (pv 2) pa_nil))) (pe_callD D_count_pages (hr.mono (by decide)) (pa_cons (pv 1) (pa_cons (pv 2) pa_nil))) (nomark _)))) (fun _ _ _ _ _ => (pv 2))))), ?_⟩
    refine w_start (σ' := [some (.ref p1), some (.ref p2), none]) rfl ?_
    walk_at "g"
    refine l_range (fun L i H' => Fr [] H H' ∧ H' L = some (.lst ((difN xs ys i).map V.int))) (fun L hL => ⟨Fr.refl.new hL, upd_same⟩) (fun L i H' hL hi h => ?_) (fun L H' hL h => ?_)
    · obtain ⟨g1, g2⟩ := h
      refine w_gname ⟨rfl, ?_⟩
      walk_at "g"
      refine ⟨p1, xs, 1 + (i : Int), rfl, g1.at0 h1, by omega, by omega, by omega, fun H2 f2 => ?_⟩
      walk_at "g"
      refine ⟨p2, ys, 1 + (i : Int), rfl, (g1.trans f2).at0 h2, by omega, by omega, by omega, fun H3 f3 => ?_⟩
      have g2' := f3.at0 (f2.at0 g2)
      have f03 := (g1.trans f2).trans f3
      have hz := difN_len xs ys i
      walk_at "g"
      refine w_iteN (fun hne => ?_) (fun heq => ?_)
      · walk_at "g"
        refine ⟨f03.put (.inl hL), ?_⟩
        rw [upd_same, difN, if_neg hne]
      · refine ⟨f03, ?_⟩
        rw [difN, if_pos heq, List.append_nil]
        exact g2'
    · obtain ⟨g1, g2⟩ := h
      exact q L H' g1 hL g2
set_option maxHeartbeats 4000000 in
theorem ok_LiveBook_chapters (T : Txt K mg c) : PDefAt P w K mg base c.LiveBook "chapters" "LiveBook.chapters" s_LiveBook_chapters 1 (spLChap c) := by
  have cls_LiveBook := T.k_LiveBook.c
  have na_LiveBook_past := T.na_LiveBook_past
  refine T.f_LiveBook_chapters.ok sc_LiveBook_chapters (fun vs H Q E h => ?_) (fun _ _ _ _ _ _ us hl => match us, hl with | [_], _ => rfl) (fun f cdv A outer s H vs Q E hr h => ?_)
  · obtain ⟨a, dx, init, ns, A0, rfl, hL, q⟩ := h
    rfl
  · obtain ⟨a, dx, init, ns, A0, rfl, hL, q⟩ := h
    refine ⟨_, (pss_one (ps_ret (pe_callB call_lenN (by rfl) T.n_len (by decide +kernel) (pa_cons (pe_ix ix_list (pe_fld (pv 0) rfl) (pe_un un_neg pe_int) (fun _ _ => rfl)) pa_nil)))), ?_⟩
    refine w_start (σ' := [some (.ref a)]) rfl ?_
    walk_at "g"
    obtain ⟨p, r, ri, k1, k2, k3, k4, k5⟩ := hL.ex
    walk_at "g"
    refine w_ixLastR k2 ?_
    walk_at "g"
    exact q
set_option maxHeartbeats 4000000 in
theorem ok_LiveBook_lines (T : Txt K mg c) : PDefAt P w K mg base c.LiveBook "lines" "LiveBook.lines" s_LiveBook_lines 1 (spLLines c) := by
  have cls_LiveBook := T.k_LiveBook.c
  have na_LiveBook_past := T.na_LiveBook_past
  refine T.f_LiveBook_lines.ok sc_LiveBook_lines (fun vs H Q E h => ?_) (fun _ _ _ _ _ _ us hl => match us, hl with | [_], _ => rfl) (fun f cdv A outer s H vs Q E hr h => ?_)
  · obtain ⟨a, dx, init, ns, A0, rfl, hL, q⟩ := h
    rfl
  · obtain ⟨a, dx, init, ns, A0, rfl, hL, q⟩ := h
    refine ⟨_, (pss_one (ps_ret (pe_callB (cr_sum rfl) (by rfl) T.n_sum (by decide +kernel) (pa_cons (pe_ix ix_list (pe_fld (pv 0) rfl) (pe_un un_neg pe_int) (fun _ _ => rfl)) pa_nil)))), ?_⟩
    refine w_start (σ' := [some (.ref a)]) rfl ?_
    walk_at "g"
    obtain ⟨p, r, ri, k1, k2, k3, k4, k5⟩ := hL.ex
    walk_at "g"
    refine w_ixLastR k2 ?_
    walk_at "g"
    exact q
theorem kb_LiveBook_titles_size : KB0 "titles" "LiveBook.titles" s_LiveBook_titles ["self", "size"] ["size"] 1 [0] := fun _ _ _ _ _ _ us ws hu hw => match us, ws, hu, hw with | [_], [_], _, _ => rfl
set_option maxHeartbeats 4000000 in
theorem ok_LiveBook_titles (T : Txt K mg c) : MGnAt P w K mg base c.LiveBook "titles" "LiveBook.titles" s_LiveBook_titles 4 ["self", "size"] (spLTitles K c) := by
  have D_check_size := ok_check_size (P := P) (w := w) (base := base) T
  have D_count_pages := ok_count_pages (P := P) (w := w) (base := base) T
  have cls_LiveBook := T.k_LiveBook.c
  have na_LiveBook_past := T.na_LiveBook_past
  refine T.f_LiveBook_titles.okGn sc_LiveBook_titles (fun vs H Q E h => ?_) (fun _ _ _ _ _ _ us hl => match us, hl with | [_, _], _ => rfl) (fun f cdv A outer s H vs Q E pn hr h => ?_)
  · obtain ⟨a, dx, n, init, ns, A0, rfl, hL, hz, n1, q, e⟩ := h
    rfl
  · obtain ⟨a, dx, n, init, ns, A0, rfl, hL, hz, n1, q, e⟩ := h
    refine ⟨_, (gss_cons (gs_ps (ps_expr (pe_callX D_check_size (hr.mono (by decide)) takes_gcx (pa_cons (pv 1) pa_nil))))
    (gss_cons (gs_ps (ps_set (i := 2) sc_LiveBook_titles.nd rfl (Or.inl rfl) pe_int))
    (gss_cons (gs_for owns_gcx rfl (pi_list (pe_ix ix_list (pe_fld (pv 0) rfl) (pe_un un_neg pe_int) (fun _ _ => rfl))) (pg_name (i := 3) sc_LiveBook_titles.nd rfl (Or.inl rfl)) (gss_cons (gs_yield (pv 2))
    (gss_cons (gs_ps (ps_aug (i := 2) sc_LiveBook_titles.nd rfl (Or.inl rfl) (pe_callD D_count_pages (hr.mono (by decide)) (pa_cons (pe_lst (pa_cons (pv 3) pa_nil)) (pa_cons (pv 1) pa_nil))) ip_add))
    gss_nil)))
    gss_nil))), ?_⟩
    refine w_gStart (σ' := [some (.ref a), some (.int n), none, none]) rfl ?_
    walk_at "g"
    refine ⟨n, rfl, fun n0 => ?_, fun nn => e nn⟩
    obtain ⟨p, r, ri, k1, k2, k3, k4, k5⟩ := hL.ex
    walk_at "g"
    refine w_ixLastR k2 ?_
    walk_at "g"
    refine g_list (ns.map V.int) (fun i ys σ' H' => ∃ o3 : Option V, σ' = [some (.ref a), some (.int n), some (.int (1 + pg (ns.take i) n)), o3] ∧ ys = ((starts ns n).take i).map V.int ∧ Fr [] H H') ⟨none, rfl, rfl, Fr.refl⟩ ?_ ?_ ?_
    · rintro i ys σ' H' _ ⟨o3, rfl, rfl, f1⟩
      exact SqL.of (f1.at0 k4)
    · rintro i x ys σ' H' hx ⟨o3, rfl, rfl, f1⟩
      obtain ⟨y, hy, rfl⟩ := map_at hx
      have hil := (List.getElem?_eq_some_iff.mp hy).1
      walk_at "g"
      refine w_gYield (by rw [List.length_map, List.length_take]; omega) ?_
      walk_at "g"
      rename_i l1 nl1
      refine ⟨l1, [y], n, rfl, upd_same, by simp, by omega, n1, fun H2 f2 => ?_⟩
      walk_at "g"
      refine ⟨some (.int y), ?_, ?_, (f1.new nl1).trans f2⟩
      · rw [pg_take hy, pg_one, Int.add_assoc]
        rfl
      · rw [starts_take hil, List.map_append]
        rfl
    · rintro ys σ' H' ⟨o3, rfl, rfl, f1⟩
      dsimp only
      rw [List.length_map, ← starts_len ns n, List.take_length]
      exact q n0 _ f1
set_option maxHeartbeats 4000000 in
theorem ok_LiveBook_join (T : Txt K mg c) : MDefAtX P w K mg base c.LiveBook "join" "LiveBook.join" s_LiveBook_join 4 ["self", "chapter"] (spLJoin K c) := by
  have D_InvalidNumber___init__ := ok_InvalidNumber___init__ (P := P) (w := w) (base := base) T
  have D_sizes_that_differ := ok_sizes_that_differ (P := P) (w := w) (base := base) T
  have cls_LiveBook := T.k_LiveBook.c
  have na_LiveBook_past := T.na_LiveBook_past
  refine T.f_LiveBook_join.okX sc_LiveBook_join (fun vs H Q E h => ?_) (fun _ _ _ _ _ _ us hl => match us, hl with | [_, _], _ => rfl) (fun f cdv A outer s H vs Q E hr h => ?_)
  · obtain ⟨a, dx, m, init, ns, A0, rfl, hL, hA, z1, z2, q, e1⟩ := h
    rfl
  · obtain ⟨a, dx, m, init, ns, A0, rfl, hL, hA, z1, z2, q, e1⟩ := h
    refine ⟨_, (pss_cons (ps_set (i := 2) sc_LiveBook_join.nd rfl (Or.inl rfl) (pe_ix ix_list (pe_fld (pv 0) rfl) (pe_un un_neg pe_int) (fun _ _ => rfl)))
    (pss_cons (ps_if (pt_not (pt_chain op_le op_lt pe_int (pv 1) (pe_callB call_lenN (by rfl) T.n_len (by decide +kernel) (pa_cons (pv 2) pa_nil)))) (pss_one (ps_raiseX T.x_InvalidNumber D_InvalidNumber___init__ (hr.mono (by decide)) (takes_of rfl rfl rfl rfl) (pv 1))) pss_nil)
    (pss_cons (ps_set (i := 3) sc_LiveBook_join.nd rfl (Or.inl rfl) (pe_slice sl_list (pv 2) (po_some (pe_op op_sub (pv 1) pe_int)) (po_some (pe_op op_add (pv 1) pe_int))))
    (pss_cons (ps_fld (pv 0) (pe_op op_cat (pe_fld (pv 0) rfl) (pe_lst (pa_cons (pe_op op_cat (pe_op op_cat (pe_slice sl_list (pv 2) po_none (po_some (pe_op op_sub (pv 1) pe_int))) (pe_lst (pa_cons (pe_callB (cr_sum rfl) (by rfl) T.n_sum (by decide +kernel) (pa_cons (pv 3) pa_nil)) pa_nil))) (pe_slice sl_list (pv 2) (po_some (pe_op op_add (pv 1) pe_int)) po_none)) pa_nil))) rfl)
    (pss_one (ps_ret (pe_callD D_sizes_that_differ (hr.mono (by decide)) (pa_cons (pe_lst (pa_cons (pe_callB (cr_sum rfl) (by rfl) T.n_sum (by decide +kernel) (pa_cons (pv 3) pa_nil)) pa_nil)) (pa_cons (pv 3) pa_nil))))))))), ?_⟩
    refine w_start (σ' := [some (.ref a), some (.int m), none, none]) rfl ?_
    walk_at "g"
    obtain ⟨p, r, ri, k1, k2, k3, k4, k5⟩ := hL.ex
    have hz := k3.len
    walk_at "g"
    refine w_ixLastR k2 ?_
    walk_at "g"
    refine w_ite (fun m1 => ?_) (fun m1 => ?_)
    · walk_at "g"
      refine w_iteN (fun m2 => ?_) (fun m2 => ?_)
      · walk_at "g"
        exact w_raiseE ((e1 (by omega)).at Fr.refl)
      · walk_at "g"
        rename_i p1 np1 p2 np2 p3 np3
        have hc1 := cutI_len ns none (some (m - 1))
        have hc2 := cutI_len ns (some (m + 1)) none
        refine w_catI (ms := [(cutI ns (some (m - 1)) (some (m + 1))).sum]) (by walk_at "H") upd_same (by simp only [List.length_cons, List.length_nil]; omega) (fun p4 np4 => ?_)
        walk_at "g"
        rename_i p5 np5
        refine w_catI (by walk_at "H") upd_same (by simp only [List.length_append, List.length_cons, List.length_nil]; omega) (fun p6 np6 => ?_)
        walk_at "g"
        rename_i p7 np7
        refine w_catR (ps := ri ++ [r]) (qs := [p6]) (by walk_at "H") upd_same (by simp; omega) (fun p8 np8 => ?_)
        walk_at "g"
        rename_i p9 np9
        obtain ⟨x, hx⟩ : ∃ x, ns[(m - 1).toNat]? = some x := ⟨_, List.getElem?_eq_getElem (by omega)⟩
        obtain ⟨y, hy⟩ : ∃ y, ns[m.toNat]? = some y := ⟨_, List.getElem?_eq_getElem (by omega)⟩
        have eparts : cutI ns (some (m - 1)) (some (m + 1)) = [x, y] := by
          obtain ⟨i, rfl⟩ : ∃ i : Nat, m = i + 1 := ⟨(m - 1).toNat, by omega⟩
          have e1 : (i : Int) + 1 - 1 = ((i : Nat) : Int) := by omega
          have e2 : (i : Int) + 1 + 1 = ((i + 2 : Nat) : Int) := by omega
          have e3 : ((i : Int) + 1).toNat = i + 1 := by omega
          have e4 : ((i : Int) + 1 - 1).toNat = i := by omega
          rw [e1, e2, cutI_mid ns (by omega) (by omega), show i + 2 - i = 2 by omega]
          rw [e4] at hx
          rw [e3] at hy
          exact take2 hx hy
        have ep : cutI ns none (some (m - 1)) ++ [(cutI ns (some (m - 1)) (some (m + 1))).sum] ++ cutI ns (some (m + 1)) none = joinI ns (m - 1).toNat x y := by
          have e1 : m - 1 = (((m - 1).toNat : Nat) : Int) := by omega
          have e2 : m + 1 = (((m - 1).toNat + 2 : Nat) : Int) := by omega
          have e3 : cutI ns none (some (m - 1)) = ns.take (m - 1).toNat := by
            rw [e1, cutI_take]
            rfl
          have e4 : cutI ns (some (m + 1)) none = ns.drop ((m - 1).toNat + 2) := by
            rw [e2, cutI_drop]
          have e5 : ([x, y] : List Int).sum = x + y := by simp
          rw [eparts, e3, e4, e5, joinI]
        have es : (cutI ns (some (m - 1)) (some (m + 1))).sum = x + y := by
          rw [eparts]
          simp
        have n8 : H p8 = none := Fr.free (S := []) (by walk_at "F") List.not_mem_nil np8
        have n6 : H p6 = none := Fr.free (S := []) (by walk_at "F") List.not_mem_nil np6
        have n1 : H p1 = none := np1
        rw [ep, es, eparts] at np9 ⊢
        rw [ep, es, eparts] at np8
        rw [ep, es, eparts] at np7
        rw [es, eparts] at np6 np5
        rw [es, eparts] at np4
        rw [eparts] at np3 np2
        have hp6 := at_upd (u := .lst ((ri ++ [r] ++ [p6]).map V.ref)) (at_upd (u := .lst [.ref p6]) (upd_same (H := upd (upd (upd (upd (upd H p1 (.lst ([x, y].map V.int))) p2 (.lst ((cutI ns none (some (m - 1))).map V.int))) p3 (.lst [.int (x + y)])) p4 (.lst ((cutI ns none (some (m - 1)) ++ [x + y]).map V.int))) p5 (.lst ((cutI ns (some (m + 1)) none).map V.int))) (a := p6) (o := .lst ((joinI ns (m - 1).toNat x y).map V.int))) np7) np8
        have hp1 : (upd (upd (upd (upd (upd (upd (upd (upd H p1 (.lst ([x, y].map V.int))) p2 (.lst ((cutI ns none (some (m - 1))).map V.int))) p3 (.lst [.int (x + y)])) p4 (.lst ((cutI ns none (some (m - 1)) ++ [x + y]).map V.int))) p5 (.lst ((cutI ns (some (m + 1)) none).map V.int))) p6 (.lst ((joinI ns (m - 1).toNat x y).map V.int))) p7 (.lst [.ref p6])) p8 (.lst ((ri ++ [r] ++ [p6]).map V.ref))) p1 = some (.lst ([x, y].map V.int)) := at_upd (at_upd (at_upd (at_upd (at_upd (at_upd (at_upd upd_same np2) np3) np4) np5) np6) np7) np8
        have hp8 := upd_same (H := upd (upd (upd (upd (upd (upd (upd H p1 (.lst ([x, y].map V.int))) p2 (.lst ((cutI ns none (some (m - 1))).map V.int))) p3 (.lst [.int (x + y)])) p4 (.lst ((cutI ns none (some (m - 1)) ++ [x + y]).map V.int))) p5 (.lst ((cutI ns (some (m + 1)) none).map V.int))) p6 (.lst ((joinI ns (m - 1).toNat x y).map V.int))) p7 (.lst [.ref p6])) (a := p8) (o := .lst ((ri ++ [r] ++ [p6]).map V.ref))
        have f08 : Fr [] H (upd (upd (upd (upd (upd (upd (upd (upd H p1 (.lst ([x, y].map V.int))) p2 (.lst ((cutI ns none (some (m - 1))).map V.int))) p3 (.lst [.int (x + y)])) p4 (.lst ((cutI ns none (some (m - 1)) ++ [x + y]).map V.int))) p5 (.lst ((cutI ns (some (m + 1)) none).map V.int))) p6 (.lst ((joinI ns (m - 1).toNat x y).map V.int))) p7 (.lst [.ref p6])) p8 (.lst ((ri ++ [r] ++ [p6]).map V.ref))) := by walk_at "F"
        generalize upd (upd (upd (upd (upd (upd (upd (upd H p1 (.lst ([x, y].map V.int))) p2 (.lst ((cutI ns none (some (m - 1))).map V.int))) p3 (.lst [.int (x + y)])) p4 (.lst ((cutI ns none (some (m - 1)) ++ [x + y]).map V.int))) p5 (.lst ((cutI ns (some (m + 1)) none).map V.int))) p6 (.lst ((joinI ns (m - 1).toNat x y).map V.int))) p7 (.lst [.ref p6])) p8 (.lst ((ri ++ [r] ++ [p6]).map V.ref)) = H8 at hp6 hp1 hp8 f08 np9 ⊢
        have ha8 := f08.at0 k1
        have L8 : Live c (upd H8 a (.ins c.LiveBook dx [("past", .ref p8)])) a dx (init ++ [ns]) (joinI ns (m - 1).toNat x y) A0 := by
          refine Live.put ha8 (fun l e => nomatch e) hp8 ((k3.app (.one k4)).fr f08) hp6 (fun u hu => ?_)
          simp only [List.mem_cons, List.mem_append, List.not_mem_nil, or_false] at hu
          rcases hu with rfl | rfl | rfl | hu | rfl
          · exact k5 _ (by simp)
          · exact hA.nin n8
          · exact hA.nin n6
          · exact k5 _ (by simp [hu])
          · exact k5 _ (by simp)
        have p1a : p1 ≠ a := (ne_of_none k1 n1).symm
        have h1a : (upd H8 a (.ins c.LiveBook dx [("past", .ref p8)])) p1 = some (.lst ([x, y].map V.int)) := by
          rw [upd_ne p1a]
          exact hp1
        have f0a : Fr [a] H (upd H8 a (.ins c.LiveBook dx [("past", .ref p8)])) := f08.nil.put (.inr (by simp))
        refine ⟨p9, p1, [x + y], [x, y], rfl, upd_same, at_upd h1a np9, by simp, by simp, fun r' H' f' nr hr => ?_⟩
        have f8 := (f0a.new (o := .lst [.int (x + y)]) np9).trans f'.nil
        refine q x y m1 (by omega) hx hy r' H' ((L8.fr (S := []) (Fr.refl.new np9) (by simp)).fr f' (by simp)) f8 ?_ hr
        exact f0a.free (nn2 (ne_of_none upd_same (Fr.free (S := []) ((Fr.refl.new np9)) List.not_mem_nil nr)).symm) (Fr.free (S := []) ((Fr.refl.new np9)) List.not_mem_nil nr)
    · walk_at "g"
      exact w_raiseE ((e1 (by omega)).at Fr.refl)
set_option maxHeartbeats 4000000 in
theorem ok_LiveBook_undo (T : Txt K mg c) : MDefAtX P w K mg base c.LiveBook "undo" "LiveBook.undo" s_LiveBook_undo 3 ["self"] (spLUndo K c) := by
  have D_NothingToUndo___init__ := ok_NothingToUndo___init__ (P := P) (w := w) (base := base) T
  have cls_LiveBook := T.k_LiveBook.c
  have na_LiveBook_past := T.na_LiveBook_past
  refine T.f_LiveBook_undo.okX sc_LiveBook_undo (fun vs H Q E h => ?_) (fun _ _ _ _ _ _ us hl => match us, hl with | [_], _ => rfl) (fun f cdv A outer s H vs Q E hr h => ?_)
  · obtain ⟨a, dx, init, ns, A0, rfl, hL, hA, z1, q, e⟩ := h
    rfl
  · obtain ⟨a, dx, init, ns, A0, rfl, hL, hA, z1, q, e⟩ := h
    refine ⟨_, (pss_cons (ps_if (pt_cmpR op_eq (pe_callB call_lenN (by rfl) T.n_len (by decide +kernel) (pa_cons (pe_fld (pv 0) rfl) pa_nil)) pe_int (nomark _)) (pss_one (ps_raiseX T.x_NothingToUndo D_NothingToUndo___init__ (hr.mono (by decide)) (takes_of rfl rfl rfl rfl) pe_int)) pss_nil)
    (pss_one (ps_fld (pv 0) (pe_slice sl_list (pe_fld (pv 0) rfl) po_none (po_some (pe_un un_neg pe_int))) rfl))), ?_⟩
    refine w_start (σ' := [some (.ref a)]) rfl ?_
    walk_at "g"
    obtain ⟨p, r, ri, k1, k2, k3, k4, k5⟩ := hL.ex
    have hz := k3.len
    walk_at "g"
    refine w_ite (fun m1 => ?_) (fun m1 => ?_)
    · walk_at "g"
      refine w_raiseE ((e ?_).at Fr.refl)
      simp at m1
      exact List.length_eq_zero_iff.mp (by omega)
    · walk_at "g"
      refine w_slInit k2 (fun p2 np2 => ?_)
      walk_at "g"
      have ni : init.length ≠ 0 := fun z => by simp at m1; omega
      have hne : init ≠ [] := fun z => ni (by rw [z]; rfl)
      have hre : ri ≠ [] := fun z => ni (by rw [← hz, z]; rfl)
      obtain ⟨init', ns', rfl⟩ : ∃ i' n', init = i' ++ [n'] := ⟨init.dropLast, init.getLast hne, (List.dropLast_concat_getLast hne).symm⟩
      obtain ⟨ri', r', rfl⟩ : ∃ i' n', ri = i' ++ [n'] := ⟨ri.dropLast, ri.getLast hre, (List.dropLast_concat_getLast hre).symm⟩
      simp only [List.length_append, List.length_singleton] at hz
      have h3' : ListsAt H ri' init' := ⟨by omega, fun i q' l e1 e2 => k3.at_ i q' l (by rw [List.getElem?_append_left (List.getElem?_eq_some_iff.mp e1).1]; exact e1) (by rw [List.getElem?_append_left (List.getElem?_eq_some_iff.mp e2).1]; exact e2)⟩
      have h4' : H r' = some (.lst (ns'.map V.int)) := k3.at_ ri'.length r' ns' (by simp) (by rw [show ri'.length = init'.length by omega]; simp)
      refine q init' ns' rfl _ (Live.put (at_upd k1 np2) (fun l e => nomatch e) upd_same (h3'.fr (Fr.refl.new np2)) (at_upd h4' np2) (fun u hu => ?_)) (((Fr.refl.new np2)).put (.inr (by simp)))
      simp only [List.mem_cons] at hu
      rcases hu with rfl | rfl | rfl | hu
      · exact k5 _ (by simp)
      · exact hA.nin np2
      · exact k5 _ (by simp)
      · exact k5 _ (by simp [hu])
/-! ### tables of page counts -/
/-- how many chapters are longer than i -/
def gt (ns : List Int) (i : Int) : Int := (ns.countP fun x => decide (i < x) : Nat)
def ct (ns : List Int) (s : Int) : Int := (ns.map fun x => (x - 1) / s + 1).sum
theorem gt_cons (x : Int) (ns : List Int) (i : Int) : gt (x :: ns) i = gt ns i + if i < x then 1 else 0 := by
  unfold gt
  rw [List.countP_cons]
  by_cases h : i < x <;> simp [h]
theorem ct_cons (x : Int) (ns : List Int) (s : Int) : ct (x :: ns) s = (x - 1) / s + 1 + ct ns s := by simp [ct]
theorem gt_nonneg (ns : List Int) (i : Int) : 0 ≤ gt ns i := by unfold gt; omega
theorem gt_le (ns : List Int) (i : Int) : gt ns i ≤ ns.length := by
  unfold gt
  have := List.countP_le_length (p := fun x => decide (i < x)) (l := ns)
  omega
theorem gt_mono {ns : List Int} {i j : Int} (h : i ≤ j) : gt ns j ≤ gt ns i := by
  induction ns with
  | nil => simp [gt]
  | cons x ns ih =>
    rw [gt_cons, gt_cons]
    split <;> split <;> omega
theorem gt_zero {ns : List Int} {i : Int} (h : ∀ x ∈ ns, x ≤ i) : gt ns i = 0 := by
  induction ns with
  | nil => simp [gt]
  | cons x ns ih =>
    rw [gt_cons, ih fun y hy => h y (List.mem_cons_of_mem _ hy), if_neg (by have := h x List.mem_cons_self; omega)]
    omega
theorem gt_all {ns : List Int} {i : Int} (h : ∀ x ∈ ns, i < x) : gt ns i = ns.length := by
  induction ns with
  | nil => simp [gt]
  | cons x ns ih =>
    rw [gt_cons, ih fun y hy => h y (List.mem_cons_of_mem _ hy), if_pos (h x List.mem_cons_self)]
    simp
theorem gt_step (ns : List Int) (i : Int) : gt ns (i - 1) = gt ns i + ns.count i := by
  induction ns with
  | nil => simp [gt]
  | cons x ns ih =>
    rw [gt_cons, gt_cons, ih, List.count_cons]
    by_cases e : x = i
    · subst e
      simp
      omega
    · have : (x == i) = false := by simpa using e
      rw [this]
      simp
      split <;> split <;> omega
/-- the numbers at the multiples of s: 1*s, 2*s, .. m*s -/
def mults (ns : List Int) (s : Int) : Nat → Int
  | 0 => 0
  | m + 1 => mults ns s m + gt ns ((m + 1 : Nat) * s)
theorem mults_cons (x : Int) (ns : List Int) (s : Int) : ∀ m, mults (x :: ns) s m = mults ns s m + mults [x] s m
  | 0 => rfl
  | m + 1 => by
    show mults (x :: ns) s m + gt (x :: ns) _ = mults ns s m + gt ns _ + (mults [x] s m + gt [x] _)
    rw [mults_cons x ns s m, gt_cons, gt_cons]
    have : gt [] (((m + 1 : Nat) : Int) * s) = 0 := rfl
    rw [this]
    omega
theorem mults_one {x s : Int} (hs : 1 ≤ s) (hx : 1 ≤ x) : ∀ m : Nat, mults [x] s m = if (m : Int) ≤ (x - 1) / s then (m : Int) else (x - 1) / s
  | 0 => by
    have : 0 ≤ (x - 1) / s := Int.ediv_nonneg (by omega) (by omega)
    show (0 : Int) = _
    rw [if_pos (by simpa using this)]
    rfl
  | m + 1 => by
    have ih := mults_one hs hx m
    have key : (((m + 1 : Nat) : Int) * s < x) ↔ ((m + 1 : Nat) : Int) ≤ (x - 1) / s := by
      rw [Int.le_ediv_iff_mul_le (by omega)]
      omega
    show mults [x] s m + gt [x] _ = _
    rw [ih, gt_cons]
    have z : gt [] (((m + 1 : Nat) : Int) * s) = 0 := rfl
    rw [z]
    by_cases h : ((m + 1 : Nat) : Int) ≤ (x - 1) / s
    · rw [if_pos h, if_pos (key.mpr h), if_pos (by omega)]
      omega
    · rw [if_neg h, if_neg fun q => h (key.mp q)]
      split <;> omega
/-- the page count of a size, by the numbers at its multiples -/
theorem ct_mults {s : Int} (hs : 1 ≤ s) {m : Nat} : ∀ {ns : List Int}, (∀ x ∈ ns, 1 ≤ x ∧ (x - 1) / s ≤ m) → ct ns s = ns.length + mults ns s m
  | [], _ => by
    have : ∀ m, mults [] s m = 0 := by
      intro m
      induction m with
      | zero => rfl
      | succ m ih =>
        show mults [] s m + gt [] _ = 0
        rw [ih]
        rfl
    rw [this]
    rfl
  | x :: ns, h => by
    have ih := ct_mults hs (m := m) (ns := ns) fun y hy => h y (List.mem_cons_of_mem _ hy)
    have hx := h x List.mem_cons_self
    rw [ct_cons, ih, mults_cons, mults_one hs hx.1, List.length_cons]
    split <;> omega
theorem sum_pick_go {ns L : List Int} {s : Int} (hs : 1 ≤ s) (hL : ∀ i : Nat, s < i → i < L.length → L[i]? = some (gt ns i)) : ∀ c : Nat, (∀ k : Nat, k < c → ((k : Int) + 2) * s < L.length) →
    ((((List.range c).map fun k : Nat => (2 * s + s * (k : Int)).toNat).filterMap fun i => L[i]?)).sum = mults ns s (c + 1) - gt ns s
  | 0, _ => by
    show (0 : Int) = mults ns s 0 + gt ns (((0 + 1 : Nat) : Int) * s) - gt ns s
    have e : (((0 + 1 : Nat) : Int) * s) = s := by omega
    rw [e]
    show (0 : Int) = 0 + gt ns s - gt ns s
    omega
  | c + 1, h => by
    have ih := sum_pick_go hs hL c fun k hk => h k (by omega)
    have hc := h c (by omega)
    have e1 : 2 * s + s * (c : Int) = ((c : Int) + 2) * s := by rw [Int.add_mul, Int.mul_comm s c]; omega
    have hpos : s < ((c : Int) + 2) * s := by
      rw [Int.add_mul]
      have := Int.mul_nonneg (show (0 : Int) ≤ c by omega) (show 0 ≤ s by omega)
      omega
    have e2 : (((((c : Int) + 2) * s).toNat : Nat) : Int) = ((c : Int) + 2) * s := Int.toNat_of_nonneg (by omega)
    have e3 := hL (((c : Int) + 2) * s).toNat (by omega) (by omega)
    rw [e2] at e3
    rw [List.range_succ, List.map_append, List.filterMap_append, List.sum_append, ih]
    simp only [List.map_cons, List.map_nil, e1, List.filterMap_cons, e3, List.filterMap_nil, List.sum_cons, List.sum_nil]
    show _ = mults ns s (c + 1) + gt ns (((c + 1 + 1 : Nat) : Int) * s) - gt ns s
    have e4 : ((c + 1 + 1 : Nat) : Int) * s = ((c : Int) + 2) * s := by
      congr 1
    rw [e4]
    omega
theorem pick_len (L : List Int) (lo st : Option Int) : (pickSl L lo st).length ≤ (sliceRange (sliceBounds lo none st L.length).1 (sliceBounds lo none st L.length).2.1 (sliceBounds lo none st L.length).2.2).length := List.length_filterMap_le _ _
theorem sum_pick {ns L : List Int} {s : Int} (hs : 1 ≤ s) (hL : ∀ i : Nat, s < i → i < L.length → L[i]? = some (gt ns i)) :
    ∃ m : Nat, (L.length : Int) ≤ ((m : Int) + 1) * s ∧ (pickSl L (some (2 * s)) (some s)).sum = mults ns s m - gt ns s ∧ (pickSl L (some (2 * s)) (some s)).length ≤ L.length := by
  have hsp : s > 0 := by omega
  have hneg : ¬ 2 * s < 0 := by omega
  have hb : sliceBounds (some (2 * s)) none (some s) L.length = (max 0 (min (2 * s) L.length), (L.length : Int), s) := by
    simp only [sliceBounds, Option.getD_some, hsp, if_true, hneg, if_false]
  by_cases h2 : 2 * s < L.length
  · have e : max 0 (min (2 * s) (L.length : Int)) = 2 * s := by omega
    have hcount : 0 ≤ ((L.length : Int) - 2 * s + s - 1) / s := Int.ediv_nonneg (by omega) (by omega)
    have hmul := Int.mul_ediv_self_le (x := (L.length : Int) - 2 * s + s - 1) (k := s) (by omega)
    have hmod := Int.lt_mul_ediv_self_add (x := (L.length : Int) - 2 * s + s - 1) (k := s) (by omega)
    obtain ⟨c, hc⟩ := Int.eq_ofNat_of_zero_le hcount
    have hr : sliceRange (2 * s) L.length s = (List.range c).map fun k : Nat => (2 * s + s * (k : Int)).toNat := by
      simp only [sliceRange, hsp, if_true, h2, hc, Int.toNat_natCast]
    have hcs : ((L.length : Int) - 2 * s + s - 1) / s = c := hc
    rw [hcs] at hmul hmod
    have go := sum_pick_go hs hL c fun k hk => by
      have h1 : ((k : Int) + 1) * s ≤ c * s := Int.mul_le_mul_of_nonneg_right (by omega) (by omega)
      rw [Int.mul_comm s c] at hmul
      rw [Int.add_mul] at h1 ⊢
      omega
    refine ⟨c + 1, ?_, ?_, ?_⟩
    · rw [Int.mul_comm s c] at hmod
      have : (((c + 1 : Nat) : Int) + 1) * s = c * s + 2 * s := by
        rw [Int.add_mul]
        have : ((c + 1 : Nat) : Int) * s = c * s + s := by rw [show ((c + 1 : Nat) : Int) = (c : Int) + 1 by omega, Int.add_mul]; omega
        omega
      rw [this]
      omega
    · unfold pickSl
      rw [hb, e]
      show ((sliceRange (2 * s) L.length s).filterMap fun i => L[i]?).sum = _
      rw [hr]
      exact go
    · refine Nat.le_trans (pick_len _ _ _) ?_
      rw [hb, e]
      show (sliceRange (2 * s) L.length s).length ≤ _
      rw [hr, List.length_map, List.length_range]
      have h1 : (1 : Int) * c ≤ s * c := Int.mul_le_mul_of_nonneg_right (by omega) (by omega)
      omega
  · have e : max 0 (min (2 * s) (L.length : Int)) = L.length := by omega
    have hr : pickSl L (some (2 * s)) (some s) = [] := by
      unfold pickSl
      rw [hb, e]
      show (sliceRange (L.length : Int) L.length s).filterMap _ = []
      simp [sliceRange, hsp]
    refine ⟨1, by omega, ?_, by rw [hr]; simp⟩
    rw [hr]
    show (0 : Int) = mults ns s 0 + gt ns (((0 + 1 : Nat) : Int) * s) - gt ns s
    have e : (((0 + 1 : Nat) : Int) * s) = s := by omega
    rw [e]
    show (0 : Int) = 0 + gt ns s - gt ns s
    omega
/-- the table of a book -/
def tab (ns : List Int) (g : Nat) : List Int := (List.range g).map fun i : Nat => ct ns ((i : Int) + 1)
theorem tab_len (ns : List Int) (g : Nat) : (tab ns g).length = g := by simp [tab]
theorem tab_at {ns : List Int} {g i : Nat} (h : i < g) : (tab ns g)[i]? = some (ct ns ((i : Int) + 1)) := by
  unfold tab
  rw [List.getElem?_map, List.getElem?_range h]
  rfl
theorem ct_far {ns : List Int} {s : Int} (hs : 1 ≤ s) (h : ∀ x ∈ ns, 1 ≤ x ∧ x ≤ s) : ct ns s = ns.length := by
  have := ct_mults (m := 0) hs (ns := ns) fun x hx => ⟨(h x hx).1, by rw [Int.ediv_eq_zero_of_lt (by have := h x hx; omega) (by have := h x hx; omega)]; simp⟩
  rw [this]
  show (ns.length : Int) + 0 = _
  omega
/-- what the loop of longer_counts computes -/
theorem longer_step {ns L : List Int} {g : Nat} {s : Int} (hs : 1 ≤ s) (hn : ∀ x ∈ ns, 1 ≤ x ∧ x ≤ g) (hLl : L.length = g + 1) (hL : ∀ i : Nat, s < i → i < L.length → L[i]? = some (gt ns i)) :
    ct ns s - ns.length - (pickSl L (some (2 * s)) (some s)).sum = gt ns s ∧ (pickSl L (some (2 * s)) (some s)).length ≤ g + 1 := by
  obtain ⟨m, h1, h2, h3⟩ := sum_pick hs hL
  have := ct_mults (m := m) hs (ns := ns) fun x hx => ⟨(hn x hx).1, by
    have h4 : (x - 1) / s < (m : Int) + 1 := by
      rw [Int.ediv_lt_iff_lt_mul (by omega)]
      have := hn x hx
      omega
    omega⟩
  rw [h2, this]
  exact ⟨by omega, by omega⟩
def spLonger (K : PySem.W.Frag) : Sp := fun vs H Q _ => ∃ (p : Addr) (ns : List Int) (g : Nat), vs = [.ref p] ∧ H p = some (.lst ((tab ns g).map V.int)) ∧ g ≤ 100000 ∧ ns.length ≤ 100000 ∧ (∀ x ∈ ns, 1 ≤ x ∧ x ≤ g) ∧
  ∀ (q : Addr) (H' : Hp), Fr [] H H' → H q = none → H' q = some (.lst (((List.range (g + 1)).map fun i : Nat => gt ns i).map V.int)) → Q (.ref q) H'
set_option maxHeartbeats 4000000 in
theorem ok_longer_counts (T : Txt K mg c) : DefAt P w K mg base "longer_counts" s_longer_counts 1 ["table"] (spLonger K) := by
  have cls_LiveBook := T.k_LiveBook.c
  have na_LiveBook_past := T.na_LiveBook_past
  refine T.f_longer_counts.ok sc_longer_counts (fun vs H Q E h => ?_) (fun _ _ _ _ _ _ us hl => match us, hl with | [_], _ => rfl) (fun f cdv A outer s H vs Q E hr h => ?_)
  · obtain ⟨p, ns, g, rfl, hp, hg, hl, hn, q⟩ := h
    rfl
  · obtain ⟨p, ns, g, rfl, hp, hg, hl, hn, q⟩ := h
    refine ⟨_, (pss_cons (ps_set (i := 1) sc_longer_counts.nd rfl (Or.inl rfl) (pe_callB call_lenN (by rfl) T.n_len (by decide +kernel) (pa_cons (pv 0) pa_nil)))
    (pss_cons (ps_set (i := 2) sc_longer_counts.nd rfl (Or.inl rfl) (pe_ifExp (pt_cmpR (op_neD hr.units) (pv 0) (pe_lst pa_nil) (nomark _)) (pe_ix ix_list (pv 0) (pe_un un_neg pe_int) (fun _ _ => rfl)) pe_int))
    (pss_cons (ps_if (pt_cmpR op_lt (pv 2) pe_int (nomark _)) (pss_one ps_never) pss_nil)
    (pss_cons (ps_set (i := 3) sc_longer_counts.nd rfl (Or.inl rfl) (pe_op op_rep (pe_lst (pa_cons pe_int pa_nil)) (pe_op op_add (pv 1) pe_int)))
    (pss_cons (ps_for PassesOwn.never rfl (pi_range3 (by rfl) T.n_range (pa_cons (pe_op op_sub (pv 1) pe_int) (pa_cons pe_int (pa_cons (pe_un un_neg pe_int) pa_nil)))) (pg_name (i := 4) sc_longer_counts.nd rfl (Or.inl rfl)) (pss_cons (ps_asg (pe_op op_sub (pe_op op_sub (pe_ix ix_list (pv 0) (pe_op op_sub (pv 4) pe_int) (fun _ _ => rfl)) (pv 2)) (pe_callB (cr_sum rfl) (by rfl) T.n_sum (by decide +kernel) (pa_cons (pe_slStep (pv 3) (po_some (pe_op op_mulW pe_int (pv 4))) (po_some (pv 4))) pa_nil))) (pg_sub (pv 3) (pv 4) set_list))
    (pss_one (ps_if (pt_not (pt_chain op_le op_le (pe_ix ix_list (pv 3) (pe_op op_add (pv 4) pe_int) (fun _ _ => rfl)) (pe_ix ix_list (pv 3) (pv 4) (fun _ _ => rfl)) (pv 2))) (pss_one ps_never) pss_nil))))
    (pss_cons (ps_asg (pv 2) (pg_sub (pv 3) pe_int set_list))
    (pss_one (ps_ret (pv 3))))))))), ?_⟩
    refine w_start (σ' := [some (.ref p), none, none, none, none]) rfl ?_
    walk_at "g"
    have tl := tab_len ns g
    rename_i p0 np0
    refine' w_share (fun rest => w_iteN (fun hne => ?a) (fun he => ?b)) ?rest
    case a =>
      have hg0 : 0 < g := by rw [← tl]; exact List.length_pos_iff.mpr hne
      iterate 6 walk_at "G"
      rename_i ini n hn2
      have e : n = ns.length := by
        have h1 := tab_at (ns := ns) (g := g) (i := g - 1) (by omega)
        rw [ct_far (by omega) fun x hx => by have := hn x hx; omega] at h1
        have h2 : ini.length = g - 1 := by
          rw [hn2, List.length_append] at tl
          simp at tl
          omega
        rw [hn2, List.getElem?_append_right (by omega), h2, Nat.sub_self] at h1
        simpa using h1
      subst e
      exact rest.r
    case b =>
      have hg0 : g = 0 := by rw [he] at tl; simpa using tl.symm
      have e : ns = [] := by
        cases ns with
        | nil => rfl
        | cons x ns =>
          have := hn x (by simp)
          omega
      subst e
      iterate 1 walk_at "G"
      exact rest.r
    case rest =>
      walk_at "g"
      rename_i q0 nq0 L nL
      rw [tl]
      have hrep : (List.replicate ((g : Int) + 1).toNat (0 : Int)).length = g + 1 := by rw [List.length_replicate]; omega
      refine f_rangeC (fun k σ' H' => ∃ (o : Option V) (Ls : List Int), σ' = [some (.ref p), some (.int g), some (.int ns.length), some (.ref L), o] ∧ Fr [] H H' ∧ H' L = some (.lst (Ls.map V.int)) ∧ Ls.length = g + 1 ∧ ∀ i : Nat, (g : Int) - 1 - k < i → i < g + 1 → Ls[i]? = some (gt ns i)) ?_ ?_ ?_
      · refine ⟨none, _, rfl, by walk_at "F", upd_same, hrep, fun i h1 h2 => ?_⟩
        have e : i = g := by omega
        subst e
        rw [gt_zero fun x hx => (hn x hx).2, List.getElem?_replicate, if_pos (by omega)]
      · rintro k σ' H' hk ⟨o, Ls, rfl, f1, h1, hLl, hL⟩
        have hp1 := f1.at0 hp
        obtain ⟨s, hs⟩ : ∃ s : Int, s = (g : Int) - 1 + (k : Int) * -1 := ⟨_, rfl⟩
        rw [← hs]
        have hs1 : 1 ≤ s := by omega
        have hLs : ∀ i : Nat, s < i → i < Ls.length → Ls[i]? = some (gt ns i) := fun i h1 h2 => hL i (by omega) (by omega)
        obtain ⟨st1, st2⟩ := longer_step hs1 hn hLl hLs
        have hLL : L ≠ p := by walk_at "N"
        walk_at "g"
        rename_i n hn2
        have e : n = ct ns s := by
          have h1 := tab_at (ns := ns) (g := g) (i := (s - 1).toNat) (by omega)
          rw [hn2] at h1
          rw [Option.some.inj h1]
          congr 1
          omega
        subst e
        refine w_slsE (SqL.of h1) (fun e => by have := Option.some.inj e; omega) (by omega) (fun u nu => ?_)
        walk_at "g"
        rw [st1]
        have h1u : upd H' u (.lst ((pickSl Ls (some (2 * s)) (some s)).map V.int)) L = some (.lst (Ls.map V.int)) := at_upd h1 nu
        walk_at "g"
        rename_i n1 hn1 n2 hn2
        have e1 : n1 = gt ns (s + 1) := by
          rw [List.getElem?_set_ne (by omega), hLs _ (by omega) (by omega)] at hn1
          rw [← Option.some.inj hn1]
          congr 1
          omega
        have e2 : n2 = gt ns s := by
          rw [List.getElem?_set_self (by omega), st1] at hn2
          exact (Option.some.inj hn2).symm
        subst e1 e2
        refine w_iteP (gt_mono (by omega)) ?_
        walk_at "g"
        refine w_iteNP (gt_le ns s) ?_
        walk_at "g"
        refine ⟨_, _, rfl, by walk_at "F", upd_same, by rw [List.length_set]; exact hLl, fun i g1 g2 => ?_⟩
        by_cases e : i = s.toNat
        · subst e
          rw [List.getElem?_set_self (by omega)]
          congr 2
          omega
        · rw [List.getElem?_set_ne (by omega)]
          exact hL i (by omega) g2
      · rintro σ' H' ⟨o, Ls, rfl, f1, h1, hLl, hL⟩
        walk_at "g"
        have fin : Ls.set (Int.toNat 0) (ns.length : Int) = (List.range (g + 1)).map fun i : Nat => gt ns i := by
          refine List.ext_getElem? fun i => ?_
          by_cases hi : i < g + 1
          · rw [List.getElem?_map, List.getElem?_range hi]
            by_cases e : i = 0
            · subst e
              rw [show Int.toNat 0 = 0 from rfl, List.getElem?_set_self (by omega)]
              show some (ns.length : Int) = some (gt ns ((0 : Nat) : Int))
              rw [gt_all fun x hx => by have := hn x hx; omega]
            · rw [show Int.toNat 0 = 0 from rfl, List.getElem?_set_ne (by omega), hL i (by omega) hi]
              rfl
          · rw [List.getElem?_eq_none (by rw [List.length_set]; omega), List.getElem?_eq_none (by simp; omega)]
        rw [fin]
        exact q L _ (by walk_at "F") (by walk_at "Z") upd_same
/-- tuples of a length and its times -/
def PairsAt (H : Hp) (ps : List Addr) (ls : List (Int × Int)) : Prop := ps.length = ls.length ∧ ∀ (i : Nat) (p : Addr) (l : Int × Int), ps[i]? = some p → ls[i]? = some l → H p = some (.tup [.int l.1, .int l.2])
theorem PairsAt.fr {H H' : Hp} {ps : List Addr} {ls : List (Int × Int)} (h : PairsAt H ps ls) (f : Fr [] H H') : PairsAt H' ps ls := ⟨h.1, fun i p l h1 h2 => f.at0 (h.2 i p l h1 h2)⟩
theorem PairsAt.snoc {H : Hp} {ps : List Addr} {ls : List (Int × Int)} {p : Addr} {l : Int × Int} (h : PairsAt H ps ls) (hp : H p = some (.tup [.int l.1, .int l.2])) : PairsAt H (ps ++ [p]) (ls ++ [l]) := by
  refine ⟨by simp [h.1], fun i q m h1 h2 => ?_⟩
  by_cases hi : i < ps.length
  · rw [List.getElem?_append_left hi] at h1
    rw [List.getElem?_append_left (by rw [← h.1]; exact hi)] at h2
    exact h.2 i q m h1 h2
  · rw [List.getElem?_append_right (by omega)] at h1
    rw [List.getElem?_append_right (by rw [← h.1]; omega), ← h.1] at h2
    by_cases e : i - ps.length = 0
    · rw [e] at h1 h2
      simp at h1 h2
      subst h1 h2
      exact hp
    · rw [List.getElem?_eq_none (by simp; omega)] at h1
      cases h1
theorem dpAll_pairs {K : PySem.W.Frag} {H : Hp} : ∀ {ps : List Addr} {ls : List (Int × Int)}, PairsAt H ps ls → DpAll K H (ps.map V.ref) (ls.map dP)
  | [], [], _ => .nil
  | [], _ :: _, h => by cases h.1
  | _ :: _, [], h => by cases h.1
  | p :: ps, l :: ls, h => .cons (.tup (SqT.of (h.2 0 p l rfl rfl)) (.cons (.int _) (.cons (.int _) .nil))) (dpAll_pairs ⟨by simpa using h.1, fun i q m h1 h2 => h.2 (i + 1) q m (by simpa using h1) (by simpa using h2)⟩)
theorem w_eqPairs {K : PySem.W.Frag} {H : Hp} {Q : VK} {a b : Addr} {ps qs : List Addr} {ls ms : List (Int × Int)} (ha : H a = some (.lst (ps.map V.ref))) (hb : H b = some (.lst (qs.map V.ref))) (h1 : PairsAt H ps ls) (h2 : PairsAt H qs ms) (k : Q (.bl (decide (ls = ms))) H) : rEqD K (.ref a) (.ref b) H Q :=
  ⟨_, _, .lst (SqL.of ha) (dpAll_pairs h1), .lst (SqL.of hb) (dpAll_pairs h2), shaped_pairs _, shaped_pairs _, by simp only [PyData.eqv]; rw [eqvAll_pairs]; exact k⟩
theorem PairsAt.app {H : Hp} {ps qs : List Addr} {ls ms : List (Int × Int)} (h : PairsAt H ps ls) (k : PairsAt H qs ms) : PairsAt H (ps ++ qs) (ls ++ ms) := by
  refine ⟨by simp [h.1, k.1], fun i q m h1 h2 => ?_⟩
  by_cases hi : i < ps.length
  · rw [List.getElem?_append_left hi] at h1
    rw [List.getElem?_append_left (by rw [← h.1]; exact hi)] at h2
    exact h.2 i q m h1 h2
  · rw [List.getElem?_append_right (by omega)] at h1
    rw [List.getElem?_append_right (by rw [← h.1]; omega), ← h.1] at h2
    exact k.2 _ q m h1 h2
theorem PairsAt.nil {H : Hp} : PairsAt H [] [] := ⟨rfl, by simp⟩
/-- a pair's address is not the list's -/
theorem PairsAt.put {H : Hp} {a : Addr} {xs ys : List V} {ps : List Addr} {ls : List (Int × Int)} (h : PairsAt H ps ls) (ha : H a = some (.lst xs)) : PairsAt (upd H a (.lst ys)) ps ls := by
  refine ⟨h.1, fun i q m h1 h2 => ?_⟩
  have e := h.2 i q m h1 h2
  have hne : q ≠ a := by
    rintro rfl
    rw [ha] at e
    cases e
  rw [upd_ne hne]
  exact e
theorem PairsAt.frL {H H' : Hp} {a : Addr} {xs : List V} {ps : List Addr} {ls : List (Int × Int)} (h : PairsAt H ps ls) (f : Fr [a] H H') (ha : H a = some (.lst xs)) : PairsAt H' ps ls := by
  refine ⟨h.1, fun i q m h1 h2 => ?_⟩
  have e := h.2 i q m h1 h2
  have hne : q ≠ a := by
    rintro rfl
    rw [ha] at e
    cases e
  exact f.at (nn2 hne) e
theorem w_neNilP {K : PySem.W.Frag} {H : Hp} {Q : VK} {a b : Addr} {ps : List Addr} {ls : List (Int × Int)} (ha : H a = some (.lst (ps.map V.ref))) (hb : H b = some (.lst [])) (h1 : PairsAt H ps ls) (k : Q (.bl (!decide (ls = []))) H) : rNeD K (.ref a) (.ref b) H Q :=
  ⟨_, _, .lst (SqL.of ha) (dpAll_pairs h1), .lst (SqL.of hb) (dpAll_pairs (ps := []) (ls := []) .nil), shaped_pairs _, shaped_pairs _, by simp only [PyData.eqv]; rw [eqvAll_pairs]; exact k⟩
theorem PairsAt.set {H : Hp} {ps : List Addr} {ls : List (Int × Int)} {t : Addr} {l : Int × Int} (h : PairsAt H ps ls) (i : Nat) (ht : H t = some (.tup [.int l.1, .int l.2])) : PairsAt H (ps.set i t) (ls.set i l) := by
  refine ⟨by rw [List.length_set, List.length_set]; exact h.1, fun j q m h1 h2 => ?_⟩
  by_cases e : i = j
  · subst e
    have hj := (List.getElem?_eq_some_iff.mp h1).1
    rw [List.length_set] at hj
    rw [List.getElem?_set_self hj] at h1
    rw [List.getElem?_set_self (by rw [← h.1]; exact hj)] at h2
    have e1 := Option.some.inj h1
    have e2 := Option.some.inj h2
    subst e1 e2
    exact ht
  · rw [List.getElem?_set_ne e] at h1 h2
    exact h.2 j q m h1 h2
/-- the lengths that the tuples tell -/
def expand (ls : List (Int × Int)) : List Int := (ls.map fun l => List.replicate l.2.toNat l.1).flatten
theorem expand_snoc (ls : List (Int × Int)) (l : Int × Int) : expand (ls ++ [l]) = expand ls ++ List.replicate l.2.toNat l.1 := by simp [expand]
theorem expand_mem {ls : List (Int × Int)} {x : Int} (h : x ∈ expand ls) : ∃ l ∈ ls, l.1 = x := by
  unfold expand at h
  obtain ⟨r, hr, hx⟩ := List.mem_flatten.mp h
  obtain ⟨l, hl, rfl⟩ := List.mem_map.mp hr
  exact ⟨l, hl, (List.mem_replicate.mp hx).2.symm⟩
/-- the tuples of all lengths above b -/
structure TimesOf (ns : List Int) (b : Int) (ls : List (Int × Int)) : Prop where
  desc : ls.Pairwise fun x y => y.1 < x.1
  above : ∀ l ∈ ls, b < l.1
  pos : ∀ l ∈ ls, 0 < l.2
  cnt : ∀ l ∈ ls, l.2 = ns.count l.1
  all : ∀ x, b < x → x ∈ ns → ∃ l ∈ ls, l.1 = x
theorem TimesOf.nil {ns : List Int} {g : Int} (h : ∀ x ∈ ns, x ≤ g) : TimesOf ns g [] := ⟨.nil, by simp, by simp, by simp, fun x h1 h2 => by have := h x h2; omega⟩
theorem TimesOf.skip {ns : List Int} {b : Int} {ls : List (Int × Int)} (h : TimesOf ns b ls) (h0 : ns.count b = 0) : TimesOf ns (b - 1) ls :=
  ⟨h.desc, fun l hl => by have := h.above l hl; omega, h.pos, h.cnt, fun x h1 h2 => h.all x (by
    by_cases e : x = b
    · subst e
      exact absurd h2 (List.count_eq_zero.mp h0)
    · omega) h2⟩
theorem TimesOf.snoc {ns : List Int} {b : Int} {ls : List (Int × Int)} (h : TimesOf ns b ls) (h0 : 0 < ns.count b) : TimesOf ns (b - 1) (ls ++ [(b, (ns.count b : Int))]) := by
  refine ⟨List.pairwise_append.mpr ⟨h.desc, by simp, fun l hl m hm => ?_⟩, fun l hl => ?_, fun l hl => ?_, fun l hl => ?_, fun x h1 h2 => ?_⟩
  · rw [List.mem_singleton.mp hm]
    exact h.above l hl
  · rcases List.mem_append.mp hl with z | z
    · have := h.above l z
      omega
    · rw [List.mem_singleton.mp z]
      show b - 1 < b
      omega
  · rcases List.mem_append.mp hl with z | z
    · exact h.pos l z
    · rw [List.mem_singleton.mp z]
      show (0 : Int) < (ns.count b : Int)
      omega
  · rcases List.mem_append.mp hl with z | z
    · exact h.cnt l z
    · rw [List.mem_singleton.mp z]
  · by_cases e : x = b
    · exact ⟨_, List.mem_append_right _ (List.mem_singleton_self _), e.symm⟩
    · obtain ⟨l, hl, e2⟩ := h.all x (by omega) h2
      exact ⟨l, List.mem_append_left _ hl, e2⟩
theorem expand_desc : ∀ {ls : List (Int × Int)}, (ls.Pairwise fun x y => y.1 < x.1) → (expand ls).Pairwise (· ≥ ·)
  | [], _ => .nil
  | l :: ls, h => by
    obtain ⟨h1, h2⟩ := List.pairwise_cons.mp h
    have e : expand (l :: ls) = List.replicate l.2.toNat l.1 ++ expand ls := by simp [expand]
    rw [e]
    refine List.pairwise_append.mpr ⟨List.pairwise_replicate.mpr (.inr (Int.le_refl _)), expand_desc h2, fun x hx y hy => ?_⟩
    rw [(List.mem_replicate.mp hx).2]
    obtain ⟨m, hm, rfl⟩ := expand_mem hy
    have := h1 m hm
    omega
theorem expand_count : ∀ {ls : List (Int × Int)} {x : Int}, (ls.Pairwise fun x y => y.1 < x.1) → (∀ l ∈ ls, 0 ≤ l.2) → (∀ l ∈ ls, l.1 = x → ((expand ls).count x : Int) = l.2) ∧ ((∀ l ∈ ls, l.1 ≠ x) → (expand ls).count x = 0)
  | [], _, _, _ => by simp [expand]
  | l :: ls, x, h, hp => by
    obtain ⟨h1, h2⟩ := List.pairwise_cons.mp h
    obtain ⟨i1, i2⟩ := expand_count (x := x) h2 fun m hm => hp m (List.mem_cons_of_mem _ hm)
    have e : expand (l :: ls) = List.replicate l.2.toNat l.1 ++ expand ls := by simp [expand]
    rw [e, List.count_append, List.count_replicate]
    have hl := hp l List.mem_cons_self
    refine ⟨fun m hm hx => ?_, fun hno => ?_⟩
    · rcases List.mem_cons.mp hm with rfl | hm
      · rw [i2 fun q hq => by have := h1 q hq; omega, if_pos (by simpa using hx)]
        omega
      · have hne : ¬ l.1 = x := by have := h1 m hm; omega
        rw [if_neg (by simpa using hne)]
        have := i1 m hm hx
        omega
    · have hne := hno l List.mem_cons_self
      rw [i2 fun q hq => hno q (List.mem_cons_of_mem _ hq), if_neg (by simpa using hne)]
theorem TimesOf.perm {ns : List Int} {ls : List (Int × Int)} (h : TimesOf ns 0 ls) (h1 : ∀ x ∈ ns, 1 ≤ x) : (expand ls).Perm ns := by
  rw [List.perm_iff_count]
  intro x
  obtain ⟨i1, i2⟩ := expand_count (x := x) h.desc fun l hl => Int.le_of_lt (h.pos l hl)
  by_cases hx : x ∈ ns
  · obtain ⟨l, hl, e⟩ := h.all x (by have := h1 x hx; omega) hx
    have a1 := i1 l hl e
    have a2 := h.cnt l hl
    rw [e] at a2
    omega
  · rw [List.count_eq_zero.mpr hx]
    refine i2 fun l hl e => ?_
    have a1 := h.pos l hl
    have a2 := h.cnt l hl
    rw [e, List.count_eq_zero.mpr hx] at a2
    omega
def spTimes (K : PySem.W.Frag) : Sp := fun vs H Q _ => ∃ (p : Addr) (ns : List Int) (g : Nat), vs = [.ref p] ∧ H p = some (.lst ((tab ns g).map V.int)) ∧ g ≤ 100000 ∧ ns.length ≤ 100000 ∧ (∀ x ∈ ns, 1 ≤ x ∧ x ≤ g) ∧
  ∀ (q : Addr) (ps : List Addr) (ls : List (Int × Int)) (H' : Hp), Fr [] H H' → H q = none → H' q = some (.lst (ps.map V.ref)) → PairsAt H' ps ls → TimesOf ns 0 ls → Q (.ref q) H'
def spLengths (K : PySem.W.Frag) : Sp := fun vs H Q _ => ∃ (p : Addr) (ns : List Int) (g : Nat), vs = [.ref p] ∧ H p = some (.lst ((tab ns g).map V.int)) ∧ g ≤ 100000 ∧ ns.length ≤ 100000 ∧ (∀ x ∈ ns, 1 ≤ x ∧ x ≤ g) ∧
  ∀ (q : Addr) (fs : List Int) (H' : Hp), Fr [] H H' → H q = none → H' q = some (.lst (fs.map V.int)) → fs.Perm ns → fs.Pairwise (· ≥ ·) → Q (.ref q) H'
set_option maxHeartbeats 4000000 in
theorem ok_times_of (T : Txt K mg c) : DefAt P w K mg base "times_of" s_times_of 2 ["table"] (spTimes K) := by
  have D_longer_counts := ok_longer_counts (P := P) (w := w) (base := base) T
  have cls_LiveBook := T.k_LiveBook.c
  have na_LiveBook_past := T.na_LiveBook_past
  refine T.f_times_of.ok sc_times_of (fun vs H Q E h => ?_) (fun _ _ _ _ _ _ us hl => match us, hl with | [_], _ => rfl) (fun f cdv A outer s H vs Q E hr h => ?_)
  · obtain ⟨p, ns, g, rfl, hp, hg, hl, hn, q⟩ := h
    rfl
  · obtain ⟨p, ns, g, rfl, hp, hg, hl, hn, q⟩ := h
    refine ⟨_, (pss_cons (ps_set (i := 1) sc_times_of.nd rfl (Or.inl rfl) (pe_callD D_longer_counts (hr.mono (by decide)) (pa_cons (pv 0) pa_nil)))
    (pss_cons (ps_set (i := 2) sc_times_of.nd rfl (Or.inl rfl) (pe_lst pa_nil))
    (pss_cons (ps_for PassesOwn.never rfl (pi_range3 (by rfl) T.n_range (pa_cons (pe_callB call_lenN (by rfl) T.n_len (by decide +kernel) (pa_cons (pv 0) pa_nil)) (pa_cons pe_int (pa_cons (pe_un un_neg pe_int) pa_nil)))) (pg_name (i := 3) sc_times_of.nd rfl (Or.inl rfl)) (pss_cons (ps_set (i := 4) sc_times_of.nd rfl (Or.inl rfl) (pe_op op_sub (pe_ix ix_list (pv 1) (pe_op op_sub (pv 3) pe_int) (fun _ _ => rfl)) (pe_ix ix_list (pv 1) (pv 3) (fun _ _ => rfl))))
    (pss_one (ps_if (pt_cmpR op_gt (pv 4) pe_int (nomark _)) (pss_one (ps_expr (pe_bm PySem.F.plainAttrs_list PySem.F.slot_list_append PySem.F.type_list_append mt_append (pv 2) (pa_cons (pe_tup (pa_cons (pv 3) (pa_cons (pv 4) pa_nil))) pa_nil)))) pss_nil))))
    (pss_one (ps_ret (pv 2)))))), ?_⟩
    refine w_start (σ' := [some (.ref p), none, none, none, none]) rfl ?_
    walk_at "g"
    have tl := tab_len ns g
    refine ⟨p, ns, g, rfl, hp, hg, hl, hn, fun L H2 f2 nL hL => ?_⟩
    obtain ⟨Ls, hLs⟩ : ∃ Ls : List Int, Ls = (List.range (g + 1)).map fun i : Nat => gt ns i := ⟨_, rfl⟩
    have hLl : Ls.length = g + 1 := by rw [hLs]; simp
    have hLi : ∀ i : Nat, i < g + 1 → Ls[i]? = some (gt ns i) := fun i hi => by
      rw [hLs, List.getElem?_map, List.getElem?_range hi]
      rfl
    rw [← hLs] at hL
    clear hLs
    have hp2 := f2.at0 hp
    walk_at "g"
    rename_i T nT
    have hTL : L ≠ T := by walk_at "N"
    have nT0 : H T = none := f2.free List.not_mem_nil nT
    rw [tl]
    refine f_rangeC (fun k σ' H' => ∃ (o1 o2 : Option V) (ps : List Addr) (ls : List (Int × Int)), σ' = [some (.ref p), some (.ref L), some (.ref T), o1, o2] ∧ Fr [] H H' ∧ H' L = some (.lst (Ls.map V.int)) ∧ H' T = some (.lst (ps.map V.ref)) ∧ PairsAt H' ps ls ∧ TimesOf ns ((g : Int) - k) ls ∧ ls.length ≤ k) ?_ ?_ ?_
    · exact ⟨none, none, [], [], rfl, by walk_at "F", by walk_at "H", upd_same, ⟨rfl, by simp⟩, .nil fun x hx => by have := hn x hx; omega, by simp⟩
    · rintro k σ' H' hk ⟨o1, o2, ps, ls, rfl, f1, h1, h2, hps, hls, hll⟩
      obtain ⟨b, hb⟩ : ∃ b : Int, b = (g : Int) + (k : Int) * -1 := ⟨_, rfl⟩
      rw [← hb]
      have hb2 : (g : Int) - k = b := by omega
      have hb3 : (g : Int) - (k + 1 : Nat) = b - 1 := by omega
      rw [hb2] at hls
      have hb1 : 1 ≤ b := by omega
      have hpl := hps.1
      walk_at "g"
      rename_i n1 hn1 n2 hn2
      have e1 : n1 = gt ns (b - 1) := by
        rw [hLi _ (by omega)] at hn1
        rw [← Option.some.inj hn1]
        congr 1
        omega
      have e2 : n2 = gt ns b := by
        rw [hLi _ (by omega)] at hn2
        rw [← Option.some.inj hn2]
        congr 1
        omega
      have e3 : n1 - n2 = ns.count b := by
        rw [e1, e2, gt_step]
        omega
      refine w_ite (fun h => ?_) (fun h => ?_)
      · walk_at "g"
        rename_i t nt
        have ntT : T ≠ t := by walk_at "N"
        refine ⟨_, _, _, ls ++ [(b, n1 - n2)], rfl, (f1.new nt).put (.inl nT0), by walk_at "H", upd_same, ?_, ?_, by simp; omega⟩
        · refine PairsAt.snoc ?_ (by walk_at "H")
          refine ⟨hps.1, fun i p l g1 g2 => ?_⟩
          have g3 := hps.2 i p l g1 g2
          have g4 : p ≠ T := ne_of g3 h2 (by intro z; cases z)
          rw [upd_ne g4]
          exact at_upd g3 nt
        · rw [hb3, e3]
          exact hls.snoc (by omega)
      · walk_at "g"
        refine ⟨_, _, ps, ls, rfl, f1, h1, h2, hps, ?_, by omega⟩
        rw [hb3]
        exact hls.skip (by omega)
    · rintro σ' H' ⟨o1, o2, ps, ls, rfl, f1, h1, h2, hps, hls, hll⟩
      walk_at "g"
      refine q T ps ls H' f1 nT0 h2 hps ?_
      rw [show (g : Int) - (((g : Int) - 0).toNat : Nat) = 0 by omega] at hls
      exact hls
theorem expand_take_le {ls : List (Int × Int)} (i : Nat) : (expand (ls.take i)).length ≤ (expand ls).length := by
  have e : expand ls = expand (ls.take i) ++ expand (ls.drop i) := by
    unfold expand
    rw [← List.flatten_append, ← List.map_append, List.take_append_drop]
  rw [e, List.length_append]
  omega
set_option maxHeartbeats 4000000 in
theorem ok_lengths_of (T : Txt K mg c) : DefAt P w K mg base "lengths_of" s_lengths_of 3 ["table"] (spLengths K) := by
  have D_times_of := ok_times_of (P := P) (w := w) (base := base) T
  have cls_LiveBook := T.k_LiveBook.c
  have na_LiveBook_past := T.na_LiveBook_past
  refine T.f_lengths_of.ok sc_lengths_of (fun vs H Q E h => ?_) (fun _ _ _ _ _ _ us hl => match us, hl with | [_], _ => rfl) (fun f cdv A outer s H vs Q E hr h => ?_)
  · obtain ⟨p, ns, g, rfl, hp, hg, hl, hn, q⟩ := h
    rfl
  · obtain ⟨p, ns, g, rfl, hp, hg, hl, hn, q⟩ := h
    refine ⟨_, (pss_cons (ps_set (i := 1) sc_lengths_of.nd rfl (Or.inl rfl) (pe_lst pa_nil))
    (pss_cons (ps_for PassesOwn.never rfl (pi_list (pe_callD D_times_of (hr.mono (by decide)) (pa_cons (pv 0) pa_nil))) (pg_tup rfl (pgs_cons (pg_name (i := 2) sc_lengths_of.nd rfl (Or.inl rfl)) (pgs_cons (pg_name (i := 3) sc_lengths_of.nd rfl (Or.inl rfl)) pgs_nil))) (pss_one (ps_expr (pe_bm PySem.F.plainAttrs_list PySem.F.slot_list_extend PySem.F.type_list_extend mt_extend (pv 1) (pa_cons (pe_op op_rep (pe_lst (pa_cons (pv 2) pa_nil)) (pv 3)) pa_nil)))))
    (pss_one (ps_ret (pv 1))))), ?_⟩
    refine w_start (σ' := [some (.ref p), none, none, none]) rfl ?_
    walk_at "g"
    rename_i L nL
    refine ⟨p, ns, g, rfl, by walk_at "H", hg, hl, hn, fun T ps ls H2 f2 nT hT hps hls => ?_⟩
    have hperm := hls.perm fun x hx => (hn x hx).1
    have hlen := hperm.length_eq
    have hL2 : H2 L = some (.lst []) := f2.at0 upd_same
    have hTL : T ≠ L := by walk_at "N"
    have f02 : Fr [] H H2 := by walk_at "F"
    walk_at "g"
    refine f_list (ps.map V.ref) (fun i σ' H' => ∃ o1 o2 : Option V, σ' = [some (.ref p), some (.ref L), o1, o2] ∧ Fr [L] H2 H' ∧ H' L = some (.lst ((expand (ls.take i)).map V.int))) ⟨none, none, rfl, Fr.refl, by simpa [expand] using hL2⟩ ?_ ?_ ?_
    · rintro i σ' H' hi ⟨o1, o2, rfl, f1, h1⟩
      exact SqL.of (f1.at (nn2 hTL) hT)
    · rintro i x σ' H' hx ⟨o1, o2, rfl, f1, h1⟩
      obtain ⟨t, ht, rfl⟩ := map_at' hx
      have hil := (List.getElem?_eq_some_iff.mp ht).1
      obtain ⟨l, hl2⟩ : ∃ l, ls[i]? = some l := by
        have h : i < ls.length := by rw [← hps.1]; exact hil
        exact ⟨_, List.getElem?_eq_getElem h⟩
      have hlm := List.mem_of_getElem? hl2
      have htup := hps.2 i t l ht hl2
      have htL : t ≠ L := ne_of htup hL2 (by intro z; cases z)
      have htup' := f1.at (nn2 htL) htup
      have hcnt := hls.cnt l hlm
      have hpos := hls.pos l hlm
      have hcl : ns.count l.1 ≤ ns.length := List.count_le_length
      have tk : ls.take (i + 1) = ls.take i ++ [l] := by rw [List.take_succ, hl2]; rfl
      have hexp := expand_take_le (ls := ls) (i + 1)
      rw [tk, expand_snoc, List.length_append, List.length_replicate] at hexp
      refine w_gTup (SqT.of htup') rfl ?_
      walk_at "g"
      rw [tk, expand_snoc]
      exact ⟨_, _, rfl, by walk_at "F", upd_same⟩
    · rintro σ' H' ⟨o1, o2, rfl, f1, h1⟩
      rw [List.length_map, hps.1, List.take_length] at h1
      walk_at "g"
      exact q L _ H' (f02.loc nL f1) nL h1 hperm (expand_desc hls.desc)
theorem ct_bound {ns : List Int} {s M : Int} (hs : 1 ≤ s) (h : ∀ x ∈ ns, 1 ≤ x ∧ x ≤ M) : 0 ≤ ct ns s ∧ ct ns s ≤ ns.length * M := by
  induction ns with
  | nil => simp [ct]
  | cons x ns ih =>
    obtain ⟨h1, h2⟩ := ih fun y hy => h y (List.mem_cons_of_mem _ hy)
    have hx := h x List.mem_cons_self
    have h3 : 0 ≤ (x - 1) / s := Int.ediv_nonneg (by omega) (by omega)
    have h4 : (x - 1) / s ≤ x - 1 := Int.ediv_le_self _ (by omega)
    rw [ct_cons, List.length_cons]
    have h5 : ((ns.length + 1 : Nat) : Int) * M = ns.length * M + M := by rw [show ((ns.length + 1 : Nat) : Int) = (ns.length : Int) + 1 by omega, Int.add_mul, Int.one_mul]
    rw [h5]
    omega
theorem tab_succ (ns : List Int) (i : Nat) : tab ns (i + 1) = tab ns i ++ [ct ns ((i : Int) + 1)] := by
  unfold tab
  rw [List.range_succ, List.map_append]
  rfl
theorem tab_mem {ns : List Int} {g : Nat} {y : Int} (h : y ∈ tab ns g) : ∃ i : Nat, i < g ∧ y = ct ns ((i : Int) + 1) := by
  obtain ⟨i, hi, e⟩ := List.mem_map.mp h
  exact ⟨i, List.mem_range.mp hi, e.symm⟩
theorem tab_perm {ns ms : List Int} (h : ns.Perm ms) (g : Nat) : tab ns g = tab ms g := by
  unfold tab ct
  congr 1
  funext i
  exact perm_sum (h.map _)
theorem ct_snoc1 {ns : List Int} {s : Int} : ct (ns ++ [1]) s = ct ns s + 1 := by
  simp [ct, List.sum_append]
theorem pw_perm_eq {xs ys : List Int} (h : xs.Perm ys) (hx : xs.Pairwise (· ≥ ·)) (hy : ys.Pairwise (· ≥ ·)) : xs = ys :=
  List.Perm.eq_of_pairwise (fun a b _ _ h1 h2 => by omega) hx hy h
theorem rev_desc {xs : List Int} (h : xs.Pairwise (· ≤ ·)) : xs.reverse.Pairwise (· ≥ ·) := List.pairwise_reverse.mpr h
/-- the word of an error -/
inductive KindOf (c : Cs) : Addr → Str → Prop
  | book : KindOf c c.InvalidBook "book"
  | number : KindOf c c.InvalidNumber "number"
  | undo : KindOf c c.NothingToUndo "undo"
def spKind (c : Cs) : Sp := fun vs H Q _ => ∃ (a D d : Addr) (y : V) (wd : Str), vs = [.ref a] ∧ H a = some (exh a (.ref D) (some d)) ∧ H d = some (.xd [("value", y)]) ∧ KindOf c D wd ∧
  ∀ H', Fr [] H H' → Q (.str wd) H'
/-! ### things that are alike -/
structure Tw (K : PySem.W.Frag) (H : Hp) (n : Nat) (x y : V) : Prop where
  ex : ∃ d, Dp K H x d ∧ Dp K H y d ∧ PyData.canLay0 d = true ∧ PyData.depth d ≤ n
structure TwA (K : PySem.W.Frag) (H : Hp) (n : Nat) (xs ys : List V) : Prop where
  ex : ∃ ds, DpAll K H xs ds ∧ DpAll K H ys ds ∧ PyData.canLayAll0 ds = true ∧ PyData.depthAll ds ≤ n
theorem TwA.nil {K : PySem.W.Frag} {H : Hp} {n : Nat} : TwA K H n [] [] := ⟨[], .nil, .nil, by simp [PyData.canLayAll0], by simp [PyData.depthAll]⟩
theorem TwA.cons {K : PySem.W.Frag} {H : Hp} {n : Nat} {x y : V} {xs ys : List V} (h : Tw K H n x y) (k : TwA K H n xs ys) : TwA K H n (x :: xs) (y :: ys) := by
  obtain ⟨d, h1, h2, h3, h4⟩ := h.ex
  obtain ⟨ds, k1, k2, k3, k4⟩ := k.ex
  exact ⟨d :: ds, .cons h1 k1, .cons h2 k2, by simp only [PyData.canLayAll0, h3, k3, Bool.and_self], by simp only [PyData.depthAll]; omega⟩
theorem Tw.scal {K : PySem.W.Frag} {H : Hp} {n : Nat} {v : V} (h : Pg.scal v = true) (hn : 1 ≤ n) : Tw K H n v v :=
  ⟨sD v, scal_dp h, scal_dp h, (scal_can h).1, Nat.le_trans (scal_can h).2 hn⟩
theorem Tw.int {K : PySem.W.Frag} {H : Hp} {n : Nat} {i : Int} (hn : 1 ≤ n) : Tw K H n (.int i) (.int i) := .scal rfl hn
theorem Tw.lst {K : PySem.W.Frag} {H : Hp} {n : Nat} {p q : Addr} {xs ys : List V} (h1 : H p = some (.lst xs)) (h2 : H q = some (.lst ys)) (k : TwA K H n xs ys) : Tw K H (n + 1) (.ref p) (.ref q) := by
  obtain ⟨ds, k1, k2, k3, k4⟩ := k.ex
  exact ⟨.list ds, .lst (SqL.of h1) k1, .lst (SqL.of h2) k2, by simp only [PyData.canLay0]; exact k3, by simp only [PyData.depth]; omega⟩
theorem TwA.ints {K : PySem.W.Frag} {H : Hp} {n : Nat} (hn : 1 ≤ n) : ∀ ns : List Int, TwA K H n (ns.map V.int) (ns.map V.int)
  | [] => .nil
  | i :: ns => .cons (.int hn) (TwA.ints hn ns)
theorem Tw.ints {K : PySem.W.Frag} {H : Hp} {n : Nat} {p q : Addr} {ns : List Int} (hn : 2 ≤ n) (h1 : H p = some (.lst (ns.map V.int))) (h2 : H q = some (.lst (ns.map V.int))) : Tw K H n (.ref p) (.ref q) := by
  obtain ⟨m, rfl⟩ : ∃ m, n = m + 1 := ⟨n - 1, by omega⟩
  exact .lst h1 h2 (TwA.ints (by omega) ns)
theorem Tw.same {K : PySem.W.Frag} {H : Hp} {n : Nat} {x y : V} (hn : n ≤ 64) (h : Tw K H n x y) : ∃ d, Dp K H x d ∧ Dp K H y d ∧ SeqAt.shaped d = true ∧ PyData.eqv d d = true := by
  obtain ⟨d, h1, h2, h3, h4⟩ := h.ex
  refine ⟨d, h1, h2, ?_, PySem.SeqAt.eqv_refl _ h3⟩
  unfold SeqAt.shaped
  rw [h3, decide_eq_true (by omega : PyData.depth d ≤ 64)]
  rfl
theorem w_eqTw {K : PySem.W.Frag} {H : Hp} {Q : VK} {x y : V} (n : Nat) (hn : n ≤ 64) (h : Tw K H n x y) (k : Q (.bl true) H) : rEqD K x y H Q := by
  obtain ⟨d, a, b, c, e⟩ := h.same hn
  exact ⟨d, d, a, b, c, c, by rw [e]; exact k⟩
theorem w_neTw {K : PySem.W.Frag} {H : Hp} {Q : VK} {x y : V} (n : Nat) (hn : n ≤ 64) (h : Tw K H n x y) (k : Q (.bl false) H) : rNeD K x y H Q := by
  obtain ⟨d, a, b, c, e⟩ := h.same hn
  exact ⟨d, d, a, b, c, c, by rw [e]; exact k⟩
/-! ### what the laws see of a live book -/
def spTold (K : PySem.W.Frag) (c : Cs) : Sp := fun vs H Q _ => ∃ (a dx p : Addr) (s : Int) (init : List (List Int)) (ns : List Int) (A : List Addr), vs = [.ref a, .ref p, .int s] ∧ Live c H a dx init ns A ∧ H p = some (.lst (ns.map V.int)) ∧ ns.length ≤ 100000 ∧ 1 ≤ s ∧ s < 2 ^ 390 ∧
  ∀ H', Fr [] H H' → Q (.bl true) H'
def spAdded (K : PySem.W.Frag) (c : Cs) : Sp := fun vs H Q E => ∃ (a dx p : Addr) (init : List (List Int)) (ns xs : List Int) (A : List Addr), vs = [.ref a, .ref p] ∧ Live c H a dx init ns A ∧ Old H A ∧ H p = some (.lst (xs.map V.int)) ∧ xs.length ≤ 4 ∧ init.length ≤ 100000 ∧ ns.length ≤ 1000000 ∧
  ((∀ n ∈ xs, 1 ≤ n) → ∀ H', Live c H' a dx (init ++ [ns]) (ns ++ xs) A → Fr [a] H H' → Q .non H') ∧ ∀ i : Nat, BadAt xs i → Raised E H c.InvalidBook (.int i)
/-- a call that is refused -/
def Says (Q : VK) (H : Hp) (wd : Str) (y : Int) : Prop := ∀ r H', Fr [] H H' → H r = none → H' r = some (.lst [.str wd, .int y]) → Q (.ref r) H'
/-- a call that gives a list of numbers -/
def Gives (Q : VK) (H : Hp) (S : List Addr) (R : Hp → Prop) (ys : List Int) : Prop := ∀ r t H', R H' → Fr S H H' → H r = none → H t = none → H' r = some (.lst [.ref t]) → H' t = some (.lst (ys.map V.int)) → Q (.ref r) H'
def spCalled (K : PySem.W.Frag) (c : Cs) : Sp := fun vs H Q _ => ∃ (a dx p : Addr) (wd : Str) (init : List (List Int)) (ns xs : List Int) (A : List Addr), vs = [.ref a, .str wd, .ref p] ∧ Live c H a dx init ns A ∧ Old H A ∧ H p = some (.lst (xs.map V.int)) ∧ init.length ≤ 100000 ∧ ns.length ≤ 1000000 ∧
  ((wd = "add" ∧ xs.length ≤ 4 ∧ ((∀ n ∈ xs, 1 ≤ n) → ∀ r H', Live c H' a dx (init ++ [ns]) (ns ++ xs) A → Fr [a] H H' → H r = none → H' r = some (.lst [.non]) → Q (.ref r) H') ∧ (∀ i : Nat, BadAt xs i → Says Q H "book" i)) ∨
   (wd = "split" ∧ ∃ m l, xs = [m, l] ∧ (∀ x, 1 ≤ m → m ≤ ns.length → ns[(m - 1).toNat]? = some x → 1 ≤ l → l < x → Gives Q H [a] (fun H' => Live c H' a dx (init ++ [ns]) (splitI ns (m - 1).toNat l x) A) (difN [x] [l, x - l] 100)) ∧
     (¬(1 ≤ m ∧ m ≤ ns.length) → Says Q H "number" m) ∧ (∀ x, 1 ≤ m → m ≤ ns.length → ns[(m - 1).toNat]? = some x → ¬(1 ≤ l ∧ l < x) → Says Q H "number" l)) ∨
   (wd = "join" ∧ ∃ m, xs = [m] ∧ (∀ x y, 1 ≤ m → m < ns.length → ns[(m - 1).toNat]? = some x → ns[m.toNat]? = some y → Gives Q H [a] (fun H' => Live c H' a dx (init ++ [ns]) (joinI ns (m - 1).toNat x y) A) (difN [x + y] [x, y] 100)) ∧
     (¬(1 ≤ m ∧ m < ns.length) → Says Q H "number" m)) ∨
   (wd = "undo" ∧ (∀ init' ns', init = init' ++ [ns'] → ∀ r H', Live c H' a dx init' ns' A → Fr [a] H H' → H r = none → H' r = some (.lst [.non]) → Q (.ref r) H') ∧ (init = [] → Says Q H "undo" 0)))
theorem added_go {K : PySem.W.Frag} {c : Cs} {H : Hp} {Q : VK} {E : XK} {a dx : Addr} {init : List (List Int)} {ns xs : List Int} {A : List Addr} (hL : Live c H a dx init ns A) (hA : Old H A) (hx : xs.length ≤ 1000) (z1 : init.length ≤ 100000) (z2 : ns.length ≤ 1000000)
    (q : (∀ n ∈ xs, 1 ≤ n) → ∀ H', Live c H' a dx (init ++ [ns]) (ns ++ xs) A → Fr [a] H H' → Q .non H') (e : ∀ i : Nat, BadAt xs i → Raised E H c.InvalidBook (.int i)) : stSp 1 (spLAdd K c) (.ref a :: xs.map V.int) H Q E := by
  refine ⟨[.ref a], xs.map V.int, rfl, rfl, by rw [List.length_map]; exact szle' (by omega), fun t nt => ?_⟩
  refine ⟨a, dx, t, init, ns, xs, A, rfl, hL.fr (S := []) (Fr.refl.new nt) (by simp), hA.fr (Fr.refl.new nt), upd_same, z1, z2, by omega, fun hg H' hL' f' => ?_, fun i hb => (e i hb).fr (Fr.refl.new nt)⟩
  exact q hg H' hL' ((Fr.refl.new nt).trans f')
set_option maxHeartbeats 4000000 in
theorem ok_law_told_right (T : Txt K mg c) : DefAt P w K mg base "_law_told_right" s_law_told_right 8 ["live", "lengths", "lines_here"] (spTold K c) := by
  have D_LiveBook_book := ok_LiveBook_book (P := P) (w := w) (base := base) T
  have D_LiveBook_chapters := ok_LiveBook_chapters (P := P) (w := w) (base := base) T
  have D_LiveBook_lines := ok_LiveBook_lines (P := P) (w := w) (base := base) T
  have D_law_pages := ok_law_pages (P := P) (w := w) (base := base) T
  have D_LiveBook_titles := ok_LiveBook_titles (P := P) (w := w) (base := base) T
  have cls_LiveBook := T.k_LiveBook.c
  have na_LiveBook_past := T.na_LiveBook_past
  refine T.f_law_told_right.ok sc_law_told_right (fun vs H Q E h => ?_) (fun _ _ _ _ _ _ us hl => match us, hl with | [_, _, _], _ => rfl) (fun f cdv A outer s H vs Q E hr h => ?_)
  · obtain ⟨a, dx, p, n, init, ns, A0, rfl, hL, hp, hz, n0, n1, q⟩ := h
    rfl
  · obtain ⟨a, dx, p, n, init, ns, A0, rfl, hL, hp, hz, n0, n1, q⟩ := h
    refine ⟨_, (pss_cons (ps_if (pt_cmpR (op_neD hr.units) (pe_lst (pa_cons (pe_propD (pv 0) T.k_LiveBook.c D_LiveBook_book (hr.mono (by decide))) (pa_cons (pe_propD (pv 0) T.k_LiveBook.c D_LiveBook_chapters (hr.mono (by decide))) (pa_cons (pe_propD (pv 0) T.k_LiveBook.c D_LiveBook_lines (hr.mono (by decide))) pa_nil)))) (pe_lst (pa_cons (pv 1) (pa_cons (pe_callB call_lenN (by rfl) T.n_len (by decide +kernel) (pa_cons (pv 1) pa_nil)) (pa_cons (pe_callB (cr_sum rfl) (by rfl) T.n_sum (by decide +kernel) (pa_cons (pv 1) pa_nil)) pa_nil)))) (nomark _)) (pss_one (ps_ret pe_bl)) pss_nil)
    (pss_cons (ps_par (i := 3) (j := 4) rfl sc_law_told_right.nd rfl rfl (by decide) rfl rfl (pa_cons (pe_lst pa_nil) (pa_cons pe_int pa_nil)) (by rfl))
    (pss_cons (ps_for PassesOwn.never rfl (pi_list (pv 1)) (pg_name (i := 5) sc_law_told_right.nd rfl (Or.inl rfl)) (pss_cons (ps_expr (pe_bm PySem.F.plainAttrs_list PySem.F.slot_list_append PySem.F.type_list_append mt_append (pv 3) (pa_cons (pv 4) pa_nil)))
    (pss_one (ps_set (i := 4) sc_law_told_right.nd rfl (Or.inl rfl) (pe_op op_add (pv 4) (pe_callD D_law_pages (hr.mono (by decide)) (pa_cons (pe_lst (pa_cons (pv 5) pa_nil)) (pa_cons (pv 2) pa_nil))))))))
    (pss_one (ps_ret (pe_cmpR (op_eqD hr.units) (pe_lst (pa_cons (pe_listGM (pv 0) T.k_LiveBook.c D_LiveBook_titles (hr.mono (by decide)) (by rfl) T.n_list (pa_cons (pv 2) pa_nil)) (pa_cons (pe_listGMK (pv 0) T.k_LiveBook.c D_LiveBook_titles (hr.mono (by decide)) (by rfl) T.n_list (pk_cons (pv 2) pk_nil) kb_LiveBook_titles_size) pa_nil))) (pe_lst (pa_cons (pv 3) (pa_cons (pv 3) pa_nil))) (nomark _))))))), ?_⟩
    refine w_start (σ' := [some (.ref a), some (.ref p), some (.int n), none, none, none]) rfl ?_
    obtain ⟨pp, r, ri, k1, k2, k3, k4, k5⟩ := hL.ex
    walk_at "g"
    refine ⟨a, dx, init, ns, A0, rfl, hL, fun b nb => ?_⟩
    have L1 := hL.fr (S := []) (Fr.refl.new (o := .lst (ns.map V.int)) nb) (by simp)
    walk_at "g"
    refine ⟨a, dx, init, ns, A0, rfl, L1, ?_⟩
    walk_at "g"
    refine ⟨a, dx, init, ns, A0, rfl, L1, ?_⟩
    walk_at "g"
    rename_i t1 nt1 t2 nt2
    have L2 := (L1.fr (S := []) (Fr.refl.new (o := .lst [.ref b, .int ns.length, .int ns.sum]) nt1) (by simp)).fr (S := []) (Fr.refl.new (o := .lst [.ref p, .int ns.length, .int ns.sum]) nt2) (by simp)
    refine w_neTw 5 (by omega) (.lst (by walk_at "H") upd_same (.cons (.ints (by omega) (by walk_at "H") (by walk_at "H")) (.cons (.int (by omega)) (.cons (.int (by omega)) .nil)))) ?_
    have hp2 := at_upd (u := .lst [.ref p, .int ns.length, .int ns.sum]) (at_upd (u := .lst [.ref b, .int ns.length, .int ns.sum]) (at_upd (u := .lst (ns.map V.int)) hp nb) nt1) nt2
    have f02 := (((Fr.refl (S := []) (H := H)).new (o := .lst (ns.map V.int)) nb).new (o := .lst [.ref b, .int ns.length, .int ns.sum]) nt1).new (o := .lst [.ref p, .int ns.length, .int ns.sum]) nt2
    generalize upd (upd (upd H b (.lst (ns.map V.int))) t1 (.lst [.ref b, .int ns.length, .int ns.sum])) t2 (.lst [.ref p, .int ns.length, .int ns.sum]) = H2 at L2 hp2 f02 ⊢
    clear nt1 nt2 L1 k1 k2 k3 k4 nb
    walk_at "g"
    rename_i t3 nt3
    refine f_list (ns.map V.int) (fun i σ' H' => ∃ o5 : Option V, σ' = [some (.ref a), some (.ref p), some (.int n), some (.ref t3), some (.int (1 + pg (ns.take i) n)), o5] ∧ Fr [] H2 H' ∧ H' t3 = some (.lst (((starts ns n).take i).map V.int))) ⟨none, rfl, Fr.refl.new nt3, upd_same⟩ ?_ ?_ ?_
    · rintro i σ' H' _ ⟨o5, rfl, f1, g1⟩
      exact SqL.of (f1.at0 hp2)
    · rintro i x σ' H' hx ⟨o5, rfl, f1, g1⟩
      obtain ⟨y, hy, rfl⟩ := map_at hx
      have hil := (List.getElem?_eq_some_iff.mp hy).1
      have hz2 : ((starts ns n).take i).length < 16777216 := by rw [List.length_take]; omega
      walk_at "g"
      rename_i l1 nl1
      refine ⟨l1, [y], n, rfl, upd_same, by simp, by omega, n1, fun H3 f3 => ?_⟩
      walk_at "g"
      have t3z : H' t3 = some (.lst (((starts ns n).take i).map V.int)) := g1
      refine ⟨some (.int y), ?_, ?_, ?_⟩
      · rw [pg_take hy, pg_one, Int.add_assoc]
        rfl
      · refine Fr.trans ?_ f3
        refine Fr.new (f1.put (.inl nt3)) nl1
      · refine f3.at0 (at_upd ?_ nl1)
        rw [upd_same, starts_take hil, List.map_append]
    · rintro σ' H' ⟨o5, rfl, f1, g1⟩
      rw [List.length_map, ← starts_len ns n, List.take_length] at g1
      have L3 := L2.fr f1 (by simp)
      have L4 := L3
      obtain ⟨pp, r, ri, k1, k2, k3, k4, k5⟩ := L4.ex
      walk_at "g"
      refine ⟨a, dx, n, init, ns, A0, rfl, L3, by omega, n1, fun _ H4 f4 => ?_, fun z => absurd z (by omega)⟩
      have L5 := L3.fr f4 (by simp)
      have g4 := f4.at0 g1
      have f04 := (f02.trans f1).trans f4
      have L6 := L5
      obtain ⟨pp', r', ri', k1', k2', k3', k4', k5'⟩ := L6.ex
      clear f4 f1 k1 k2 k3 k4 k5 g1 L3 hp2 f02 L2
      walk_at "g"
      rename_i t4 nt4
      refine ⟨a, dx, n, init, ns, A0, rfl, L5.fr (S := []) (Fr.refl.new nt4) (by simp), by omega, n1, fun _ H6 f6 => ?_, fun z => absurd z (by omega)⟩
      have h4 := f6.at0 upd_same
      have g6 := f6.at0 (at_upd g4 nt4)
      have f06 := (f04.new (o := .lst ((starts ns n).map V.int)) nt4).trans f6
      clear f6 f04 g4 k1' k2' k3' k4' k5' L5
      walk_at "g"
      refine w_eqTw 5 (by omega) (.lst (by walk_at "H") upd_same (.cons (.ints (by omega) (by walk_at "H") (by walk_at "H")) (.cons (.ints (by omega) (by walk_at "H") (by walk_at "H")) .nil))) ?_
      walk_at "g"
      exact q _ (by walk_at "F")
/-- the shown form of a list of numbers is text that strings can hold -/
theorem of_cps (s : String) {c : Nat} (h : c ∈ TL.tl (Str.ofString s)) : c < 0x110000 := by
  rw [TL.tl_ofString] at h
  obtain ⟨x, _, rfl⟩ := List.mem_map.mp h
  rcases x.valid with v | v
  · exact Nat.lt_trans v (by decide)
  · exact v.2
theorem join_cps {S : List Nat} : ∀ {ws : List (List Nat)} {c : Nat}, c ∈ TL.joinL S ws → c ∈ S ∨ ∃ u ∈ ws, c ∈ u
  | [], c, h => by cases h
  | [p], c, h => .inr ⟨p, by simp, h⟩
  | p :: q :: r, c, h => by
    unfold TL.joinL at h
    rcases List.mem_append.mp h with z | z
    · exact .inr ⟨p, by simp, z⟩
    · rcases List.mem_append.mp z with z | z
      · exact .inl z
      · rcases join_cps z with z | ⟨u, hu, z⟩
        · exact .inl z
        · exact .inr ⟨u, List.mem_cons_of_mem _ hu, z⟩
theorem ints_ok (ns : List Int) : PyData.strOk (dI ns).shown = true := by
  have key : ∀ c ∈ TL.tl (dI ns).shown, c < 0x110000 := by
    intro c hc
    rw [dI, PyData.shown_list, TL.tl_append, TL.tl_append, TL.tl_join, PyData.shownAll_ints] at hc
    rcases List.mem_append.mp hc with z | z
    · rcases List.mem_append.mp z with z | z
      · exact of_cps _ z
      · rcases join_cps z with z | ⟨u, hu, z⟩
        · exact of_cps _ z
        · simp only [List.map_map, List.mem_map, Function.comp] at hu
          obtain ⟨n, _, rfl⟩ := hu
          exact of_cps _ z
    · exact of_cps _ z
  unfold PyData.strOk
  rw [Array.all_eq_true_iff_forall_mem]
  intro x hx
  exact decide_eq_true (key x (by simpa [TL.tl] using hx))
/-! ### split: the returned list is none of the object's places -/
def spLSplit26 (K : PySem.W.Frag) (c : Cs) : Sp := fun vs H Q E => ∃ (a dx : Addr) (m l : Int) (init : List (List Int)) (ns : List Int) (A : List Addr), vs = [.ref a, .int m, .int l] ∧ Live c H a dx init ns A ∧ Old H A ∧ init.length ≤ 100000 ∧ ns.length ≤ 1000000 ∧
  (∀ x, 1 ≤ m → m ≤ ns.length → ns[(m - 1).toNat]? = some x → 1 ≤ l → l < x → ∀ r H', Live c H' a dx (init ++ [ns]) (splitI ns (m - 1).toNat l x) (r :: A) → Fr [a] H H' → H r = none → H' r = some (.lst ((difN [x] [l, x - l] 100).map V.int)) → Q (.ref r) H') ∧
  (¬(1 ≤ m ∧ m ≤ ns.length) → Raised E H c.InvalidNumber (.int m)) ∧ (∀ x, 1 ≤ m → m ≤ ns.length → ns[(m - 1).toNat]? = some x → ¬(1 ≤ l ∧ l < x) → Raised E H c.InvalidNumber (.int l))
set_option maxHeartbeats 4000000 in
theorem ok_LiveBook_split (T : Txt K mg c) : MDefAtX P w K mg base c.LiveBook "split" "LiveBook.split" s_LiveBook_split 4 ["self", "chapter", "line"] (spLSplit26 K c) := by
  have D_InvalidNumber___init__ := ok_InvalidNumber___init__ (P := P) (w := w) (base := base) T
  have D_sizes_that_differ := ok_sizes_that_differ (P := P) (w := w) (base := base) T
  have cls_LiveBook := T.k_LiveBook.c
  have na_LiveBook_past := T.na_LiveBook_past
  refine T.f_LiveBook_split.okX sc_LiveBook_split (fun vs H Q E h => ?_) (fun _ _ _ _ _ _ us hl => match us, hl with | [_, _, _], _ => rfl) (fun f cdv A outer s H vs Q E hr h => ?_)
  · obtain ⟨a, dx, m, l, init, ns, A0, rfl, hL, hA, z1, z2, q, e1, e2⟩ := h
    rfl
  · obtain ⟨a, dx, m, l, init, ns, A0, rfl, hL, hA, z1, z2, q, e1, e2⟩ := h
    refine ⟨_, (pss_cons (ps_set (i := 3) sc_LiveBook_split.nd rfl (Or.inl rfl) (pe_ix ix_list (pe_fld (pv 0) rfl) (pe_un un_neg pe_int) (fun _ _ => rfl)))
    (pss_cons (ps_if (pt_not (pt_chain op_le op_le pe_int (pv 1) (pe_callB call_lenN (by rfl) T.n_len (by decide +kernel) (pa_cons (pv 3) pa_nil)))) (pss_one (ps_raiseX T.x_InvalidNumber D_InvalidNumber___init__ (hr.mono (by decide)) (takes_of rfl rfl rfl rfl) (pv 1))) pss_nil)
    (pss_cons (ps_set (i := 4) sc_LiveBook_split.nd rfl (Or.inl rfl) (pe_ix ix_list (pv 3) (pe_op op_sub (pv 1) pe_int) (fun _ _ => rfl)))
    (pss_cons (ps_if (pt_not (pt_chain op_le op_lt pe_int (pv 2) (pv 4))) (pss_one (ps_raiseX T.x_InvalidNumber D_InvalidNumber___init__ (hr.mono (by decide)) (takes_of rfl rfl rfl rfl) (pv 2))) pss_nil)
    (pss_cons (ps_set (i := 5) sc_LiveBook_split.nd rfl (Or.inl rfl) (pe_lst (pa_cons (pv 2) (pa_cons (pe_op op_sub (pv 4) (pv 2)) pa_nil))))
    (pss_cons (ps_fld (pv 0) (pe_op op_cat (pe_fld (pv 0) rfl) (pe_lst (pa_cons (pe_op op_cat (pe_op op_cat (pe_slice sl_list (pv 3) po_none (po_some (pe_op op_sub (pv 1) pe_int))) (pv 5)) (pe_slice sl_list (pv 3) (po_some (pv 1)) po_none)) pa_nil))) rfl)
    (pss_one (ps_ret (pe_callD D_sizes_that_differ (hr.mono (by decide)) (pa_cons (pe_lst (pa_cons (pv 4) pa_nil)) (pa_cons (pv 5) pa_nil))))))))))), ?_⟩
    refine w_start (σ' := [some (.ref a), some (.int m), some (.int l), none, none, none]) rfl ?_
    walk_at "g"
    obtain ⟨p, r, ri, k1, k2, k3, k4, k5⟩ := hL.ex
    have hz := k3.len
    walk_at "g"
    refine w_ixLastR k2 ?_
    walk_at "g"
    refine w_ite (fun m1 => ?_) (fun m1 => ?_)
    · walk_at "g"
      refine w_iteN (fun m2 => ?_) (fun m2 => ?_)
      · walk_at "g"
        exact w_raiseE ((e1 (by omega)).at Fr.refl)
      · walk_at "g"
        rename_i x hx
        refine w_ite (fun l1 => ?_) (fun l1 => ?_)
        · walk_at "g"
          refine w_iteN (fun l2 => ?_) (fun l2 => ?_)
          · walk_at "g"
            exact w_raiseE ((e2 x m1 (by omega) hx (by omega)).at Fr.refl)
          · walk_at "g"
            rename_i p1 np1 p2 np2
            have hc1 := cutI_len ns none (some (m - 1))
            have hc2 := cutI_len ns (some m) none
            refine w_catI (ms := [l, x - l]) upd_same (at_upd upd_same np2) (by simp only [List.length_cons, List.length_nil]; omega) (fun p3 np3 => ?_)
            walk_at "g"
            rename_i p4 np4
            refine w_catI (by walk_at "H") upd_same (by simp only [List.length_append, List.length_cons, List.length_nil]; omega) (fun p5 np5 => ?_)
            walk_at "g"
            rename_i p6 np6
            refine w_catR (ps := ri ++ [r]) (qs := [p5]) (by walk_at "H") upd_same (by simp; omega) (fun p7 np7 => ?_)
            walk_at "g"
            rename_i p8 np8
            have n7 : H p7 = none := Fr.free (S := []) (by walk_at "F") List.not_mem_nil np7
            have n5 : H p5 = none := Fr.free (S := []) (by walk_at "F") List.not_mem_nil np5
            have hp5 := at_upd (u := .lst ((ri ++ [r] ++ [p5]).map V.ref)) (at_upd (u := .lst [.ref p5]) (upd_same (H := upd (upd (upd (upd H p1 (.lst [.int l, .int (x - l)])) p2 (.lst ((cutI ns none (some (m - 1))).map V.int))) p3 (.lst ((cutI ns none (some (m - 1)) ++ [l, x - l]).map V.int))) p4 (.lst ((cutI ns (some m) none).map V.int))) (a := p5) (o := .lst ((cutI ns none (some (m - 1)) ++ [l, x - l] ++ cutI ns (some m) none).map V.int))) np6) np7
            have hp1 : (upd (upd (upd (upd (upd (upd (upd H p1 (.lst [.int l, .int (x - l)])) p2 (.lst ((cutI ns none (some (m - 1))).map V.int))) p3 (.lst ((cutI ns none (some (m - 1)) ++ [l, x - l]).map V.int))) p4 (.lst ((cutI ns (some m) none).map V.int))) p5 (.lst ((cutI ns none (some (m - 1)) ++ [l, x - l] ++ cutI ns (some m) none).map V.int))) p6 (.lst [.ref p5])) p7 (.lst ((ri ++ [r] ++ [p5]).map V.ref))) p1 = some (.lst [.int l, .int (x - l)]) := at_upd (at_upd (at_upd (at_upd (at_upd (at_upd upd_same np2) np3) np4) np5) np6) np7
            have hp7 := upd_same (H := upd (upd (upd (upd (upd (upd H p1 (.lst [.int l, .int (x - l)])) p2 (.lst ((cutI ns none (some (m - 1))).map V.int))) p3 (.lst ((cutI ns none (some (m - 1)) ++ [l, x - l]).map V.int))) p4 (.lst ((cutI ns (some m) none).map V.int))) p5 (.lst ((cutI ns none (some (m - 1)) ++ [l, x - l] ++ cutI ns (some m) none).map V.int))) p6 (.lst [.ref p5])) (a := p7) (o := .lst ((ri ++ [r] ++ [p5]).map V.ref))
            have f07 : Fr [] H (upd (upd (upd (upd (upd (upd (upd H p1 (.lst [.int l, .int (x - l)])) p2 (.lst ((cutI ns none (some (m - 1))).map V.int))) p3 (.lst ((cutI ns none (some (m - 1)) ++ [l, x - l]).map V.int))) p4 (.lst ((cutI ns (some m) none).map V.int))) p5 (.lst ((cutI ns none (some (m - 1)) ++ [l, x - l] ++ cutI ns (some m) none).map V.int))) p6 (.lst [.ref p5])) p7 (.lst ((ri ++ [r] ++ [p5]).map V.ref))) := by walk_at "F"
            generalize upd (upd (upd (upd (upd (upd (upd H p1 (.lst [.int l, .int (x - l)])) p2 (.lst ((cutI ns none (some (m - 1))).map V.int))) p3 (.lst ((cutI ns none (some (m - 1)) ++ [l, x - l]).map V.int))) p4 (.lst ((cutI ns (some m) none).map V.int))) p5 (.lst ((cutI ns none (some (m - 1)) ++ [l, x - l] ++ cutI ns (some m) none).map V.int))) p6 (.lst [.ref p5])) p7 (.lst ((ri ++ [r] ++ [p5]).map V.ref)) = H7 at hp5 hp1 hp7 f07 np8 ⊢
            have ha7 := f07.at0 k1
            have ep : cutI ns none (some (m - 1)) ++ [l, x - l] ++ cutI ns (some m) none = splitI ns (m - 1).toNat l x := by
              have e1 : m - 1 = (((m - 1).toNat : Nat) : Int) := by omega
              have e2 : m = (((m - 1).toNat + 1 : Nat) : Int) := by omega
              have e3 : cutI ns none (some (m - 1)) = ns.take (m - 1).toNat := by
                rw [e1, cutI_take]
                rfl
              have e4 : cutI ns (some m) none = ns.drop ((m - 1).toNat + 1) := by
                conv => lhs; rw [e2]
                rw [cutI_drop]
              rw [e3, e4, splitI]
            rw [ep] at hp5
            have L7 : Live c (upd H7 a (.ins c.LiveBook dx [("past", .ref p7)])) a dx (init ++ [ns]) (splitI ns (m - 1).toNat l x) A0 := by
              refine Live.put ha7 (fun l e => nomatch e) hp7 ((k3.app (.one k4)).fr f07) hp5 (fun u hu => ?_)
              simp only [List.mem_cons, List.mem_append, List.not_mem_nil, or_false] at hu
              rcases hu with rfl | rfl | rfl | hu | rfl
              · exact k5 _ (by simp)
              · exact hA.nin n7
              · exact hA.nin n5
              · exact k5 _ (by simp [hu])
              · exact k5 _ (by simp)
            have p1a : p1 ≠ a := (ne_of_none k1 np1).symm
            have h1a : (upd H7 a (.ins c.LiveBook dx [("past", .ref p7)])) p1 = some (.lst [.int l, .int (x - l)]) := by
              rw [upd_ne p1a]
              exact hp1
            have f0a : Fr [a] H (upd H7 a (.ins c.LiveBook dx [("past", .ref p7)])) := f07.nil.put (.inr (by simp))
            refine ⟨p8, p1, [x], [l, x - l], rfl, upd_same, at_upd h1a np8, by simp, by simp, fun r' H' f' nr hr => ?_⟩
            have f8 := (f0a.new (o := .lst [.int x]) np8).trans f'.nil
            refine q x m1 (by omega) hx l1 l2 r' H' (((L7.fr (S := []) (Fr.refl.new np8) (by simp)).new nr).fr f' (by simp)) f8 ?_ hr
            exact f0a.free (nn2 (ne_of_none upd_same (Fr.free (S := []) ((Fr.refl.new np8)) List.not_mem_nil nr)).symm) (Fr.free (S := []) ((Fr.refl.new np8)) List.not_mem_nil nr)
        · walk_at "g"
          exact w_raiseE ((e2 x m1 (by omega) hx (by omega)).at Fr.refl)
    · walk_at "g"
      exact w_raiseE ((e1 (by omega)).at Fr.refl)
/-! ### titles, its consumer with a body -/
def spTitN (c : Cs) : SpN := fun vs H G => ∃ (a dx p r : Addr) (ri : List Addr) (ns : List Int) (s : Int), vs = [.ref a, .int s] ∧ ns.length ≤ 1000000 ∧ ri.length ≤ 1000000 ∧ 1 ≤ s ∧ s < 2 ^ 390 ∧
  (∀ j H', G.ok j H' → H' a = some (.ins c.LiveBook dx [("past", .ref p)]) ∧ H' p = some (.lst ((ri ++ [r]).map V.ref)) ∧ H' r = some (.lst (ns.map V.int))) ∧
  (∀ (j : Nat) H1 H2, G.ok j H1 → j < ns.length → Fr [] H1 H2 → G.yd j (.int (1 + pg (ns.take j) s)) H1 H2) ∧ (∀ (j : Nat) H1 H2, G.ok j H1 → j = ns.length → Fr [] H1 H2 → G.rt j H1 H2)
def spTitX (c : Cs) : List V → Hp → Prop := fun vs H => ∃ (a dx p r : Addr) (ri : List Addr) (ns : List Int) (s : Int), vs = [.ref a, .int s] ∧ 1 ≤ s ∧ H a = some (.ins c.LiveBook dx [("past", .ref p)]) ∧ H p = some (.lst ((ri ++ [r]).map V.ref)) ∧ H r = some (.lst (ns.map V.int))
theorem first_LiveBook_titles (T : Txt K mg c) (f : Addr) (cdv : Value) (A : Around) (outer : List Env) (L : Addr) (vs : List V) (s2 : NTurn) (H2 : Hp) (hh : A.handled = none) (hr : Room 3 (A.deeper (envOfC "LiveBook.titles" (defScope s_LiveBook_titles) L f cdv))) (hx : spTitX c vs H2)
    (I : Inv (ncxOf P w K mg base sc_LiveBook_titles_N "LiveBook.titles" (defScope s_LiveBook_titles) f cdv A outer L s2 H2) [] (L2.start sc_LiveBook_titles_N vs) H2 s2.toShared) :
    Seg (model P w) A Rg Yg 1 s2.toShared (.func (defBody s_LiveBook_titles) (envOfC "LiveBook.titles" (defScope s_LiveBook_titles) L f cdv)) ((model P w).den (.func (defBody s_LiveBook_titles) (envOfC "LiveBook.titles" (defScope s_LiveBook_titles) L f cdv))) [] s2.toShared := by
  have D_check_size := ok_check_size (P := P) (w := w) (base := base) T
  have cls_LiveBook := T.k_LiveBook.c
  have na_LiveBook_past := T.na_LiveBook_past
  obtain ⟨a, dx, p, r, ri, ns, n, rfl, n0, k1, k2, k3⟩ := hx
  have hst : L2.start sc_LiveBook_titles_N [V.ref a, V.int n] = [some (.ref a), some (.int n), none, none] := rfl
  rw [hst] at I
  refine first_turn (σ := [some (.ref a), some (.int n), none, none]) (σ2 := [some (.ref a), some (.int n), some (.int 1), none]) (il := 3) (ip := 2) (xs := ns.map V.int) hh sc_LiveBook_titles.nd I (fun s I1 => ?_) (fun s I1 => ?_) (fun s I1 => ?_) k3 rfl rfl rfl (Or.inl rfl) (fun _ => rfl) (fun _ => rfl) rfl rfl
  · refine wpAny_mono (GenW.wpAny_two ((ps_expr (pe_callX D_check_size (hr.mono (by decide)) takes_ncx (pa_cons (pv 1) pa_nil))).run [] s _ H2 { nx := fun σ' H' => σ' = [some (.ref a), some (.int n), none, none] ∧ H' = H2, rt := fun _ _ => False } I1 ?_) (call_g (k := 0) (i := 1) (n := n) (E := fun _ _ => False) ?_ sc_check_size rfl rfl (Or.inl rfl) (hr.mono (by decide)) I1 rfl (Or.inl rfl) rfl n0 rfl rfl rfl)) (fun fl s' hq => ?_) fun e s' hq => hq.2
    · walk_at "g"
      exact ⟨n, rfl, fun _ => ⟨rfl, rfl⟩, fun z => absurd z (by omega)⟩
    · obtain ⟨f2, fd2, hm, F, _, b⟩ := D_check_size.ex
      exact ⟨f2, fd2, hm, F, b⟩
    · obtain ⟨hs, rfl, hg⟩ := hq
      obtain ⟨σ', H', J, rfl, rfl⟩ := hs
      exact ⟨rfl, J, hg⟩
  · exact wpAny_Assign_Name (wpAny_Constant_int (wpAny_mono (GenW.wpAny_two (store_ok (E := fun _ _ => False) (i := 2) (v := .int 1) (Q := fun _ s' => Inv (ncxOf P w K mg base sc_LiveBook_titles_N "LiveBook.titles" (defScope s_LiveBook_titles) f cdv A outer L s2 H2) [] [some (.ref a), some (.int n), some (.int 1), none] H2 s') (I1.tok _) sc_LiveBook_titles.nd rfl (Or.inl rfl) ⟨_, rfl⟩ (fun s' J => J) (.inl rfl)) (store_g (E := fun _ _ => False) (I1.tok _) rfl)) (fun _ s' hq => ⟨rfl, hq.1, hq.2⟩) fun e s' hq => hq.1)) rfl
  · exact last_g I1 (i := 0) rfl (Or.inl rfl) rfl k1 cls_LiveBook na_LiveBook_past rfl k2 rfl (fun _ _ => rfl)
set_option maxHeartbeats 4000000 in
theorem okN_LiveBook_titles (T : Txt K mg c) : MNfAt P w K mg base c.LiveBook "titles" "LiveBook.titles" s_LiveBook_titles 4 ["self", "size"] (spTitN c) (spTitX c) := by
  have D_check_size := ok_check_size (P := P) (w := w) (base := base) T
  have D_count_pages := ok_count_pages (P := P) (w := w) (base := base) T
  have cls_LiveBook := T.k_LiveBook.c
  have na_LiveBook_past := T.na_LiveBook_past
  refine T.f_LiveBook_titles.okNF sc_LiveBook_titles (fun _ => rfl) (fun y => nocells (by decide) y) (fun _ _ _ _ _ _ us hl => match us, hl with | [_, _], _ => rfl) (fun f cdv A outer L vs H hr => ?_) (first_LiveBook_titles T)
  refine ⟨?_, ?hs, fun G h H₀ hok => ?_⟩
  case hs => exact (nss_cons (ns_ps (fun _ _ => (ps_expr (pe_callX D_check_size (hr.mono (by decide)) takes_ncx (pa_cons (pv 1) pa_nil)))))
    (nss_cons (ns_ps (fun _ _ => (ps_set (i := 2) sc_LiveBook_titles.nd rfl (Or.inl rfl) pe_int)))
    (nss_cons (ns_for (fun _ _ => kc_pi (K := K) (pi_list (pe_ix (kc_ix (K := K) (r := rIxL) ix_list rfl) (kcn_fld (K0 := K) (pv 0) rfl) (pe_un un_neg pe_int) (fun _ _ => rfl))) rfl) (fun _ _ => (pg_name (i := 3) sc_LiveBook_titles.nd rfl (Or.inl rfl))) (nss_cons (ns_yield (fun _ _ => (pv 2)))
    (nss_cons (ns_ps (fun _ _ => (ps_aug (i := 2) sc_LiveBook_titles.nd rfl (Or.inl rfl) (pe_callD D_count_pages (hr.mono (by decide)) (pa_cons (pe_lst (pa_cons (pv 3) pa_nil)) (pa_cons (pv 1) pa_nil))) ip_add)))
    nss_nil)))
    nss_nil)))
  obtain ⟨a, dx, p, r, ri, ns, n, rfl, hl, hri, n0, n1, hok2, hyd, hrt⟩ := h
  refine w_nStart (σ' := [some (.ref a), some (.int n), none, none]) rfl ?_
  walk_at "g"
  refine ⟨n, rfl, fun _ => ?_, fun nn => absurd nn (by omega)⟩
  obtain ⟨k1, k2, k4⟩ := hok2 0 _ hok
  walk_at "g"
  refine w_ixLastR k2 ?_
  walk_at "g"
  refine nf_list (ns.map V.int) (fun i j H₀ σ' H' => ∃ o3 : Option V, σ' = [some (.ref a), some (.int n), some (.int (1 + pg (ns.take i) n)), o3] ∧ j = i ∧ G.ok j H₀ ∧ Fr [] H₀ H') ⟨none, rfl, rfl, hok, Fr.refl⟩ ?_ ?_ ?_
  · rintro i j H₀ σ' H' _ ⟨o3, rfl, rfl, ok, f1⟩
    exact SqL.of (f1.at0 (hok2 _ _ ok).2.2)
  · rintro i x j H₀ σ' H' hx ⟨o3, rfl, rfl, ok, f1⟩
    obtain ⟨y, hy, rfl⟩ := map_at hx
    have hil := (List.getElem?_eq_some_iff.mp hy).1
    walk_at "g"
    refine ⟨hyd _ _ _ ok hil f1, fun H2 ok2 => ?_⟩
    walk_at "g"
    rename_i l1 nl1
    refine ⟨l1, [y], n, rfl, upd_same, by simp, by omega, n1, fun H3 f3 => ?_⟩
    walk_at "g"
    refine ⟨some (.int y), ?_, rfl, ok2, (Fr.refl.new nl1).trans f3⟩
    rw [pg_take hy, pg_one, Int.add_assoc]
    rfl
  · rintro j H₀ σ' H' ⟨o3, rfl, rfl, ok, f1⟩
    walk_at "g"
    exact hrt _ _ _ ok (by rw [List.length_map]) f1
/-! ### a live book by a table -/
def spFromTab (K : PySem.W.Frag) (c : Cs) : Sp := fun vs H Q _ => ∃ (p : Addr) (ns : List Int) (g : Nat) (A : List Addr), vs = [.ref c.LiveBook, .ref p] ∧ H p = some (.lst ((tab ns g).map V.int)) ∧ g ≤ 100000 ∧ ns.length ≤ 100000 ∧ (∀ x ∈ ns, 1 ≤ x ∧ x ≤ g) ∧ Old H A ∧
  ∀ (ms : List Int) (a dx : Addr) (H' : Hp), ms.Perm ns → ms.Pairwise (· ≥ ·) → Live c H' a dx [] ms A → Fr [] H H' → H a = none → Q (.ref a) H'
theorem kb_LiveBook_from_table_table : KB0 "from_table" "LiveBook.from_table" s_LiveBook_from_table ["cls", "table"] ["table"] 1 [0] := fun _ _ _ _ _ _ us ws hu hw => match us, ws, hu, hw with | [_], [_], _, _ => rfl
set_option maxHeartbeats 4000000 in
theorem ok_LiveBook_from_table (T : Txt K mg c) : CMDefAtX P w K mg base c.LiveBook "from_table" "LiveBook.from_table" s_LiveBook_from_table 6 ["cls", "table"] (spFromTab K c) := by
  have D_lengths_of := ok_lengths_of (P := P) (w := w) (base := base) T
  have D_LiveBook___init__ := ok_LiveBook___init__ (P := P) (w := w) (base := base) T
  have cls_LiveBook := T.k_LiveBook.c
  have na_LiveBook_past := T.na_LiveBook_past
  refine T.f_LiveBook_from_table.okX sc_LiveBook_from_table (fun vs H Q E h => ?_) (fun _ _ _ _ _ _ us hl => match us, hl with | [_, _], _ => rfl) (fun f cdv A outer s H vs Q E hr h => ?_)
  · obtain ⟨p, ns, g, A0, rfl, hp, hg, hl, hn, hA, q⟩ := h
    rfl
  · obtain ⟨p, ns, g, A0, rfl, hp, hg, hl, hn, hA, q⟩ := h
    refine ⟨_, (pss_one (ps_ret (pe_makeLX (pv 0) T.k_LiveBook D_LiveBook___init__ (hr.mono (by decide)) (takes_of rfl rfl rfl rfl) (pa_cons (pe_callD D_lengths_of (hr.mono (by decide)) (pa_cons (pv 1) pa_nil)) pa_nil)))), ?_⟩
    refine w_start (σ' := [some (.ref c.LiveBook), some (.ref p)]) rfl ?_
    walk_at "g"
    refine ⟨p, ns, g, rfl, hp, hg, hl, hn, fun q1 fs H2 f2 nq1 hq1 hpm hds => ?_⟩
    walk_at "g"
    intro x dx nx ndx nex
    have hA2 := hA.fr f2
    have hx1 : ∀ y ∈ fs, 1 ≤ y := fun y hy => (hn y (hpm.mem_iff.mp hy)).1
    refine ⟨x, dx, q1, fs, A0, rfl, upd_same, at_make hq1 ndx nx, (by have := hpm.length_eq; omega), hA2.nin nx, hA2.fr (Fr.refl.make ndx nx), fun _ H3 L3 f3 => ⟨rfl, ?_⟩, fun i hb => (hb.not hx1).elim⟩
    walk_at "g"
    have nxH := f2.free List.not_mem_nil nx
    have fm : Fr [] H (upd (upd H2 dx (.own x)) x (.ins c.LiveBook dx [])) := f2.make ndx nx
    exact q fs x dx _ hpm hds L3 (fm.loc nxH f3) nxH
theorem stJ {t : TS} {D : Ends} {σ : L2.St} {H : Hp} (I : L2.St → Hp → Prop) (h : ∀ N : L2.St → Hp → Prop, (∀ σ H, I σ H → N σ H) → t { D with nx := N } σ H) (k : ∀ σ H, I σ H → D.nx σ H) : t D σ H := h D.nx k
theorem stopIf {c : TT} {a b d : TS} {D : Ends} {σ : L2.St} {H : Hp} (h : tSeq (tIfS c a b) d D σ H) : tSeq (tIfS c a b) d D σ H := h
theorem stopAsg {c : TT} {a b : TE} {g : TG} {d : TS} {D : Ends} {σ : L2.St} {H : Hp} (h : tSeq (tAsg (tIf c a b) g) d D σ H) : tSeq (tAsg (tIf c a b) g) d D σ H := h
theorem pg_ct {ns : List Int} {s : Int} (hs : 1 ≤ s) : pg ns s = ct ns s := by
  unfold pg ct
  congr 1
  refine List.map_congr_left fun l _ => ?_
  unfold cp
  rw [show l + s - 1 = (l - 1) + 1 * s by omega, Int.add_mul_ediv_right _ _ (by omega)]
theorem init_go {K : PySem.W.Frag} {c : Cs} {H : Hp} {Q : VK} {E : XK} {x dx p : Addr} {ns : List Int} {A : List Addr} (hp : H p = some (.lst (ns.map V.int))) (hl : ns.length ≤ 1000000) (hx : ∀ n ∈ ns, 1 ≤ n) (hA : Old H A) (nx : H x = none) (ndx : H dx = none)
    (q : ∀ H', Live c H' x dx [] ns A → Fr [] H H' → Q .non H') : spLInitX K c [.ref x, .ref p] (upd (upd H dx (.own x)) x (.ins c.LiveBook dx [])) Q E := by
  refine ⟨x, dx, p, ns, A, rfl, upd_same, at_make hp ndx nx, hl, hA.nin nx, hA.fr (Fr.refl.make ndx nx), fun _ H3 L3 f3 => ?_, fun i hb => (hb.not hx).elim⟩
  exact q H3 L3 ((Fr.refl.make ndx nx).loc nx f3)
theorem w_setLast {H : Hp} {p : Addr} {ini : List Int} {x y : Int} {Q : Hp → Prop} (h : H p = some (.lst ((ini ++ [x]).map V.int))) (q : Q (upd H p (.lst ((ini ++ [y]).map V.int)))) : rSetL (.ref p) (.int (-1)) (.int y) H Q := by
  refine w_setL (j := ini.length) h ?_ ?_
  · unfold ixN
    rw [if_neg (by omega), if_pos (by rw [List.length_map, List.length_append, List.length_singleton]; omega), List.length_map, List.length_append, List.length_singleton]
    congr 1
    omega
  · have e : ((ini ++ [x]).map V.int).set ini.length (.int y) = (ini ++ [y]).map V.int := by
      rw [List.map_append, List.set_append_right _ _ (by rw [List.length_map]; exact Nat.le_refl _), List.length_map, Nat.sub_self, List.map_append]
      rfl
    rw [e]
    exact q
/-- what is passed and what is due behind the drawing -/
def Pass (r : Int) (xs tv ys : List Int) : Prop := ys.Perm xs ∧ tv.length ≤ 300 ∧ (r = 0 → ∃ g : Nat, g ≤ 300 ∧ tv = tab xs g ∧ (∀ x ∈ xs, 1 ≤ x ∧ x ≤ g) ∧ ys.Pairwise (· ≥ ·)) ∧ (¬ r = 0 → tv = xs ∧ ys = xs)
/-- what the law holds: the lists that were returned, and how they were shown -/
structure HeldS (H : Hp) (HL KL : Addr) (hs : List Addr) (bs : List (List Int)) : Prop where
  l1 : H HL = some (.lst (hs.map V.ref))
  l2 : H KL = some (.lst (bs.map fun b => V.str (dI b).shown))
  at_ : ListsAt H hs bs
  ne : hs ≠ []
  ok : ∀ b ∈ bs, b.length ≤ 1000 ∧ ∀ x ∈ b, 0 ≤ x ∧ x ≤ 200
theorem HeldS.fr {H H' : Hp} {HL KL : Addr} {hs : List Addr} {bs : List (List Int)} {S : List Addr} (h : HeldS H HL KL hs bs) (f : Fr S H H') (n1 : HL ∉ S) (n2 : KL ∉ S) (n3 : ∀ u ∈ hs, u ∉ S) : HeldS H' HL KL hs bs :=
  ⟨f.at n1 h.l1, f.at n2 h.l2, ⟨h.at_.len, fun i q l e1 e2 => f.at (n3 q (List.mem_of_getElem? e1)) (h.at_.at_ i q l e1 e2)⟩, h.ne, h.ok⟩
theorem HeldS.fr0 {H H' : Hp} {HL KL : Addr} {hs : List Addr} {bs : List (List Int)} (h : HeldS H HL KL hs bs) (f : Fr [] H H') : HeldS H' HL KL hs bs := h.fr f List.not_mem_nil List.not_mem_nil fun _ _ => List.not_mem_nil
theorem HeldS.neI {H : Hp} {HL KL u : Addr} {hs : List Addr} {bs : List (List Int)} {ns : List Int} (h : HeldS H HL KL hs bs) (e : H u = some (.lst (ns.map V.int))) : u ≠ HL ∧ u ≠ KL := by
  have hl := h.at_.len
  obtain ⟨l1, l2, _, ne, _⟩ := h
  cases hs with
  | nil => exact absurd rfl ne
  | cons x t =>
    cases bs with
    | nil => simp at hl
    | cons y t2 =>
      refine ⟨fun z => ?_, fun z => ?_⟩
      · rw [z, l1] at e
        cases ns <;> simp at e
      · rw [z, l2] at e
        cases ns <;> simp at e
theorem HeldS.ne2 {H : Hp} {HL KL : Addr} {hs : List Addr} {bs : List (List Int)} (h : HeldS H HL KL hs bs) : HL ≠ KL := by
  have hl := h.at_.len
  obtain ⟨l1, l2, _, ne, _⟩ := h
  intro z
  cases hs with
  | nil => exact absurd rfl ne
  | cons x t =>
    cases bs with
    | nil => simp at hl
    | cons y t2 =>
      rw [z, l2] at l1
      simp at l1
theorem HeldS.mem {H : Hp} {HL KL u : Addr} {hs : List Addr} {bs : List (List Int)} (h : HeldS H HL KL hs bs) (hu : u ∈ hs) : ∃ b ∈ bs, H u = some (.lst (b.map V.int)) := by
  obtain ⟨i, hi⟩ := List.getElem?_of_mem hu
  obtain ⟨b, hb⟩ : ∃ b, bs[i]? = some b := ⟨bs[i]'(by have := (List.getElem?_eq_some_iff.mp hi).1; have := h.at_.len; omega), List.getElem?_eq_getElem _⟩
  exact ⟨b, List.mem_of_getElem? hb, h.at_.at_ i u b hi hb⟩
theorem HeldS.push {H : Hp} {HL KL b : Addr} {hs : List Addr} {bs : List (List Int)} {nb : List Int} (h : HeldS H HL KL hs bs) (e : H b = some (.lst (nb.map V.int))) (o : nb.length ≤ 1000 ∧ ∀ x ∈ nb, 0 ≤ x ∧ x ≤ 200) :
    HeldS (upd (upd H HL (.lst ((hs ++ [b]).map V.ref))) KL (.lst ((bs ++ [nb]).map fun b => V.str (dI b).shown))) HL KL (hs ++ [b]) (bs ++ [nb]) := by
  have n2 := h.ne2
  have f : ∀ {u : Addr} {ns : List Int}, H u = some (.lst (ns.map V.int)) → upd (upd H HL (.lst ((hs ++ [b]).map V.ref))) KL (.lst ((bs ++ [nb]).map fun b => V.str (dI b).shown)) u = some (.lst (ns.map V.int)) := fun {u ns} q => by
    obtain ⟨k1, k2⟩ := h.neI q
    rw [upd_ne k2, upd_ne k1]
    exact q
  refine ⟨by rw [upd_ne n2]; exact upd_same, upd_same, ?_, by simp, fun x hx => ?_⟩
  · have h1 : ListsAt (upd (upd H HL (.lst ((hs ++ [b]).map V.ref))) KL (.lst ((bs ++ [nb]).map fun b => V.str (dI b).shown))) hs bs := ⟨h.at_.len, fun i q l e1 e2 => f (h.at_.at_ i q l e1 e2)⟩
    exact h1.app (.one (f e))
  · rcases List.mem_append.mp hx with z | z
    · exact h.ok x z
    · rw [List.mem_singleton.mp z]
      exact o
/-- the calls' loop, behind i turns -/
structure LoopS (c : Cs) (H1 H' : Hp) (a A1 A2 dx1 dx2 Du HL KL : Addr) (ys : List Int) (i : Nat) (ns : List Int) (init : List (List Int)) (hs : List Addr) (bs : List (List Int)) : Prop where
  L : Live c H' A1 dx1 init ns (a :: HL :: KL :: hs)
  M : Live c H' A2 dx2 [] ys (a :: HL :: KL :: A1 :: hs)
  hd : H' Du = some (.lst (ys.map V.int))
  held : HeldS H' HL KL hs bs
  nd : Du ∉ hs
  il : init.length ≤ i
  nl : ns.length ≤ 10 + i
  nb : ∀ n ∈ ns, 1 ≤ n ∧ n ≤ 200
  f : Fr [a] H1 H'
  fr : ∀ h ∈ hs, H1 h = none
  hsl : hs.length ≤ 1 + 2 * i
section
variable {H1 H2 H' : Hp} {a A1 A2 dx1 dx2 Du HL KL : Addr} {ys : List Int} {i : Nat} {ns : List Int} {init : List (List Int)} {hs : List Addr} {bs : List (List Int)}
theorem LoopS.ne_a (h : LoopS c H1 H' a A1 A2 dx1 dx2 Du HL KL ys i ns init hs bs) {k : Int} (hp : Pool H1 a k) : a ∉ hs := fun z => by
  obtain ⟨_, _, e, _⟩ := hp
  rw [h.fr a z] at e
  cases e
/-- a step that leaves all but the pool -/
theorem LoopS.go (h : LoopS c H1 H2 a A1 A2 dx1 dx2 Du HL KL ys i ns init hs bs) (f : Fr [a] H2 H') (da : Du ≠ a) (la : HL ≠ a) (ka : KL ≠ a) (ha : a ∉ hs) :
    LoopS c H1 H' a A1 A2 dx1 dx2 Du HL KL ys i ns init hs bs :=
  ⟨h.L.fr f (by simp), h.M.fr f (by simp), f.at (nn2 da) h.hd, h.held.fr f (nn2 la) (nn2 ka) (fun u hu z => ha (by rw [List.mem_singleton] at z; rw [← z]; exact hu)), h.nd, h.il, h.nl, h.nb, h.f.trans f, h.fr, h.hsl⟩
theorem LoopS.go0 (h : LoopS c H1 H2 a A1 A2 dx1 dx2 Du HL KL ys i ns init hs bs) (f : Fr [] H2 H') : LoopS c H1 H' a A1 A2 dx1 dx2 Du HL KL ys i ns init hs bs :=
  ⟨h.L.fr f (by simp), h.M.fr f (by simp), f.at0 h.hd, h.held.fr0 f, h.nd, h.il, h.nl, h.nb, h.f.trans f.nil, h.fr, h.hsl⟩
theorem LoopS.old (h : LoopS c H1 H' a A1 A2 dx1 dx2 Du HL KL ys i ns init hs bs) {k : Int} (hp : Pool H' a k) : Old H' (a :: HL :: KL :: hs) := fun v hv => by
  rcases List.mem_cons.mp hv with rfl | hv
  · obtain ⟨_, _, e, _⟩ := hp
    exact ⟨_, e⟩
  rcases List.mem_cons.mp hv with rfl | hv
  · exact ⟨_, h.held.l1⟩
  rcases List.mem_cons.mp hv with rfl | hv
  · exact ⟨_, h.held.l2⟩
  · obtain ⟨b, _, e⟩ := h.held.mem hv
    exact ⟨_, e⟩
/-- an object of ints is not the live book -/
theorem LoopS.neL (h : LoopS c H1 H' a A1 A2 dx1 dx2 Du HL KL ys i ns init hs bs) {u : Addr} {l : List V} (e : H' u = some (.lst l)) : u ≠ A1 := fun z => by
  obtain ⟨p, r, ri, h1, _⟩ := h.L.ex
  rw [← z, e] at h1
  cases h1
/-- a call of the live book -/
theorem LoopS.call {ns' : List Int} {init' : List (List Int)} (h : LoopS c H1 H2 a A1 A2 dx1 dx2 Du HL KL ys i ns init hs bs) (f : Fr [A1] H2 H') (n1 : H1 A1 = none) (L : Live c H' A1 dx1 init' ns' (a :: HL :: KL :: hs)) (il : init'.length ≤ i + 1) (nl : ns'.length ≤ 11 + i) (nb : ∀ n ∈ ns', 1 ≤ n ∧ n ≤ 200) :
    LoopS c H1 H' a A1 A2 dx1 dx2 Du HL KL ys (i + 1) ns' init' hs bs :=
  ⟨L, h.M.fr f (by simp), f.at (nn2 (h.neL h.hd)) h.hd, h.held.fr f (nn2 (h.neL h.held.l1)) (nn2 (h.neL h.held.l2)) (fun u hu z => by
    obtain ⟨b, _, e⟩ := h.held.mem hu
    exact h.neL e (by simpa using z)), h.nd, il, by omega, nb, h.f.loc n1 f, h.fr, by have := h.hsl; omega⟩
/-- a list is held -/
theorem LoopS.push {b : Addr} {nb : List Int} {H3 : Hp} (h : LoopS c H1 H2 a A1 A2 dx1 dx2 Du HL KL ys i ns init hs bs) (n : H2 b = none) (f : Fr [] H2 H3) (e : H3 b = some (.lst (nb.map V.int))) (o : nb.length ≤ 1000 ∧ ∀ x ∈ nb, 0 ≤ x ∧ x ≤ 200) (ba : b ≠ a) (nHL : H1 HL = none) (nKL : H1 KL = none) (hl : hs.length ≤ 2 * i) :
    LoopS c H1 (upd (upd H3 HL (.lst ((hs ++ [b]).map V.ref))) KL (.lst ((bs ++ [nb]).map fun b => V.str (dI b).shown))) a A1 A2 dx1 dx2 Du HL KL ys i ns init (hs ++ [b]) (bs ++ [nb]) := by
  have f2 : Fr [HL, KL] H3 (upd (upd H3 HL (.lst ((hs ++ [b]).map V.ref))) KL (.lst ((bs ++ [nb]).map fun b => V.str (dI b).shown))) := (Fr.refl.put (.inr (by simp))).put (.inr (by simp))
  have h3 := h.held.fr0 f
  have hd3 := f.at0 h.hd
  have kd := h3.neI hd3
  refine ⟨(((h.L.new n).less (B := a :: HL :: KL :: (hs ++ [b])) (by intro u hu; simp at hu ⊢; rcases hu with z | z | z | z | z <;> simp [z])).fr f (by simp)).fr f2 (by simp), (((h.M.new n).less (B := a :: HL :: KL :: A1 :: (hs ++ [b])) (by intro u hu; simp at hu ⊢; rcases hu with z | z | z | z | z | z <;> simp [z])).fr f (by simp)).fr f2 (by simp),
    f2.at (by simp [kd.1, kd.2]) hd3, h3.push e o, ?_, h.il, h.nl, h.nb, ?_, fun u hu => ?_, by rw [List.length_append]; simp; omega⟩
  · intro z
    rcases List.mem_append.mp z with z | z
    · exact h.nd z
    · rw [List.mem_singleton] at z
      rw [← z, h.hd] at n
      cases n
  · exact ((h.f.trans f.nil).put (.inl nHL)).put (.inl nKL)
  · rcases List.mem_append.mp hu with z | z
    · exact h.fr u z
    · rw [List.mem_singleton.mp z]
      exact h.f.free (nn2 ba) n
/-- .. and its list is held -/
theorem LoopS.callPush {r : Addr} {nb ns' : List Int} {init' : List (List Int)} {H3 : Hp} (h : LoopS c H1 H2 a A1 A2 dx1 dx2 Du HL KL ys i ns init hs bs) (f : Fr [A1] H2 H3) (n1 : H1 A1 = none) (n : H2 r = none) (L : Live c H3 A1 dx1 init' ns' (r :: a :: HL :: KL :: hs)) (e : H3 r = some (.lst (nb.map V.int))) (o : nb.length ≤ 1000 ∧ ∀ x ∈ nb, 0 ≤ x ∧ x ≤ 200) (ra : r ≠ a)
    (nHL : H1 HL = none) (nKL : H1 KL = none) (il : init'.length ≤ i + 1) (nl : ns'.length ≤ 11 + i) (hn : ∀ n ∈ ns', 1 ≤ n ∧ n ≤ 200) :
    LoopS c H1 (upd (upd H3 HL (.lst ((hs ++ [r]).map V.ref))) KL (.lst ((bs ++ [nb]).map fun b => V.str (dI b).shown))) a A1 A2 dx1 dx2 Du HL KL ys (i + 1) ns' init' (hs ++ [r]) (bs ++ [nb]) := by
  have f2 : Fr [HL, KL] H3 (upd (upd H3 HL (.lst ((hs ++ [r]).map V.ref))) KL (.lst ((bs ++ [nb]).map fun b => V.str (dI b).shown))) := (Fr.refl.put (.inr (by simp))).put (.inr (by simp))
  have S3 := h.call f n1 (L.less (B := a :: HL :: KL :: hs) (by intro u hu; simp at hu ⊢; rcases hu with z | z | z | z <;> simp [z])) il nl hn
  have kd := S3.held.neI S3.hd
  refine ⟨(L.less (B := a :: HL :: KL :: (hs ++ [r])) (by intro u hu; simp at hu ⊢; rcases hu with z | z | z | z | z <;> simp [z])).fr f2 (by simp), (((h.M.new n).fr f (by simp)).less (B := a :: HL :: KL :: A1 :: (hs ++ [r])) (by intro u hu; simp at hu ⊢; rcases hu with z | z | z | z | z | z <;> simp [z])).fr f2 (by simp),
    f2.at (by simp [kd.1, kd.2]) S3.hd, S3.held.push e o, ?_, il, by omega, hn, ?_, fun u hu => ?_, by rw [List.length_append]; have := h.hsl; simp; omega⟩
  · intro z
    rcases List.mem_append.mp z with z | z
    · exact h.nd z
    · rw [List.mem_singleton] at z
      rw [← z, h.hd] at n
      cases n
  · exact (S3.f.put (.inl nHL)).put (.inl nKL)
  · rcases List.mem_append.mp hu with z | z
    · exact h.fr u z
    · rw [List.mem_singleton.mp z]
      exact h.f.free (nn2 ra) n
theorem LoopS.fresh {k : Int} {q : Addr} (h : LoopS c H1 H' a A1 A2 dx1 dx2 Du HL KL ys i ns init hs bs) (hp : Pool H' a k) (n : H' q = none) : q ∉ hs ∧ q ≠ a := by
  have := (h.old hp).nin n
  simp only [List.mem_cons, not_or] at this
  exact ⟨this.2.2.2, this.1⟩
end
theorem difN_mem {xs ys : List Int} : ∀ {n : Nat}, ∀ y ∈ difN xs ys n, 1 ≤ y ∧ y ≤ n
  | 0, y, h => by simp [difN] at h
  | n + 1, y, h => by
    rw [difN] at h
    rcases List.mem_append.mp h with z | z
    · have := difN_mem (n := n) y z
      omega
    · split at z
      · simp at z
      · rw [List.mem_singleton.mp z]
        omega
theorem splitI_mem {ns : List Int} {i : Nat} {l x : Int} (h : ∀ n ∈ ns, 1 ≤ n ∧ n ≤ 200) (hx : ns[i]? = some x) (l1 : 1 ≤ l) (l2 : l < x) : (∀ n ∈ splitI ns i l x, 1 ≤ n ∧ n ≤ 200) ∧ (splitI ns i l x).length = ns.length + 1 := by
  have hxm := h x (List.mem_of_getElem? hx)
  have hl := (List.getElem?_eq_some_iff.mp hx).1
  constructor
  · intro n hn
    rw [splitI] at hn
    simp only [List.mem_append, List.mem_cons, List.not_mem_nil, or_false] at hn
    rcases hn with (z | z | z) | z
    · exact h n (List.mem_of_mem_take z)
    · omega
    · omega
    · exact h n (List.mem_of_mem_drop z)
  · rw [splitI]
    simp only [List.length_append, List.length_take, List.length_drop, List.length_cons, List.length_nil]
    omega
theorem ifT {tc : TT} {t u : TS} {D : Ends} {σ : L2.St} {H : Hp} (I : Bool → Hp → Prop) (h : ∀ R : Bool → Hp → Prop, (∀ b H1, I b H1 → R b H1) → tc σ H R) (k : ∀ b H1, I b H1 → if b = true then t D σ H1 else u D σ H1) : tIfS tc t u D σ H := h _ k
def spRight26 : Sp := fun vs H Q _ => ∃ (a : Addr) (k : Int), vs = [.ref a] ∧ Pool H a k ∧ k < 100000 ∧ ∀ (k' : Int) (H' : Hp), k' ≤ k + 3000 → Pool H' a k' → Fr [a] H H' → Q (.bl true) H'
def only (H : Hp) (S : List Addr) : Hp := fun b => if b ∈ S then H b else none
theorem only_at {H : Hp} {S : List Addr} {b : Addr} (h : b ∈ S) : only H S b = H b := if_pos h
theorem only_sub {H : Hp} {S : List Addr} {b : Addr} {o : HO} (h : only H S b = some o) : H b = some o ∧ b ∈ S := by
  unfold only at h
  split at h
  · exact ⟨h, by assumption⟩
  · cases h
theorem small_live {H : Hp} {C a dx p r : Addr} {fs : List (Str × V)} {l1 l2 : List V} (ha : H a = some (.ins C dx fs)) (hd : H dx = some (.own a)) (hp : H p = some (.lst l1)) (hr : H r = some (.lst l2)) : SmallH (only H [a, dx, p, r]) := by
  refine ⟨fun b o h => ?_, fun b x h => ?_⟩
  · obtain ⟨h, m⟩ := only_sub h
    simp only [List.mem_cons, List.not_mem_nil, or_false] at m
    rcases m with z | z | z | z
    · rw [z, ha] at h
      cases h
      exact .inr (.inr ⟨_, _, _, rfl, by rw [only_at (by simp), z]; exact hd⟩)
    · rw [z, hd] at h
      cases h
      exact .inr (.inl ⟨_, rfl⟩)
    · rw [z, hp] at h
      cases h
      exact .inl ⟨_, rfl⟩
    · rw [z, hr] at h
      cases h
      exact .inl ⟨_, rfl⟩
  · obtain ⟨h, m⟩ := only_sub h
    simp only [List.mem_cons, List.not_mem_nil, or_false] at m
    rcases m with z | z | z | z
    · rw [z, ha] at h
      cases h
    · rw [z, hd] at h
      cases h
      rw [only_at (by simp), ha]
      simp
    · rw [z, hp] at h
      cases h
    · rw [z, hr] at h
      cases h
theorem titX_at {c : Cs} {H : Hp} {a dx p r : Addr} {ri : List Addr} {ns : List Int} {s : Int} (ha : H a = some (.ins c.LiveBook dx [("past", .ref p)])) (hp : H p = some (.lst ((ri ++ [r]).map V.ref))) (hr : H r = some (.lst (ns.map V.int))) (h1 : 1 ≤ s) : spTitX c [.ref a, .int s] (only H [a, dx, p, r]) :=
  ⟨a, dx, p, r, ri, ns, s, rfl, h1, by rw [only_at (by simp)]; exact ha, by rw [only_at (by simp)]; exact hp, by rw [only_at (by simp)]; exact hr⟩
theorem titN_at {c : Cs} {H H0 : Hp} {a dx p r : Addr} {ri : List Addr} {ns : List Int} {s : Int} (ha : H a = some (.ins c.LiveBook dx [("past", .ref p)])) (hp : H p = some (.lst ((ri ++ [r]).map V.ref))) (hr : H r = some (.lst (ns.map V.int))) (h1 : 1 ≤ s) (h2 : s < 2 ^ 390) (l1 : ns.length ≤ 1000000) (l2 : ri.length ≤ 1000000) :
    spTitN c [.ref a, .int s] H0 (pureG (only H [a, dx, p, r]) ((starts ns s).map V.int)) := by
  refine ⟨a, dx, p, r, ri, ns, s, rfl, l1, l2, h1, h2, fun j H' e => ?_, fun j H1 H2 e hj f => ?_, fun j H1 H2 e hj f => ?_⟩
  · have e : H' = only H [a, dx, p, r] := e
    subst e
    exact ⟨by rw [only_at (by simp)]; exact ha, by rw [only_at (by simp)]; exact hp, by rw [only_at (by simp)]; exact hr⟩
  · have e : H1 = only H [a, dx, p, r] := e
    subst e
    exact ⟨by simp [starts, hj], f⟩
  · have e : H1 = only H [a, dx, p, r] := e
    subst e
    exact ⟨by rw [List.length_map, starts_len]; exact hj, f⟩
set_option maxHeartbeats 4000000 in
theorem ok_law_right (T : Txt K mg c) : GefAt P w K mg base "_law_right" s_law_right 9 ["pool"] spRight26 := by
  have D_law_book := ok_law_book (P := P) (w := w) (base := base) T
  have D_law_draw := ok_law_draw (P := P) (w := w) (base := base) T
  have D_law_pages := ok_law_pages (P := P) (w := w) (base := base) T
  have D_LiveBook_from_table := ok_LiveBook_from_table (P := P) (w := w) (base := base) T
  have D_LiveBook___init__ := ok_LiveBook___init__ (P := P) (w := w) (base := base) T
  have D_law_told_right := ok_law_told_right (P := P) (w := w) (base := base) T
  have D_LiveBook_book := ok_LiveBook_book (P := P) (w := w) (base := base) T
  have D_LiveBook_split := ok_LiveBook_split (P := P) (w := w) (base := base) T
  have D_LiveBook_add := ok_LiveBook_add (P := P) (w := w) (base := base) T
  have D_LiveBook_undo := ok_LiveBook_undo (P := P) (w := w) (base := base) T
  have DN_LiveBook_titles := okN_LiveBook_titles (P := P) (w := w) (base := base) T
  have D_LiveBook_titles := ok_LiveBook_titles (P := P) (w := w) (base := base) T
  have cls_LiveBook := T.k_LiveBook.c
  have na_LiveBook_past := T.na_LiveBook_past
  refine T.f_law_right.okG sc_law_right (fun vs H Q E h => ?_) (fun _ _ _ _ _ _ us hl => match us, hl with | [_], _ => rfl) (fun f cdv A outer s H vs Q E hr gds h => ?_)
  · obtain ⟨a, k, rfl, hP, hk, q⟩ := h
    rfl
  · obtain ⟨a, k, rfl, hP, hk, q⟩ := h
    refine ⟨_, (pss_cons (ps_set (i := 1) sc_law_right.nd rfl (Or.inr rfl) (pe_callD D_law_book (hr.mono (by decide)) (pa_cons (pv 0) (pa_cons pe_int (pa_cons pe_int pa_nil)))))
    (pss_cons (ps_par (i := 2) (j := 3) rfl sc_law_right.nd rfl rfl (by decide) rfl rfl (pa_cons (pe_callTy call_listN (by rfl) T.n_list (by decide +kernel) (pa_cons (pv 1) pa_nil)) (pa_cons (pe_callTy call_listN (by rfl) T.n_list (by decide +kernel) (pa_cons (pv 1) pa_nil)) pa_nil)) (by rfl))
    (pss_cons (ps_set (i := 4) sc_law_right.nd rfl (Or.inl rfl) (pe_cmpR op_eq (pe_callD D_law_draw (hr.mono (by decide)) (pa_cons (pv 0) (pa_cons pe_int pa_nil))) pe_int (nomark _)))
    (pss_cons (ps_if (pt_val (pv 4)) (pss_cons (ps_setLc (i := 2) (own := [("number", 16)]) (tt := tYes) rfl sc_law_right.nd rfl rfl (sw_true rfl rfl rfl (by decide +kernel)) (pi_range2 (by rfl) T.n_range (pa_cons pe_int (pa_cons (pe_op op_add (pe_callB (cr_max rfl) (by rfl) T.n_max (by decide +kernel) (pa_cons (pe_op op_cat (pv 1) (pe_lst (pa_cons pe_int pa_nil))) pa_nil)) (pe_callD D_law_draw (hr.mono (by decide)) (pa_cons (pv 0) (pa_cons pe_int pa_nil)))) pa_nil))) (blkOk_by (N := sc_law_right_N) (sc := defScope s_law_right) (by decide +kernel)) (fun _ _ _ _ _ => (pg_name (i := 16) sc_law_right.nd rfl (Or.inl rfl))) (fun _ _ _ _ _ => pts_nil) (fun _ _ _ _ _ => (pe_callD D_law_pages (hr.mono (by decide)) (pa_cons (pv 1) (pa_cons (pv 16) pa_nil)))))
    (pss_cons (ps_set (i := 2) sc_law_right.nd rfl (Or.inl rfl) (pe_op op_cat (pv 2) (pe_lst (pa_cons (pe_callB call_lenN (by rfl) T.n_len (by decide +kernel) (pa_cons (pv 1) pa_nil)) pa_nil))))
    (pss_one (ps_set (i := 3) sc_law_right.nd rfl (Or.inl rfl) (pe_callBK (cr_sortedRev (b := true)) (by rfl) T.n_sorted (by decide +kernel) (pa_cons (pv 1) pa_nil) (pk_cons pe_bl pk_nil)))))) pss_nil)
    (pss_cons (ps_set (i := 5) sc_law_right.nd rfl (Or.inl rfl) (pe_ifExp (pt_val (pv 4)) (pe_cmethX (pe_gcls T.k_LiveBook.g) D_LiveBook_from_table (hr.mono (by decide)) takes0 (pa_cons (pv 2) pa_nil)) (pe_makeX T.k_LiveBook D_LiveBook___init__ (hr.mono (by decide)) takes0 (pa_cons (pv 2) pa_nil))))
    (pss_cons (ps_set (i := 6) sc_law_right.nd rfl (Or.inl rfl) (pe_ifExp (pt_val (pv 4)) (pe_cmethXK (pe_gcls T.k_LiveBook.g) D_LiveBook_from_table (hr.mono (by decide)) takes0 (pk_cons (pv 2) pk_nil) kb_LiveBook_from_table_table) (pe_makeXK T.k_LiveBook D_LiveBook___init__ (hr.mono (by decide)) takes0 (pk_cons (pv 2) pk_nil) kb_LiveBook___init___book)))
    (pss_cons (ps_expr (pe_bm PySem.F.plainAttrs_list PySem.F.slot_list_insert PySem.F.type_list_insert mt_insertN (pv 2) (pa_cons pe_int (pa_cons pe_int pa_nil))))
    (pss_cons (ps_asg (pe_op op_add (pe_ix ix_list (pv 2) (pe_un un_neg pe_int) (fun _ _ => rfl)) pe_int) (pg_sub (pv 2) (pe_un un_neg pe_int) set_list))
    (pss_cons (ps_if (pt_not (pt_val (pe_callD D_law_told_right (hr.mono (by decide)) (pa_cons (pv 5) (pa_cons (pv 3) (pa_cons pe_int pa_nil)))))) (pss_one (ps_ret pe_bl)) pss_nil)
    (pss_cons (ps_par3 (i := 7) (j := 8) (l := 9) rfl sc_law_right.nd rfl rfl rfl (by decide) (by decide) (by decide) rfl rfl rfl (pa_cons (pe_lst (pa_cons (pe_propD (pv 5) T.k_LiveBook.c D_LiveBook_book (hr.mono (by decide))) pa_nil)) (pa_cons (pe_lst (pa_cons (pe_callB (call_reprD gds (gu_of hr)) (by rfl) T.n_repr (by decide +kernel) (pa_cons (pv 3) pa_nil)) pa_nil)) (pa_cons (pv 3) pa_nil))) (by rfl))
    (pss_cons (ps_for PassesOwn.never rfl (pi_range1 (by rfl) T.n_range (pa_cons (pe_callD D_law_draw (hr.mono (by decide)) (pa_cons (pv 0) (pa_cons pe_int pa_nil))) pa_nil)) (pg_name (i := 10) sc_law_right.nd rfl (Or.inl rfl)) (pss_cons (ps_if (PW.pt (pw_and (pt_cmpR (op_neD hr.units) (pv 9) (pe_lst pa_nil) (nomark _)) (pw_and (pt_cmpR op_gt (pe_callB (cr_max rfl) (by rfl) T.n_max (by decide +kernel) (pa_cons (pv 9) pa_nil)) pe_int (nomark _)) (pw_and1 (pt_cmpR op_eq (pe_callD D_law_draw (hr.mono (by decide)) (pa_cons (pv 0) (pa_cons pe_int pa_nil))) pe_int (nomark _)))))) (pss_cons (ps_set (i := 12) sc_law_right.nd rfl (Or.inl rfl) (pe_ix ix_list (pe_lc (own := [("number", 16), ("one", 11)])  rfl sc_law_right.nd (pi_enum (by rfl) T.n_enumerate (pa_cons (pv 9) pa_nil)) (blkOk_by (N := sc_law_right_N) (sc := defScope s_law_right) (by decide +kernel)) (fun _ _ _ _ _ => (kc_pg (K := K) (pg_tup (n := 2) rfl (pgs_cons (pg_name (i := 16) sc_law_right.nd rfl (Or.inl rfl)) (pgs_cons (pg_name (i := 11) sc_law_right.nd rfl (Or.inl rfl)) pgs_nil))) rfl)) (fun _ _ _ _ _ => (pts_one (pt_cmpR op_gt (pv 11) pe_int (nomark _)))) (fun _ _ _ _ _ => (pv 16))) pe_int (fun _ _ => rfl)))
    (pss_cons (ps_expr (pe_bm PySem.F.plainAttrs_list PySem.F.slot_list_append PySem.F.type_list_append mt_append (pv 7) (pa_cons (pe_methX (pv 5) T.k_LiveBook.c D_LiveBook_split (hr.mono (by decide)) takes0 (pa_cons (pe_op op_add (pv 12) pe_int) (pa_cons pe_int pa_nil))) pa_nil)))
    (pss_cons (ps_expr (pe_bm PySem.F.plainAttrs_list PySem.F.slot_list_append PySem.F.type_list_append mt_append (pv 8) (pa_cons (pe_callB (call_reprD gds (gu_of hr)) (by rfl) T.n_repr (by decide +kernel) (pa_cons (pe_ix ix_list (pv 7) (pe_un un_neg pe_int) (fun _ _ => rfl)) pa_nil)) pa_nil)))
    (pss_one (ps_set (i := 9) sc_law_right.nd rfl (Or.inl rfl) (pe_op op_cat (pe_op op_cat (pe_slice sl_list (pv 9) po_none (po_some (pv 12))) (pe_lst (pa_cons pe_int (pa_cons (pe_op op_sub (pe_ix ix_list (pv 9) (pv 12) (fun _ _ => rfl)) pe_int) pa_nil)))) (pe_slice sl_list (pv 9) (po_some (pe_op op_add (pv 12) pe_int)) po_none))))))) (pss_cons (ps_expr (pe_methS (pv 5) T.k_LiveBook.c D_LiveBook_add (hr.mono (by decide)) takes0 (pa_cons (pe_op op_add (pv 10) pe_int) pa_nil)))
    (pss_one (ps_set (i := 9) sc_law_right.nd rfl (Or.inl rfl) (pe_op op_cat (pv 9) (pe_lst (pa_cons (pe_op op_add (pv 10) pe_int) pa_nil)))))))
    (pss_cons (ps_expr (pe_bm PySem.F.plainAttrs_list PySem.F.slot_list_append PySem.F.type_list_append mt_append (pv 7) (pa_cons (pe_propD (pv 5) T.k_LiveBook.c D_LiveBook_book (hr.mono (by decide))) pa_nil)))
    (pss_one (ps_expr (pe_bm PySem.F.plainAttrs_list PySem.F.slot_list_append PySem.F.type_list_append mt_append (pv 8) (pa_cons (pe_callB (call_reprD gds (gu_of hr)) (by rfl) T.n_repr (by decide +kernel) (pa_cons (pv 9) pa_nil)) pa_nil)))))))
    (pss_cons (ps_expr (pe_methS (pv 5) T.k_LiveBook.c D_LiveBook_add (hr.mono (by decide)) takes0 (pa_cons pe_int pa_nil)))
    (pss_cons (ps_expr (pe_methX0 (pv 5) T.k_LiveBook.c D_LiveBook_undo (hr.mono (by decide)) takes0))
    (pss_cons (ps_if (pt_cmpR (op_neD hr.units) (pe_lc (own := [("one", 11)]) (tt := tYes) rfl sc_law_right.nd (pi_list (pv 7)) (blkOk_by (N := sc_law_right_N) (sc := defScope s_law_right) (by decide +kernel)) (fun _ _ _ _ _ => (pg_name (i := 11) sc_law_right.nd rfl (Or.inl rfl))) (fun _ _ _ _ _ => pts_nil) (fun _ _ _ _ _ => (pe_callB (kc_call (K := K) (r := rReprD) (call_reprD gds (gu_of hr)) rfl) (by rfl) T.n_repr (by decide +kernel) (pa_cons (pv 11) pa_nil)))) (pv 8) (nomark _)) (pss_one (ps_ret pe_bl)) pss_nil)
    (pss_cons (ps_for PassesOwn.never rfl (pi_list (pv 7)) (pg_name (i := 11) sc_law_right.nd rfl (Or.inl rfl)) (pss_cons (ps_expr (pe_bm PySem.F.plainAttrs_list PySem.F.slot_list_append PySem.F.type_list_append mt_append (pv 11) (pa_cons pe_int pa_nil)))
    (pss_one (ps_expr (pe_bm0 PySem.F.plainAttrs_list PySem.F.slot_list_reverse PySem.F.type_list_reverse mt_reverse (pv 11))))))
    (pss_cons (ps_set (i := 13) sc_law_right.nd rfl (Or.inl rfl) (pe_op op_add pe_int (pe_callD D_law_draw (hr.mono (by decide)) (pa_cons (pv 0) (pa_cons pe_int pa_nil)))))
    (pss_cons (ps_setLcZ (i := 14) (own := [("one", 11), ("two", 15)]) rfl sc_law_right.nd rfl rfl (sw_true rfl rfl rfl (by decide +kernel)) (pz_meths (io := 5) (ia := 13) T.k_LiveBook.c DN_LiveBook_titles (hr.mono (by decide)) rfl (by rfl) T.n_zip rfl (Or.inl rfl) rfl (Or.inl rfl)) (hr.mono (by decide)) (blkOk_by (N := sc_law_right_N) (sc := defScope s_law_right) (by decide +kernel)) (by decide) (fun _ _ _ _ _ => (kc_pg (K := K) (pg_tup (n := 2) rfl (pgs_cons (pg_name (i := 11) sc_law_right.nd rfl (Or.inl rfl)) (pgs_cons (pg_name (i := 15) sc_law_right.nd rfl (Or.inl rfl)) pgs_nil))) rfl)) (fun _ _ _ _ _ => (pe_lst (pa_cons (pv 11) (pa_cons (pv 15) pa_nil)))))
    (pss_cons (ps_if (pt_cmpR (op_neD hr.units) (pv 14) (pe_lc (own := [("one", 11)]) (tt := tYes) rfl sc_law_right.nd (pi_list (pe_listGM (pv 5) T.k_LiveBook.c D_LiveBook_titles (hr.mono (by decide)) (by rfl) T.n_list (pa_cons (pv 13) pa_nil))) (blkOk_by (N := sc_law_right_N) (sc := defScope s_law_right) (by decide +kernel)) (fun _ _ _ _ _ => (pg_name (i := 11) sc_law_right.nd rfl (Or.inl rfl))) (fun _ _ _ _ _ => pts_nil) (fun _ _ _ _ _ => (pe_lst (pa_cons (pv 11) (pa_cons (pv 11) pa_nil))))) (nomark _)) (pss_one (ps_ret pe_bl)) pss_nil)
    (pss_one (ps_ret (pe_and (pe_callD D_law_told_right (hr.mono (by decide)) (pa_cons (pv 5) (pa_cons (pv 9) (pa_cons (pv 13) pa_nil)))) (pe_one (pe_callD D_law_told_right (hr.mono (by decide)) (pa_cons (pv 6) (pa_cons (pv 3) (pa_cons pe_int pa_nil)))))))))))))))))))))))))), ?_⟩
    refine w_start (σ' := [some (.ref a), none, none, none, none, none, none, none, none, none, none, none, none, none, none, none, none]) rfl ?_
    walk_at "g"
    refine ⟨a, k, 9, 40, rfl, hP, by omega, by omega, by omega, by omega, by omega, fun B xs k1 H1 hl1 hx1 hk1 hP1 f1 nB hB => ?_⟩
    have Ba : B ≠ a := hP.ne nB
    repeat ((fail_if_success with_reducible refine stopIf ?_); walk_at "1")
    dsimp only
    rename_i P1 nP1 D1 nD1 r1 k2 H2 r10 r11 hk2 hP2 f2
    have P1a : P1 ≠ a := hP1.ne nP1
    have D1a : D1 ≠ a := (hP1.new (o := .lst (xs.map V.int)) nP1).ne nD1
    have D1P : D1 ≠ P1 := (ne_of_none (upd_same (H := H1) (a := P1) (o := .lst (xs.map V.int))) nD1).symm
    have nD1' : H1 D1 = none := by rw [upd_ne D1P] at nD1; exact nD1
    have hB2 := f2.at (nn2 Ba) (at_upd (u := .lst (xs.map V.int)) (at_upd (u := .lst (xs.map V.int)) hB nP1) nD1)
    have hP12 := f2.at (nn2 P1a) (at_upd (u := .lst (xs.map V.int)) (upd_same (H := H1) (a := P1) (o := .lst (xs.map V.int))) nD1)
    have hD12 := f2.at (nn2 D1a) upd_same
    have f12 : Fr [a] H1 H2 := ((Fr.refl.new nP1).new nD1).trans f2
    clear f2 nD1
    refine w_seq (stJ (fun σ' H' => ∃ (P Du : Addr) (tv ys : List Int) (k3 : Int), σ' = [some (.ref a), some (.ref B), some (.ref P), some (.ref Du), some (.bl (decide (r1 = 0))), none, none, none, none, none, none, none, none, none, none, none, none] ∧ Pool H' a k3 ∧ k3 ≤ k2 + 1 ∧ Fr [a] H1 H' ∧ H' P = some (.lst (tv.map V.int)) ∧ H' Du = some (.lst (ys.map V.int)) ∧ H1 P = none ∧ H1 Du = none ∧ P ≠ Du ∧ Pass r1 xs tv ys) (fun N rest => ?_) ?_)
    · walk_at "g"
      refine w_ite (fun hr0 => ?_) (fun hr0 => ?_)
      · walk_at "g"
        rename_i q1 nq1 q2 nq2 m hm hle rr k4 H4 rr0 rr1 hk4 hP4 f4
        have hm1 : 1 ≤ m := hle 1 (by simp)
        have hm2 : m ≤ 200 := by
          rcases List.mem_append.mp hm with z | z
          · have := hx1 m z
            omega
          · simp at z
            omega
        have f24 := ((Fr.refl (S := [a]) (H := H2)).new (o := .lst [V.int 1]) nq1).new (o := .lst (List.map V.int (xs ++ [1]))) nq2
        have f14 : Fr [a] H1 H4 := (f12.trans f24).trans f4
        have hB4 := f14.at (nn2 Ba) hB
        clear f24 f4 hP12 hD12 nP1 nD1' hB2 f12 nq1 nq2
        walk_at "g"
        refine l_range (fun L i H' => Fr [] H4 H' ∧ H' L = some (.lst ((tab xs i).map V.int))) (fun L hL => ⟨Fr.refl.new hL, upd_same⟩) (fun L i H' hL hi h => ?_) (fun L H5 hL h => ?_)
        · obtain ⟨g1, g2⟩ := h
          have ti := tab_len xs i
          refine w_gname ⟨rfl, ?_⟩
          walk_at "g"
          refine ⟨B, xs, 1 + (i : Int), rfl, g1.at0 hB4, by omega, by omega, by omega, fun H5 f5 => ?_⟩
          have h5 := f5.at0 g2
          walk_at "g"
          refine ⟨(g1.trans f5).put (.inl hL), ?_⟩
          rw [upd_same, tab_succ, pg_ct (by omega), show (1 : Int) + i = i + 1 by omega]
        · obtain ⟨f5, h5⟩ := h
          have hB5 := f5.at0 hB4
          have hti := tab_len xs (m + rr - 1).toNat
          have f15 := f14.trans f5.nil
          have hP5 := hP4.fr f5 List.not_mem_nil
          have nL1 := f14.free (nn2 (hP4.ne hL)) hL
          clear f5 hB4 f14 hP4 hL
          walk_at "g"
          rename_i q3 nq3 q4 nq4 zs q5 hzp hzo nq5
          have ez : tab xs (m + rr - 1).toNat ++ [(xs.length : Int)] = tab xs ((m + rr - 1).toNat + 1) := by
            rw [tab_succ]
            congr 2
            exact (ct_far (by omega) fun x hx => ⟨(hx1 x hx).1, by have := hle x (List.mem_append_left _ hx); omega⟩).symm
          have e4 := (hP5.new (o := .lst [V.int (xs.length : Int)]) nq3).ne nq4
          have e5 := ((hP5.new (o := .lst [V.int (xs.length : Int)]) nq3).new (o := .lst (List.map V.int (tab xs (m + rr - 1).toNat ++ [(xs.length : Int)]))) nq4).ne nq5
          refine rest _ _ ⟨q4, q5, tab xs (m + rr - 1).toNat ++ [(xs.length : Int)], zs, k4, rfl, ((hP5.new nq3).new nq4).new nq5, by omega, ((f15.new nq3).new nq4).new nq5, at_upd upd_same nq5, upd_same, (f15.new nq3).free (nn2 e4) nq4, ((f15.new nq3).new nq4).free (nn2 e5) nq5, ne_of_none upd_same nq5, hzp, ?_, fun _ => ⟨(m + rr - 1).toNat + 1, by omega, ez, fun x hx => ⟨(hx1 x hx).1, by have := hle x (List.mem_append_left _ hx); omega⟩, by simpa [OrdB] using hzo⟩, fun z => absurd hr0 z⟩
          rw [List.length_append, hti]
          simp
          omega
      · exact rest _ _ ⟨P1, D1, xs, xs, k2, rfl, hP2, by omega, f12, hP12, hD12, nP1, nD1', D1P.symm, List.Perm.refl _, by omega, fun z => absurd z hr0, fun _ => ⟨rfl, rfl⟩⟩
    rintro σ' H3 ⟨P, Du, tv, ys, k3, rfl, hP3, hk3, f13, hp3, hd3, nP, nDu, PDu, hps⟩
    dsimp only
    have hB3 := f13.at (nn2 Ba) hB
    have Pa : P ≠ a := hP1.ne nP
    have Dua : Du ≠ a := hP1.ne nDu
    clear hB2 hP12 hD12 f12 hP2 nP1 nD1'
    have hys : ys.length = xs.length ∧ ∀ y ∈ ys, 1 ≤ y ∧ y ≤ 200 := ⟨hps.1.length_eq, fun y hy => by have := hx1 y (hps.1.mem_iff.mp hy); omega⟩
    have oldP : Old H3 [a, P] := fun v hv => by
      simp only [List.mem_cons, List.not_mem_nil, or_false] at hv
      rcases hv with rfl | rfl
      · obtain ⟨_, _, z, _⟩ := hP3
        exact ⟨_, z⟩
      · exact ⟨_, hp3⟩
    refine w_seq (stJ (fun σ' H' => ∃ (A1 dx1 : Addr), σ' = [some (.ref a), some (.ref B), some (.ref P), some (.ref Du), some (.bl (decide (r1 = 0))), some (.ref A1), none, none, none, none, none, none, none, none, none, none, none] ∧ Live c H' A1 dx1 [] ys [a, P] ∧ Fr [] H3 H' ∧ H3 A1 = none) (fun N rest => ?_) ?_)
    · walk_at "g"
      refine w_ite (fun hr0 => ?_) (fun hr0 => ?_)
      · obtain ⟨g, g1, g2, g3, g4⟩ := hps.2.2.1 hr0
        walk_at "g"
        refine ⟨P, xs, g, [a, P], rfl, by rw [← g2]; exact hp3, by omega, by omega, g3, oldP, fun ms A1 dx1 H' pm ds L f n => ?_⟩
        walk_at "g"
        have e : ms = ys := pw_perm_eq (pm.trans hps.1.symm) ds g4
        subst e
        exact rest _ _ ⟨A1, dx1, rfl, L, f, n⟩
      · obtain ⟨g1, g2⟩ := hps.2.2.2 hr0
        walk_at "g"
        intro x dx nx ndx nex
        refine init_go (ns := ys) (A := [a, P]) (by rw [g2, ← g1]; exact hp3) (by omega) (fun y hy => (hys.2 y hy).1) oldP nx ndx (fun H4 L4 f4 => ⟨rfl, ?_⟩)
        walk_at "g"
        exact rest _ _ ⟨x, dx, rfl, L4, f4, nx⟩
    rintro σ' H4 ⟨A1, dx1, rfl, L4, f34, nA1⟩
    dsimp only
    have oldQ : Old H4 [a, P, A1] := fun v hv => by
      simp only [List.mem_cons, List.not_mem_nil, or_false] at hv
      rcases hv with rfl | rfl | rfl
      · obtain ⟨_, _, z, _⟩ := hP3
        exact ⟨_, f34.at0 z⟩
      · exact ⟨_, f34.at0 hp3⟩
      · exact ⟨_, L4.here⟩
    have hp4 := f34.at0 hp3
    refine w_seq (stJ (fun σ' H' => ∃ (A2 dx2 : Addr), σ' = [some (.ref a), some (.ref B), some (.ref P), some (.ref Du), some (.bl (decide (r1 = 0))), some (.ref A1), some (.ref A2), none, none, none, none, none, none, none, none, none, none] ∧ Live c H' A2 dx2 [] ys [a, P, A1] ∧ Fr [] H4 H' ∧ H4 A2 = none) (fun N rest => ?_) ?_)
    · walk_at "g"
      refine w_ite (fun hr0 => ?_) (fun hr0 => ?_)
      · obtain ⟨g, g1, g2, g3, g4⟩ := hps.2.2.1 hr0
        walk_at "g"
        refine ⟨P, xs, g, [a, P, A1], rfl, by rw [← g2]; exact hp4, by omega, by omega, g3, oldQ, fun ms A2 dx2 H' pm ds L f n => ?_⟩
        walk_at "g"
        have e : ms = ys := pw_perm_eq (pm.trans hps.1.symm) ds g4
        subst e
        exact rest _ _ ⟨A2, dx2, rfl, L, f, n⟩
      · obtain ⟨g1, g2⟩ := hps.2.2.2 hr0
        walk_at "g"
        intro x dx nx ndx nex
        refine init_go (ns := ys) (A := [a, P, A1]) (by rw [g2, ← g1]; exact hp4) (by omega) (fun y hy => (hys.2 y hy).1) oldQ nx ndx (fun H5 L5 f5 => ⟨rfl, ?_⟩)
        walk_at "g"
        exact rest _ _ ⟨x, dx, rfl, L5, f5, nx⟩
    rintro σ' H5 ⟨A2, dx2, rfl, M5, f45, nA2⟩
    dsimp only
    have L5 := L4.fr f45 (by simp)
    have f35 := f34.trans f45
    have hP5 := hP3.fr f35 List.not_mem_nil
    have hp5 := f35.at0 hp3
    have hd5 := f35.at0 hd3
    have f15 := f13.trans f35.nil
    walk_at "g"
    obtain ⟨ini, x0, e0⟩ : ∃ (ini : List Int) (x : Int), tv.take (0 : Int).toNat ++ [1] ++ tv.drop (0 : Int).toNat = ini ++ [x] := ⟨_, _, (List.dropLast_concat_getLast (by simp)).symm⟩
    refine w_insI hp5 (by have := hps.2.1; omega) (by omega) (by omega) ?_
    rw [e0]
    walk_at "g"
    refine w_ixLast (SqL.of upd_same) (by simp) (fun i2 x2 e2 => ?_)
    walk_at "g"
    refine w_setLast upd_same ?_
    have f56 : Fr [P] H5 (upd (upd H5 P (.lst ((ini ++ [x0]).map V.int))) P (.lst ((ini ++ [x2 + 1]).map V.int))) := (Fr.refl.put (.inr (by simp))).put (.inr (by simp))
    generalize upd (upd H5 P (.lst ((ini ++ [x0]).map V.int))) P (.lst ((ini ++ [x2 + 1]).map V.int)) = H6 at f56 ⊢
    have L6 := L5.fr f56 (by simp)
    have M6 := M5.fr f56 (by simp)
    have hd6 := f56.at (nn2 PDu.symm) hd5
    have hP6 := hP5.fr f56 (nn2 Pa.symm)
    have f16 := f15.loc nP f56
    clear f56 L5 M5 hd5 hP5 f15 hp5 hp4 oldP oldQ L4 f34 f35 f45 e0 e2
    walk_at "g"
    refine ⟨A1, dx1, Du, 2, [], ys, [a, P], rfl, L6, hd6, by omega, by omega, by omega, fun H7 f67 => ?_⟩
    have L7 := L6.fr f67 (by simp)
    have M7 := M6.fr f67 (by simp)
    have hd7 := f67.at0 hd6
    have hP7 := hP6.fr f67 List.not_mem_nil
    have f17 := f16.trans f67.nil
    clear f67 L6 M6 hd6 hP6 f16
    walk_at "g"
    obtain ⟨pq, rq, riq, y1, y2, y3, y4, y5⟩ := L7.ex
    walk_at "g"
    refine ⟨A1, dx1, [], ys, [a, P], rfl, L7, fun b0 nb0 => ?_⟩
    have hd8 := at_upd (u := .lst (ys.map V.int)) hd7 nb0
    walk_at "g"
    rename_i HL nHL
    refine w_reprD (dp_ints (SqL.of (at_upd hd8 nHL))) (fine_ints (fun x h => by have := hys.2 x h; omega) (by omega)) ?_
    walk_at "g"
    rename_i KL nKL r2 k8 H8 r20 r21 hk8 hP8 f8
    have b0a : b0 ≠ a := hP7.ne nb0
    have HLa : HL ≠ a := (hP7.new (o := .lst (ys.map V.int)) nb0).ne nHL
    have KLa : KL ≠ a := ((hP7.new (o := .lst (ys.map V.int)) nb0).new (o := .lst [.ref b0]) nHL).ne nKL
    have g1 : Fr [a] H1 (upd H7 b0 (.lst (ys.map V.int))) := f17.new nb0
    have nb1 : H1 b0 = none := f17.free (nn2 b0a) nb0
    have nHL1 : H1 HL = none := g1.free (nn2 HLa) nHL
    have nKL1 : H1 KL = none := (g1.new (o := .lst [.ref b0]) nHL).free (nn2 KLa) nKL
    have A1a : A1 ≠ a := fun z => y5 A1 (by simp) (by rw [z]; simp)
    have nA1' : H1 A1 = none := f13.free (nn2 A1a) nA1
    have f78 : Fr [] H7 (upd (upd (upd H7 b0 (.lst (ys.map V.int))) HL (.lst [.ref b0])) KL (.lst [.str (dI ys).shown])) := ((Fr.refl.new nb0).new nHL).new nKL
    have b0D : Du ≠ b0 := ne_of_none hd7 nb0
    have S8 : LoopS c H1 H8 a A1 A2 dx1 dx2 Du HL KL ys 0 ys [] [b0] [ys] := by
      have W1 := ((((L7.new nb0).fr (S := []) (Fr.refl.new (o := .lst (ys.map V.int)) nb0) (by simp)).new nHL).fr (S := []) (Fr.refl.new (o := .lst [.ref b0]) nHL) (by simp)).new nKL
      have W2 := ((((M7.new nb0).fr (S := []) (Fr.refl.new (o := .lst (ys.map V.int)) nb0) (by simp)).new nHL).fr (S := []) (Fr.refl.new (o := .lst [.ref b0]) nHL) (by simp)).new nKL
      refine LoopS.go (H2 := upd (upd (upd H7 b0 (.lst (ys.map V.int))) HL (.lst [.ref b0])) KL (.lst [.str (dI ys).shown])) ⟨(W1.less (B := a :: HL :: KL :: [b0]) (by intro u hu; simp at hu ⊢; rcases hu with z | z | z | z <;> simp [z])).fr (S := []) (Fr.refl.new nKL) (by simp), (W2.less (B := a :: HL :: KL :: A1 :: [b0]) (by intro u hu; simp at hu ⊢; rcases hu with z | z | z | z | z <;> simp [z])).fr (S := []) (Fr.refl.new nKL) (by simp), f78.at0 hd7, ⟨at_upd upd_same nKL, upd_same, .one (at_upd (at_upd upd_same nHL) nKL), by simp, fun b hb => ?_⟩, by simpa using b0D, by simp, by omega, hys.2, f17.trans f78.nil, fun h hh => ?_, by simp⟩ f8 Dua HLa KLa (by simpa using b0a.symm)
      · rw [List.mem_singleton.mp hb]
        exact ⟨by omega, fun x hx => by have := hys.2 x hx; omega⟩
      · rw [List.mem_singleton.mp hh]
        exact nb1
    have hd8' : H8 Du = some (.lst (ys.map V.int)) := S8.hd
    clear f8 f78 g1 nKL nHL nb0 hd8 L7 M7 hd7 hP7 f17 y1 y2 y3 y4 y5
    refine f_range (fun i σ' H' => ∃ (o10 o12 : Option V) (Hr : Addr) (ns : List Int) (init : List (List Int)) (hs : List Addr) (bs : List (List Int)) (k' : Int), σ' = [some (.ref a), some (.ref B), some (.ref P), some (.ref Du), some (.bl (decide (r1 = 0))), some (.ref A1), some (.ref A2), some (.ref HL), some (.ref KL), some (.ref Hr), o10, none, o12, none, none, none, none] ∧ Pool H' a k' ∧ k' ≤ k8 + i ∧ LoopS c H1 H' a A1 A2 dx1 dx2 Du HL KL ys i ns init hs bs ∧ H' Hr = some (.lst (ns.map V.int)) ∧ Hr ∉ hs ∧ Hr ≠ a) ⟨none, none, Du, ys, [], [b0], [ys], k8, rfl, hP8, by omega, S8, hd8', S8.nd, Dua⟩ ?_ ?_
    · rintro i σ' H' hi ⟨o10, o12, Hr, ns, init, hs, bs, k', rfl, hP', hk', S, hr', nr', ra'⟩
      have hi6 : i < 6 := by omega
      have anh := S.ne_a hP1
      refine w_seq (stJ (fun σ'' H'' => ∃ (o12 : Option V) (Hr' : Addr) (ns' : List Int) (init' : List (List Int)) (hs' : List Addr) (bs' : List (List Int)) (k'' : Int), σ'' = [some (.ref a), some (.ref B), some (.ref P), some (.ref Du), some (.bl (decide (r1 = 0))), some (.ref A1), some (.ref A2), some (.ref HL), some (.ref KL), some (.ref Hr'), some (.int (0 + (i : Int))), none, o12, none, none, none, none] ∧ Pool H'' a k'' ∧ k'' ≤ k' + 1 ∧ LoopS c H1 H'' a A1 A2 dx1 dx2 Du HL KL ys (i + 1) ns' init' hs' bs' ∧ hs'.length ≤ 2 + 2 * i ∧ H'' Hr' = some (.lst (ns'.map V.int)) ∧ Hr' ∉ hs' ∧ Hr' ≠ a) (fun N rest => ?_) ?_)
      · dsimp only
        refine ifT (fun bb Hx => ∃ kx : Int, Pool Hx a kx ∧ kx ≤ k' + 1 ∧ Fr [a] H' Hx ∧ (bb = true → ∃ m ∈ ns, 1 < m)) (fun RR rest2 => ?_) ?_
        · walk_at "g"
          refine w_iteN (fun hne => ?_) (fun he => ?_)
          · have hpos := List.length_pos_iff.mpr hne
            walk_at "g"
            rename_i p0 np0 m hm hle
            refine w_ite (fun hlt => ?_) (fun hlt => ?_)
            · walk_at "g"
              rename_i r4 k4 H4 r40 r41 hk4 hP4 f4
              exact rest2 _ _ ⟨k4, hP4, hk4, (Fr.refl.new np0).trans f4, fun _ => ⟨m, hm, hlt⟩⟩
            · exact rest2 _ _ ⟨k', hP'.new np0, by omega, Fr.refl.new np0, fun z => absurd z (by simp)⟩
          · rename_i p0 np0
            exact rest2 _ _ ⟨k', hP'.new np0, by omega, Fr.refl.new np0, fun z => absurd z (by simp)⟩
        · rintro bb Hx ⟨kx, hPx, hkx, fx, hbb⟩
          have Sx := S.go fx Dua HLa KLa anh
          have hrx := fx.at (nn2 ra') hr'
          have hil := Sx.il
          have hnl := Sx.nl
          have hsz := Sx.hsl
          cases bb with
          | true =>
            rw [if_pos rfl]
            obtain ⟨mm, hmm, hm1⟩ := hbb rfl
            walk_at "g"
            refine l_enum (ns.map V.int) (fun L i H' => ∃ js : List Int, Fr [] Hx H' ∧ H' L = some (.lst (js.map V.int)) ∧ js.length ≤ i ∧ ((js = [] ∧ ∀ (j : Nat) (m : Int), j < i → ns[j]? = some m → m ≤ 1) ∨ ∃ (b : Nat) (t : List Int) (x : Int), js = (b : Int) :: t ∧ ns[b]? = some x ∧ 1 < x)) (fun L hL => ⟨[], Fr.refl.new hL, upd_same, by simp, .inl ⟨rfl, fun j m hj => by omega⟩⟩) (fun L i H' _ _ h => .of (h.choose_spec.1.at0 hrx)) (fun L i x tp H' hL hx2 h htp => ?_) (fun L H5 hL h => ?_)
            · obtain ⟨js, f5, h5, jl, hj⟩ := h
              obtain ⟨m, hm, rfl⟩ := map_at hx2
              have hil := (List.getElem?_eq_some_iff.mp hm).1
              have h5T : upd H' tp (.tup [.int i, .int m]) L = some (.lst (js.map V.int)) := at_upd h5 htp
              walk_at "g"
              refine ⟨rfl, ?_⟩
              walk_at "g"
              refine w_ite (fun hz0 => ?_) (fun hz0 => ?_)
              · walk_at "g"
                refine ⟨js ++ [(i : Int)], (f5.new htp).put (.inl hL), upd_same, by simp; omega, .inr ?_⟩
                rcases hj with ⟨rfl, hj⟩ | ⟨b, t, y, rfl, hj⟩
                · exact ⟨i, [], m, rfl, hm, hz0⟩
                · exact ⟨b, t ++ [(i : Int)], y, rfl, hj⟩
              · refine ⟨js, f5.new htp, h5T, by omega, ?_⟩
                rcases hj with ⟨rfl, hj⟩ | hj
                · refine .inl ⟨rfl, fun j m' hj1 hj2 => ?_⟩
                  rcases Nat.lt_succ_iff_lt_or_eq.mp hj1 with z | z
                  · exact hj j m' z hj2
                  · rw [z, hm] at hj2
                    cases hj2
                    omega
                · exact .inr hj
            obtain ⟨js, f5, h5, jl, hj⟩ := h
            rw [List.length_map] at jl
            rcases hj with ⟨rfl, hj⟩ | ⟨b, t, x, rfl, hbx, hx1'⟩
            · obtain ⟨j, hjx⟩ := List.getElem?_of_mem hmm
              have := hj j mm (by rw [List.length_map]; exact (List.getElem?_eq_some_iff.mp hjx).1) hjx
              omega
            have Sy := Sx.go0 f5
            have hry := f5.at0 hrx
            have hPy := hPx.fr f5 List.not_mem_nil
            have hbl := (List.getElem?_eq_some_iff.mp hbx).1
            clear f5 hL
            have hHL5 := Sy.held.l1
            have hKL5 := Sy.held.l2
            obtain ⟨pq, rq, riq, y1, y2, y3, y4, y5⟩ := Sy.L.ex
            walk_at "g"
            rename_i vv hvv
            obtain rfl : (b : Int) = vv := by simpa using hvv
            have eb : ((b : Int) + 1 - 1).toNat = b := by omega
            refine ⟨A1, dx1, (b : Int) + 1, 1, init, ns, _, rfl, Sy.L, Sy.old hPy, by omega, by omega, fun x' m1 m2 hx' l1 l2 r H6 L6 f6 nr6 hr6 => ?_, fun hb => absurd hb (by omega), fun x' m1 m2 hx' hb => ?_⟩
            · rw [eb, hbx] at hx'
              cases hx'
              rw [eb] at L6
              have hxb := Sy.nb x (List.mem_of_getElem? hbx)
              obtain ⟨sm1, sm2⟩ := splitI_mem Sy.nb hbx (by omega) l2
              have dl := difN_len [x] [1, x - 1] 100
              have S6 := Sy.call f6 nA1' (L6.less (B := a :: HL :: KL :: hs) (by intro u hu; simp at hu ⊢; rcases hu with z | z | z | z <;> simp [z])) (by simp; omega) (by omega) sm1
              have hq := S6.held.ne2
              have hHL6 := S6.held.l1
              have hKL6 := S6.held.l2
              have hbsl := S6.held.at_.len
              have ra : r ≠ a := hPy.ne nr6
              have hH6 := f6.at (nn2 (Sy.neL hry)) hry
              have hP6 := hPy.fr f6 (nn2 A1a.symm)
              have ok6 : (difN [x] [1, x - 1] 100).length ≤ 1000 ∧ ∀ y ∈ difN [x] [1, x - 1] 100, 0 ≤ y ∧ y ≤ 200 := ⟨by omega, fun y hy => by have := difN_mem y hy; omega⟩
              have S8 := Sy.callPush f6 nA1' nr6 L6 hr6 ok6 ra nHL1 nKL1 (by simp; omega) (by omega) sm1
              have hKL7 : upd H6 HL (.lst ((hs ++ [r]).map V.ref)) KL = some (.lst (bs.map fun b => V.str (dI b).shown)) := by rw [upd_ne hq.symm]; exact hKL6
              have hr7 : upd H6 HL (.lst ((hs ++ [r]).map V.ref)) r = some (.lst ((difN [x] [1, x - 1] 100).map V.int)) := by rw [upd_ne (S6.held.neI hr6).1]; exact hr6
              have hHL7 : upd H6 HL (.lst ((hs ++ [r]).map V.ref)) HL = some (.lst ((hs ++ [r]).map V.ref)) := upd_same
              have hr8 : upd (upd H6 HL (.lst ((hs ++ [r]).map V.ref))) KL (.lst ((bs ++ [difN [x] [1, x - 1] 100]).map fun b => V.str (dI b).shown)) Hr = some (.lst (ns.map V.int)) := by
                rw [upd_ne (S6.held.neI hH6).2, upd_ne (S6.held.neI hH6).1]
                exact hH6
              have hP8 : Pool (upd (upd H6 HL (.lst ((hs ++ [r]).map V.ref))) KL (.lst ((bs ++ [difN [x] [1, x - 1] 100]).map fun b => V.str (dI b).shown))) a kx := (hP6.put HLa).put KLa
              clear y1 y2 y3 y4 y5 hHL5 hKL5
              walk_at "g"
              refine w_ixLastR hHL7 ?_
              walk_at "g"
              refine w_reprD (dp_ints (SqL.of hr7)) (fine_ints (fun y h => by have := ok6.2 y h; omega) (by omega)) ?_
              walk_at "g"
              refine w_appV hKL7 (by rw [List.length_map]; omega) ?_
              rw [show (bs.map fun b => V.str (dI b).shown) ++ [V.str (PyData.list (List.map PyData.int (difN [x] [1, x - 1] 100))).shown] = (bs ++ [difN [x] [1, x - 1] 100]).map fun b => V.str (dI b).shown by rw [List.map_append]; rfl]
              clear hKL7 hr7 hHL7 hHL6 hKL6 hH6 hP6 S6 f6 L6 hr6
              generalize upd (upd H6 HL (.lst ((hs ++ [r]).map V.ref))) KL (.lst ((bs ++ [difN [x] [1, x - 1] 100]).map fun b => V.str (dI b).shown)) = H8x at S8 hr8 hP8 ⊢
              walk_at "g"
              rename_i p1 np1 nn hnn p2 np2
              rw [Int.toNat_natCast, hbx] at hnn
              obtain rfl := Option.some.inj hnn
              have c1 := cutI_len ns none (some (b : Int))
              have c2 := cutI_len ns (some ((b : Int) + 1)) none
              refine w_catI (ms := [1, x - 1]) (at_upd upd_same np2) upd_same (by simp only [List.length_cons, List.length_nil]; omega) (fun p3 np3 => ?_)
              walk_at "g"
              rename_i p4 np4
              refine w_catI (at_upd upd_same np4) upd_same (by simp only [List.length_append, List.length_cons, List.length_nil]; omega) (fun p5 np5 => ?_)
              have ep : cutI ns none (some (b : Int)) ++ [1, x - 1] ++ cutI ns (some ((b : Int) + 1)) none = splitI ns b 1 x := by
                have e3 : cutI ns none (some (b : Int)) = ns.take b := by rw [cutI_take]
                have e4 : cutI ns (some ((b : Int) + 1)) none = ns.drop (b + 1) := by
                  rw [show (b : Int) + 1 = ((b + 1 : Nat) : Int) by omega, cutI_drop]
                rw [e3, e4, splitI]
              rw [ep]
              have f84 := (((Fr.refl (S := []) (H := H8x)).new (o := .lst ((cutI ns none (some (b : Int))).map V.int)) np1).new (o := .lst [V.int 1, V.int (x - 1)]) np2).new (o := .lst ((cutI ns none (some (b : Int)) ++ [1, x - 1]).map V.int)) np3
              have f85 := f84.new (o := .lst ((cutI ns (some ((b : Int) + 1)) none).map V.int)) np4
              obtain ⟨w1, w2⟩ := (S8.go0 f85).fresh ((((hP8.new np1).new np2).new np3).new np4) np5
              exact rest _ _ ⟨_, p5, splitI ns b 1 x, init ++ [ns], hs ++ [r], bs ++ [difN [x] [1, x - 1] 100], kx, rfl, ((((hP8.new np1).new np2).new np3).new np4).new np5, hkx, S8.go0 (f85.new np5), by simp; omega, upd_same, w1, w2⟩
            · rw [eb, hbx] at hx'
              cases hx'
              omega
          | false =>
            rw [if_neg Bool.false_ne_true]
            obtain ⟨pq, rq, riq, y1, y2, y3, y4, y5⟩ := Sx.L.ex
            walk_at "g"
            refine added_go (xs := [0 + (i : Int) + 1]) Sx.L (Sx.old hPx) (by simp) (by omega) (by omega) (fun _ H6 L6 f6 => ?_) (fun i hb => (hb.not (by simp; omega)).elim)
            have S6 := Sx.call f6 nA1' L6 (by simp; omega) (by simp; omega) (fun n hn => by
              rcases List.mem_append.mp hn with z | z
              · exact Sx.nb n z
              · rw [List.mem_singleton.mp z]
                omega)
            have hr6 := f6.at (nn2 (Sx.neL hrx)) hrx
            have hP6 := hPx.fr f6 (nn2 A1a.symm)
            clear y1 y2 y3 y4 y5
            walk_at "g"
            rename_i t1 nt1 q1 nq1
            have Sy := S6.go0 (Fr.refl.new nt1 (o := .lst [V.int (0 + (i : Int) + 1)]))
            have Py := hP6.new nt1 (o := .lst [V.int (0 + (i : Int) + 1)])
            obtain ⟨u1, u2⟩ := Sy.fresh Py nq1
            exact rest _ _ ⟨o12, q1, _, _, hs, bs, kx, rfl, Py.new nq1, hkx, Sy.go0 (Fr.refl.new nq1), by omega, upd_same, u1, u2⟩
      rintro σ'' Ha ⟨o12', Hr2, ns2, init2, hs2, bs2, k2', rfl, hPa, hka, Sa, hsl2, hr2, nr2, ra2⟩
      dsimp only
      have Lq := Sa.L
      have hHL := Sa.held.l1
      have hKL := Sa.held.l2
      obtain ⟨pq, rq, riq, y1, y2, y3, y4, y5⟩ := Lq.ex
      walk_at "g"
      refine ⟨A1, dx1, init2, ns2, _, rfl, Lq, fun b nb => ?_⟩
      walk_at "g"
      have hq2 := Sa.held.ne2
      have hKL2 : (upd (upd Ha b (.lst (ns2.map V.int))) HL (.lst ((hs2 ++ [b]).map V.ref))) KL = some (.lst (bs2.map fun b => V.str (dI b).shown)) := by rw [upd_ne hq2.symm]; exact at_upd hKL nb
      have hr3 : (upd (upd Ha b (.lst (ns2.map V.int))) HL (.lst ((hs2 ++ [b]).map V.ref))) Hr2 = some (.lst (ns2.map V.int)) := by rw [upd_ne (Sa.held.neI hr2).1]; exact at_upd hr2 nb
      have hns2 := Sa.nl
      have hbl := Sa.held.at_.len
      walk_at "g"
      refine w_reprD (dp_ints (SqL.of hr3)) (fine_ints (fun x h => by have := Sa.nb x h; omega) (by omega)) ?_
      walk_at "g"
      refine w_appV hKL2 (by rw [List.length_map]; omega) ?_
      walk_at "g"
      have ek : (bs2.map fun b => V.str (dI b).shown) ++ [V.str (PyData.list (List.map PyData.int ns2)).shown] = (bs2 ++ [ns2]).map fun b => V.str (dI b).shown := by rw [List.map_append]; rfl
      rw [ek]
      have ba := hPa.ne nb
      refine ⟨_, o12', Hr2, ns2, init2, hs2 ++ [b], bs2 ++ [ns2], k2', rfl, ((hPa.new nb).put HLa).put KLa, by omega, Sa.push nb (Fr.refl.new nb) upd_same ⟨by omega, fun x hx => by have := Sa.nb x hx; omega⟩ ba nHL1 nKL1 (by omega), by rw [upd_ne (Sa.held.neI hr2).2]; exact hr3, ?_, ra2⟩
      intro z
      rcases List.mem_append.mp z with z | z
      · exact nr2 z
      · rw [List.mem_singleton] at z
        rw [z, nb] at hr2
        cases hr2
    · rintro σ' H9 ⟨o10, o12, Hr, ns, init, hs, bs, k', rfl, hP9, hk', S, hr', nr', ra'⟩
      dsimp only
      have Lq := S.L
      obtain ⟨pq, rq, riq, y1, y2, y3, y4, y5⟩ := Lq.ex
      walk_at "g"
      have hil := S.il
      have hnl := S.nl
      have hr6 : r2.toNat < 6 := by omega
      refine added_go (xs := [7]) S.L (S.old hP9) (by simp) (by omega) (by omega) (fun _ Ha La fa => ?_) (fun i hb => (hb.not (by simp)).elim)
      have Sa := S.call fa nA1' La (by simp; omega) (by simp; omega) (fun n hn => by
        rcases List.mem_append.mp hn with z | z
        · exact S.nb n z
        · rw [List.mem_singleton.mp z]
          omega)
      have hra := fa.at (nn2 (S.neL hr')) hr'
      have hPa := hP9.fr fa (nn2 A1a.symm)
      clear y1 y2 y3 y4 y5 fa
      obtain ⟨pq, rq, riq, y1, y2, y3, y4, y5⟩ := Sa.L.ex
      walk_at "g"
      refine ⟨A1, dx1, init ++ [ns], ns ++ [7], _, rfl, Sa.L, Sa.old hPa, by simp; omega, fun init' ns' e Hb Lb fb => ?_, fun z => absurd z (by simp)⟩
      have e2 := List.append_inj' e rfl
      obtain ⟨rfl, e3⟩ := e2
      obtain rfl : ns = ns' := by simpa using e3
      have Sb := Sa.call fb nA1' Lb (by omega) (by omega) S.nb
      have hrb := fb.at (nn2 (Sa.neL hra)) hra
      have hPb := hPa.fr fb (nn2 A1a.symm)
      have anh := S.ne_a hP1
      clear y1 y2 y3 y4 y5 fb La Lb Sa hra hPa hr' hP9 S e e3
      have hHL := Sb.held.l1
      have hKL := Sb.held.l2
      have hlen := Sb.held.at_.len
      have hsl := Sb.hsl
      walk_at "g"
      refine l_list (hs.map V.ref) (fun L j H' => Fr [] Hb H' ∧ H' L = some (.lst ((bs.take j).map fun b => V.str (dI b).shown))) (fun L hL => ⟨Fr.refl.new hL, upd_same⟩) (fun L j H' _ _ h => .of (h.1.at0 hHL)) (fun L j x H' hL hx h => ?_) (fun L Hc hL h => ?_)
      · obtain ⟨fj, hLj⟩ := h
        obtain ⟨u, hu, rfl⟩ := map_at' hx
        obtain ⟨bb, hbb⟩ : ∃ bb, bs[j]? = some bb := ⟨bs[j]'(by have := (List.getElem?_eq_some_iff.mp hu).1; omega), List.getElem?_eq_getElem _⟩
        have hub := fj.at0 (Sb.held.at_.at_ j u bb hu hbb)
        have okb := Sb.held.ok bb (List.mem_of_getElem? hbb)
        have tl : (bs.take j).length ≤ bs.length := by rw [List.length_take]; omega
        refine ⟨rfl, ?_⟩
        walk_at "g"
        refine w_reprD (dp_ints (SqL.of hub)) (fine_ints (fun y h => by have := okb.2 y h; omega) (by omega)) ?_
        refine w_appE hLj (by rw [List.length_map]; omega) ?_
        refine ⟨fj.put (.inl hL), ?_⟩
        rw [upd_same, List.take_succ, hbb, List.map_append]
        rfl
      · obtain ⟨fc, hLc⟩ := h
        rw [List.length_map, hlen, List.take_length] at hLc
        have Sc := Sb.go0 fc
        have hKc := fc.at0 hKL
        have hHc := fc.at0 hHL
        have hrc := fc.at0 hrb
        have hPc := hPb.fr fc List.not_mem_nil
        clear fc hL hHL hKL hrb hPb Sb
        walk_at "g"
        refine w_neScal hLc hKc (by rw [List.all_map]; exact List.all_eq_true.mpr fun x _ => by show Pg.scal (V.str (dI x).shown) = true; exact ints_ok x) ?_
        walk_at "g"
        refine f_list (hs.map V.ref) (fun j σ' H' => ∃ o11 : Option V, σ' = [some (.ref a), some (.ref B), some (.ref P), some (.ref Du), some (.bl (decide (r1 = 0))), some (.ref A1), some (.ref A2), some (.ref HL), some (.ref KL), some (.ref Hr), o10, o11, o12, none, none, none, none] ∧ Fr hs Hc H' ∧ ∀ u ∈ hs, ∃ l : List Int, H' u = some (.lst (l.map V.int)) ∧ l.length ≤ 1000 + j) ⟨none, rfl, Fr.refl, fun u hu => ?_⟩ ?_ ?_ ?_
        · obtain ⟨l, hl, e⟩ := Sc.held.mem hu
          exact ⟨l, e, by have := (Sc.held.ok l hl).1; omega⟩
        · rintro j σ' H' _ ⟨o11, rfl, fj, _⟩
          exact SqL.of (fj.at (fun z => by
            obtain ⟨l, _, e⟩ := Sc.held.mem z
            exact (Sc.held.neI e).1 rfl) hHc)
        · rintro j x σ' H' hx ⟨o11, rfl, fj, hj⟩
          obtain ⟨u, hu, rfl⟩ := map_at' hx
          have hum := List.mem_of_getElem? hu
          have hjl := (List.getElem?_eq_some_iff.mp hu).1
          obtain ⟨l, hl, hll⟩ := hj u hum
          walk_at "g"
          refine ⟨u, (l ++ [1]).map V.int, rfl, rfl, upd_same, ?_⟩
          refine ⟨_, rfl, (fj.put (.inr hum)).put (.inr hum), fun v hv => ?_⟩
          by_cases e : v = u
          · subst e
            exact ⟨(l ++ [1]).reverse, by rw [upd_same, List.map_reverse], by simp; omega⟩
          · obtain ⟨l', h1, h2⟩ := hj v hv
            exact ⟨l', by rw [upd_ne e, upd_ne e]; exact h1, by omega⟩
        · rintro σ' Hd ⟨o11, rfl, fd, _⟩
          have hPd := hPc.fr fd anh
          have Ld := Sc.L.fr fd (fun v hv => by simp [hv])
          walk_at "g"
          rename_i rr k9 H13 rr0 rr1 hk9 hP13 f13'
          have L13 := Ld.fr f13' (by simp)
          obtain ⟨p, r, ri, e1, e2, e3, e4, e5⟩ := L13.ex
          have hnl := Sc.nl
          have hil2 := Sc.il
          have hri := e3.len
          generalize hxs : starts ns (1 + rr) = zs
          have lz : zs.length = ns.length := by rw [← hxs, starts_len]
          unfold tZipM LcZE
          refine ⟨A1, dx1, .int (1 + rr), [("past", .ref p)], rfl, rfl, e1, by rfl, fun how => ?_⟩
          have hown := how _ _ _ _ e1
          refine ⟨only H13 [A1, dx1, p, r], zs.map V.int, zs.map V.int, fun b o e => (only_sub e).1, small_live e1 hown e2 e4, titX_at e1 e2 e4 (by omega), by rw [← hxs]; exact titN_at e1 e2 e4 (by omega) (by omega) (by omega) (by omega), by rw [← hxs]; exact titN_at e1 e2 e4 (by omega) (by omega) (by omega) (by omega), rfl, fun D nD => ?_⟩
          refine ⟨fun j H' => ∃ qs : List Addr, H' D = some (.lst (qs.map V.ref)) ∧ ListsAt H' qs ((zs.take j).map fun x => [x, x]) ∧ D ∉ qs ∧ Fr [] H13 H', ⟨[], upd_same, .nil, by simp, Fr.refl.new nD⟩, fun j H' h => ?_, fun j x y H' hx hy h T nT => ?_, fun H' h => ?_⟩
          · obtain ⟨qs, g1, _, _, f⟩ := h
            exact ⟨⟨_, g1⟩, fun b o e => f.at0 (only_sub e).1⟩
          · obtain ⟨qs, g1, g2, g3, g4⟩ := h
            rw [hx] at hy
            cases hy
            obtain ⟨v, hv, rfl⟩ := map_at hx
            have hjl := (List.getElem?_eq_some_iff.mp hv).1
            have nTD : D ≠ T := ne_of_none g1 nT
            walk_at "g"
            refine ⟨rfl, ?_⟩
            walk_at "g"
            rename_i q nq
            have gD := at_upd (u := .lst [.int v, .int v]) (at_upd (u := .tup [.int v, .int v]) g1 nT) nq
            have nqD : D ≠ q := ne_of_none (at_upd g1 nT) nq
            have gl := g2.len
            rw [List.length_map, List.length_take] at gl
            refine ⟨qs.map V.ref, gD, by rw [List.length_map]; show qs.length < 16777216; omega, fun b o e => ?_, qs ++ [q], by rw [upd_same, List.map_append]; rfl, ?_, ?_, ?_⟩
            · by_cases z : b = q
              · rw [z, upd_same] at e
                cases e
                exact .inr (.inl ⟨_, rfl⟩)
              rw [upd_ne z] at e
              by_cases z2 : b = T
              · rw [z2, upd_same] at e
                cases e
                exact .inr (.inr ⟨_, rfl⟩)
              rw [upd_ne z2] at e
              exact .inl e
            · rw [List.take_succ, hv, List.map_append]
              refine ListsAt.put (((g2.fr (Fr.refl.new nT)).fr (Fr.refl.new nq)).app (.one upd_same)) ?_
              simpa using ⟨g3, nqD⟩
            · simpa using ⟨g3, nqD⟩
            · exact ((g4.new nT).new nq).put (.inl nD)
          · obtain ⟨qs, g1, g2, g3, g4⟩ := h
            rw [List.length_map, List.take_length] at g2
            have L14 := L13.fr g4 (by simp)
            walk_at "g"
            refine ⟨A1, dx1, 1 + rr, init, ns, _, rfl, L14, by omega, by omega, fun _ H5 f5 => ?_, fun z => absurd z (by omega)⟩
            rw [hxs]
            have g1' := f5.at0 g1
            have g2' := g2.fr f5
            have f135 := g4.trans f5
            clear g1 g2 g4 f5 L14 how e1 e2 e3 e4 e5
            walk_at "g"
            rename_i p5 np5
            have g5 := at_upd (u := .lst (zs.map V.int)) g1' np5
            refine l_list (zs.map V.int) (fun L i H' => ∃ qs2 : List Addr, Fr [] (upd H5 p5 (.lst (zs.map V.int))) H' ∧ H' L = some (.lst (qs2.map V.ref)) ∧ ListsAt H' qs2 ((zs.take i).map fun x => [x, x]) ∧ L ∉ qs2) (fun L hL => ⟨[], Fr.refl.new hL, upd_same, .nil, by simp⟩) (fun L i H' _ _ h => .of (h.choose_spec.1.at0 upd_same)) (fun L i x H' hL hx h => ?_) (fun L H6 hL h => ?_)
            · obtain ⟨qs2, k1, k2, k3, k4⟩ := h
              obtain ⟨v, hv, rfl⟩ := map_at hx
              have hjl := (List.getElem?_eq_some_iff.mp hv).1
              have gl := k3.len
              rw [List.length_map, List.length_take] at gl
              refine ⟨rfl, ?_⟩
              walk_at "g"
              rename_i q nq
              have nqL : L ≠ q := ne_of_none k2 nq
              refine w_appE (at_upd k2 nq) (by rw [List.length_map]; omega) ?_
              refine ⟨qs2 ++ [q], (k1.new nq).put (.inl hL), by rw [upd_same, List.map_append]; rfl, ?_, by simpa using ⟨k4, nqL⟩⟩
              rw [List.take_succ, hv, List.map_append]
              exact ListsAt.put ((k3.fr (Fr.refl.new nq)).app (.one upd_same)) (by simpa using ⟨k4, nqL⟩)
            · obtain ⟨qs2, k1, k2, k3, k4⟩ := h
              rw [List.length_map, List.take_length] at k3
              refine w_neLists (k1.at0 g5) k2 ((g2'.fr (Fr.refl.new np5)).fr k1) k3 ?_
              rw [decide_eq_true rfl]
              have f6 := (f135.new np5).trans k1
              have Md := (Sc.M.fr fd (fun v hv => by simp [hv])).fr f13' (by simp)
              have M6 := Md.fr f6 (by simp)
              have L6 := L13.fr f6 (by simp)
              have h6r := f6.at0 (f13'.at (nn2 ra') (fd.at nr' hrc))
              have h6d := f6.at0 (f13'.at (nn2 Dua) (fd.at Sc.nd Sc.hd))
              have P6 := hP13.fr f6 List.not_mem_nil
              have fall := ((f1.trans (Sc.f.drop fd (fun t ht => .inr (Sc.fr t ht)))).trans f13').trans f6.nil
              clear k1 k2 k3 f6 f135 g5 Md L13 g1' g2' f13' fd hrc hP13
              walk_at "g"
              refine ⟨A1, dx1, Hr, 1 + rr, init, ns, _, rfl, L6, h6r, by omega, by omega, by omega, fun H7 f7 => ?_⟩
              have M7 := M6.fr f7 (by simp)
              have h7d := f7.at0 h6d
              walk_at "g"
              refine ⟨A2, dx2, Du, 3, [], ys, _, rfl, M7, h7d, by omega, by omega, by omega, fun H8 f8 => ?_⟩
              exact q k9 H8 (by omega) ((P6.fr f7 List.not_mem_nil).fr f8 List.not_mem_nil) ((fall.trans f7.nil).trans f8.nil)
set_option maxHeartbeats 4000000 in
theorem ok_law (T : Txt K mg c) : GefAt P w K mg base "law" s_law 10 ["script"] (spLaw K) := by
  have D_law_pool := ok_law_pool (P := P) (w := w) (base := base) T
  have D_law_right := ok_law_right (P := P) (w := w) (base := base) T
  have D_LiveBook_from_table := ok_LiveBook_from_table (P := P) (w := w) (base := base) T
  have D_LiveBook_book := ok_LiveBook_book (P := P) (w := w) (base := base) T
  have cls_LiveBook := T.k_LiveBook.c
  have na_LiveBook_past := T.na_LiveBook_past
  refine T.f_law.okG sc_law (fun vs H Q E h => ?_) (fun _ _ _ _ _ _ us hl => match us, hl with | [_], _ => rfl) (fun f cdv A outer s H vs Q E hr gds h => ?_)
  · obtain ⟨a, ns, rfl, hS, hl, q⟩ := h
    rfl
  · obtain ⟨a, ns, rfl, hS, hl, q⟩ := h
    refine ⟨_, (pss_cons (ps_for PassesOwn.never rfl (pi_range1 (by rfl) T.n_range (pa_cons (pe_callB (call_max2N rfl) (by rfl) T.n_max (by decide +kernel) (pa_cons pe_int (pa_cons (pe_callB (call_min2N rfl) (by rfl) T.n_min (by decide +kernel) (pa_cons pe_int (pa_cons (pe_callB call_lenN (by rfl) T.n_len (by decide +kernel) (pa_cons (pv 0) pa_nil)) pa_nil))) pa_nil))) pa_nil)) (pg_name (i := 1) sc_law.nd rfl (Or.inl rfl)) (pss_cons (ps_set (i := 2) sc_law.nd rfl (Or.inl rfl) (pe_callD D_law_pool (hr.mono (by decide)) (pa_cons (pv 0) (pa_cons (pv 1) pa_nil))))
    (pss_one (ps_for PassesOwn.never rfl (pi_range1 (by rfl) T.n_range (pa_cons pe_int pa_nil)) (pg_name (i := 3) sc_law.nd rfl (Or.inl rfl)) (pss_one (ps_if (pt_not (pt_val (pe_callG D_law_right (hr.mono (by decide)) gds (pa_cons (pv 2) pa_nil)))) (pss_one (ps_ret pe_bl)) pss_nil))))))
    (pss_one (ps_ret (pe_and (pe_cmpR (op_eqD hr.units) (pe_propD (pe_cmethX (pe_gcls T.k_LiveBook.g) D_LiveBook_from_table (hr.mono (by decide)) takes0 (pa_cons (pe_lst pa_nil) pa_nil)) T.k_LiveBook.c D_LiveBook_book (hr.mono (by decide))) (pe_lst pa_nil) (nomark _)) (pe_one (pe_cmpR (op_eqD hr.units) (pe_propD (pe_cmethX (pe_gcls T.k_LiveBook.g) D_LiveBook_from_table (hr.mono (by decide)) takes0 (pa_cons (pe_lst (pa_cons pe_int (pa_cons pe_int pa_nil))) pa_nil)) T.k_LiveBook.c D_LiveBook_book (hr.mono (by decide))) (pe_lst (pa_cons pe_int (pa_cons pe_int (pa_cons pe_int pa_nil)))) (nomark _))))))), ?_⟩
    refine w_start (σ' := [some (.ref a), none, none, none]) rfl ?_
    walk_at "g"
    refine w_lenI hS ?_
    walk_at "g"
    refine f_range (fun i σ' H' => ∃ u v t : Option V, σ' = [some (.ref a), u, v, t] ∧ Fr [] H H') ⟨_, _, _, rfl, Fr.refl⟩ ?_ ?_
    · rintro i σ' H' hi ⟨u, v, t, rfl, f1⟩
      have hi2 : i < 64 := by split at hi <;> split at hi <;> omega
      walk_at "g"
      refine ⟨a, ns, _, rfl, f1.seqL (by simp) hS, hl, by omega, by omega, fun p H2 f2 np hp => ?_⟩
      walk_at "g"
      refine f_range (fun j σ' H3 => ∃ (u : Option V) (k : Int), σ' = [some (.ref a), some (.int (0 + ↑i)), some (.ref p), u] ∧ Pool H3 p k ∧ k ≤ 10000 * j ∧ Fr [] H H3) ⟨_, 0, rfl, hp, by omega, f1.trans f2⟩ ?_ ?_
      · rintro j σ' H3 hj ⟨u, k, rfl, hp3, hk, f3⟩
        have hj2 : j < 4 := by omega
        walk_at "g"
        refine ⟨p, k, rfl, hp3, by omega, fun k' H4 hk' hp4 f4 => ?_⟩
        walk_at "g"
        exact ⟨_, k', rfl, hp4, by omega, f3.loc (f1.free (by simp) np) f4⟩
      · rintro σ' H3 ⟨u, k, rfl, _, _, f3⟩
        exact ⟨_, _, _, rfl, f3⟩
    · rintro σ' H' ⟨u, v, t, rfl, f1⟩
      walk_at "g"
      rename_i p0 np0
      refine ⟨p0, [], 0, [], rfl, upd_same, by omega, by simp, by simp, (by intro v hv; simp at hv), fun ms A1 dx1 H3 pm ds L3 f3 n3 => ?_⟩
      obtain rfl : ms = [] := pm.eq_nil
      obtain ⟨pq, rq, riq, y1, y2, y3, y4, y5⟩ := L3.ex
      walk_at "g"
      refine ⟨A1, dx1, [], [], [], rfl, L3, fun b nb => ?_⟩
      walk_at "g"
      rename_i p1 np1
      rw [if_pos (by decide)]
      clear L3 f3 n3 nb np0 np1 pm ds y1 y2 y3 y4 y5
      walk_at "g"
      rename_i p2 np2
      refine ⟨p2, [1, 1, 1], 2, [], rfl, upd_same, by omega, by simp, by simp, (by intro v hv; simp at hv), fun ms A2 dx2 H4 pm ds L4 f4 n4 => ?_⟩
      obtain rfl : ms = [1, 1, 1] := pw_perm_eq pm ds (by decide)
      obtain ⟨pq, rq, riq, y1, y2, y3, y4, y5⟩ := L4.ex
      walk_at "g"
      refine ⟨A2, dx2, [], [1, 1, 1], [], rfl, L4, fun b nb => ?_⟩
      walk_at "g"
      rename_i p3 np3
      refine w_eqTw 5 (by omega) (.ints (ns := [1, 1, 1]) (by omega) (at_upd upd_same np3) upd_same) ?_
      exact q.2 _
end
/-! ### the end -/
theorem all_mk {l : PySem.W.OpenLaw} {w : World} {K : PySem.W.Frag} {h : Heap} {mg : Str → Option Value} {fa : Addr} (X : K.In h) (G : h.Ns mainGlobals mg) (hfa : mg "law" = some (.ref fa))
    {C_LiveBook : Addr}
    {C_InvalidBook : Addr}
    {C_InvalidNumber : Addr}
    {C_InvalidSize : Addr}
    {C_InvalidTable : Addr}
    {C_NothingToUndo : Addr}
    {C_BookError : Addr}
    {f1 : Addr} {od1 an1 : Option Addr} {sl1 : Array (Option Value)} {oc1 kV1 dc1 pm1 cd1 ct1 : Value}
    {f2 : Addr} {od2 an2 : Option Addr} {sl2 : Array (Option Value)} {oc2 kV2 dc2 pm2 cd2 ct2 : Value}
    {f3 : Addr} {od3 an3 : Option Addr} {sl3 : Array (Option Value)} {oc3 kV3 dc3 pm3 cd3 ct3 : Value}
    {f4 : Addr} {od4 an4 : Option Addr} {sl4 : Array (Option Value)} {oc4 kV4 dc4 pm4 cd4 ct4 : Value}
    {f5 : Addr} {od5 an5 : Option Addr} {sl5 : Array (Option Value)} {oc5 kV5 dc5 pm5 cd5 ct5 : Value}
    {f6 : Addr} {od6 an6 : Option Addr} {sl6 : Array (Option Value)} {oc6 kV6 dc6 pm6 cd6 ct6 : Value}
    {f7 : Addr} {od7 an7 : Option Addr} {sl7 : Array (Option Value)} {oc7 kV7 dc7 pm7 cd7 ct7 : Value}
    {f8 : Addr} {od8 an8 : Option Addr} {sl8 : Array (Option Value)} {oc8 kV8 dc8 pm8 cd8 ct8 : Value}
    {f9 : Addr} {od9 an9 : Option Addr} {sl9 : Array (Option Value)} {oc9 kV9 dc9 pm9 cd9 ct9 : Value}
    {f10 : Addr} {od10 an10 : Option Addr} {sl10 : Array (Option Value)} {oc10 kV10 dc10 pm10 cd10 ct10 : Value}
    {f11 : Addr} {od11 an11 : Option Addr} {sl11 : Array (Option Value)} {oc11 kV11 dc11 pm11 cd11 ct11 : Value}
    {f12 : Addr} {od12 an12 : Option Addr} {sl12 : Array (Option Value)} {oc12 kV12 dc12 pm12 cd12 ct12 : Value}
    {f13 : Addr} {od13 an13 : Option Addr} {sl13 : Array (Option Value)} {oc13 kV13 dc13 pm13 cd13 ct13 : Value}
    {f14 : Addr} {od14 an14 : Option Addr} {sl14 : Array (Option Value)} {oc14 kV14 dc14 pm14 cd14 ct14 : Value}
    {q14 : Addr} {r14 : List Value}
    {f15 : Addr} {od15 an15 : Option Addr} {sl15 : Array (Option Value)} {oc15 kV15 dc15 pm15 cd15 ct15 : Value}
    {f16 : Addr} {od16 an16 : Option Addr} {sl16 : Array (Option Value)} {oc16 kV16 dc16 pm16 cd16 ct16 : Value}
    {f17 : Addr} {od17 an17 : Option Addr} {sl17 : Array (Option Value)} {oc17 kV17 dc17 pm17 cd17 ct17 : Value}
    {f18 : Addr} {od18 an18 : Option Addr} {sl18 : Array (Option Value)} {oc18 kV18 dc18 pm18 cd18 ct18 : Value}
    {q18 : Addr} {r18 : List Value}
    {f19 : Addr} {od19 an19 : Option Addr} {sl19 : Array (Option Value)} {oc19 kV19 dc19 pm19 cd19 ct19 : Value}
    {q19 : Addr} {r19 : List Value}
    {f20 : Addr} {od20 an20 : Option Addr} {sl20 : Array (Option Value)} {oc20 kV20 dc20 pm20 cd20 ct20 : Value}
    {f21 : Addr} {od21 an21 : Option Addr} {sl21 : Array (Option Value)} {oc21 kV21 dc21 pm21 cd21 ct21 : Value}
    {f22 : Addr} {od22 an22 : Option Addr} {sl22 : Array (Option Value)} {oc22 kV22 dc22 pm22 cd22 ct22 : Value}
    {f23 : Addr} {od23 an23 : Option Addr} {sl23 : Array (Option Value)} {oc23 kV23 dc23 pm23 cd23 ct23 : Value}
    {f24 : Addr} {od24 an24 : Option Addr} {sl24 : Array (Option Value)} {oc24 kV24 dc24 pm24 cd24 ct24 : Value}
    {f25 : Addr} {od25 an25 : Option Addr} {sl25 : Array (Option Value)} {oc25 kV25 dc25 pm25 cd25 ct25 : Value}
    {f26 : Addr} {od26 an26 : Option Addr} {sl26 : Array (Option Value)} {oc26 kV26 dc26 pm26 cd26 ct26 : Value}
    {f27 : Addr} {od27 an27 : Option Addr} {sl27 : Array (Option Value)} {oc27 kV27 dc27 pm27 cd27 ct27 : Value}
    {f28 : Addr} {od28 an28 : Option Addr} {sl28 : Array (Option Value)} {oc28 kV28 dc28 pm28 cd28 ct28 : Value}
    {q28 : Addr} {r28 : List Value}
    {f29 : Addr} {od29 an29 : Option Addr} {sl29 : Array (Option Value)} {oc29 kV29 dc29 pm29 cd29 ct29 : Value}
    {f30 : Addr} {od30 an30 : Option Addr} {sl30 : Array (Option Value)} {oc30 kV30 dc30 pm30 cd30 ct30 : Value}
    {tk_MOST_SIZE : Tok}
    {nm_InvalidBook q_InvalidBook : Str} {N_InvalidBook : Addr} {bs_InvalidBook : List Value} {sn_InvalidBook : List Str} {sub_InvalidBook : List Value} {ab_InvalidBook : Bool} {col_InvalidBook : Option Bool} {dd_InvalidBook : Option Addr} {k0_InvalidBook k1_InvalidBook k2_InvalidBook k3_InvalidBook k5_InvalidBook : Option Value}
    {nm_InvalidNumber q_InvalidNumber : Str} {N_InvalidNumber : Addr} {bs_InvalidNumber : List Value} {sn_InvalidNumber : List Str} {sub_InvalidNumber : List Value} {ab_InvalidNumber : Bool} {col_InvalidNumber : Option Bool} {dd_InvalidNumber : Option Addr} {k0_InvalidNumber k1_InvalidNumber k2_InvalidNumber k3_InvalidNumber k5_InvalidNumber : Option Value}
    {nm_InvalidSize q_InvalidSize : Str} {N_InvalidSize : Addr} {bs_InvalidSize : List Value} {sn_InvalidSize : List Str} {sub_InvalidSize : List Value} {ab_InvalidSize : Bool} {col_InvalidSize : Option Bool} {dd_InvalidSize : Option Addr} {k0_InvalidSize k1_InvalidSize k2_InvalidSize k3_InvalidSize k5_InvalidSize : Option Value}
    {nm_InvalidTable q_InvalidTable : Str} {N_InvalidTable : Addr} {bs_InvalidTable : List Value} {sn_InvalidTable : List Str} {sub_InvalidTable : List Value} {ab_InvalidTable : Bool} {col_InvalidTable : Option Bool} {dd_InvalidTable : Option Addr} {k0_InvalidTable k1_InvalidTable k2_InvalidTable k3_InvalidTable k5_InvalidTable : Option Value}
    {nm_NothingToUndo q_NothingToUndo : Str} {N_NothingToUndo : Addr} {bs_NothingToUndo : List Value} {sn_NothingToUndo : List Str} {sub_NothingToUndo : List Value} {ab_NothingToUndo : Bool} {col_NothingToUndo : Option Bool} {dd_NothingToUndo : Option Addr} {k0_NothingToUndo k1_NothingToUndo k2_NothingToUndo k3_NothingToUndo k5_NothingToUndo : Option Value}
    (aC_LiveBook : PySem.W.nsIn K mainGlobals "LiveBook" = some (some (.ref C_LiveBook)))
    (aC_InvalidBook : PySem.W.nsIn K mainGlobals "InvalidBook" = some (some (.ref C_InvalidBook)))
    (aC_InvalidNumber : PySem.W.nsIn K mainGlobals "InvalidNumber" = some (some (.ref C_InvalidNumber)))
    (aC_InvalidSize : PySem.W.nsIn K mainGlobals "InvalidSize" = some (some (.ref C_InvalidSize)))
    (aC_InvalidTable : PySem.W.nsIn K mainGlobals "InvalidTable" = some (some (.ref C_InvalidTable)))
    (aC_NothingToUndo : PySem.W.nsIn K mainGlobals "NothingToUndo" = some (some (.ref C_NothingToUndo)))
    (aC_BookError : PySem.W.nsIn K mainGlobals "BookError" = some (some (.ref C_BookError)))
    (a1 : PySem.W.nsIn K mainGlobals "_law_draw" = some (some (.ref f1)))
    (l1 : K.lookup f1 = some ⟨oc1, od1, .func (PySem.W.fnOf "_law_draw" "_law_draw" (defArgs s_law_draw) (defBody s_law_draw) (defScope s_law_draw) .none kV1 dc1 pm1 an1 cd1 ct1), sl1⟩)
    (c1 : PySem.W.codeIn K cd1 "_law_draw" = true)
    (k1 : PySem.W.keepIn K (.ref f1) = true)
    (a2 : PySem.W.nsIn K mainGlobals "_law_length" = some (some (.ref f2)))
    (l2 : K.lookup f2 = some ⟨oc2, od2, .func (PySem.W.fnOf "_law_length" "_law_length" (defArgs s_law_length) (defBody s_law_length) (defScope s_law_length) .none kV2 dc2 pm2 an2 cd2 ct2), sl2⟩)
    (c2 : PySem.W.codeIn K cd2 "_law_length" = true)
    (k2 : PySem.W.keepIn K (.ref f2) = true)
    (a3 : PySem.W.nsIn K mainGlobals "_law_book" = some (some (.ref f3)))
    (l3 : K.lookup f3 = some ⟨oc3, od3, .func (PySem.W.fnOf "_law_book" "_law_book" (defArgs s_law_book) (defBody s_law_book) (defScope s_law_book) .none kV3 dc3 pm3 an3 cd3 ct3), sl3⟩)
    (c3 : PySem.W.codeIn K cd3 "_law_book" = true)
    (k3 : PySem.W.keepIn K (.ref f3) = true)
    (a4 : PySem.W.nsIn K mainGlobals "_law_pool" = some (some (.ref f4)))
    (l4 : K.lookup f4 = some ⟨oc4, od4, .func (PySem.W.fnOf "_law_pool" "_law_pool" (defArgs s_law_pool) (defBody s_law_pool) (defScope s_law_pool) .none kV4 dc4 pm4 an4 cd4 ct4), sl4⟩)
    (c4 : PySem.W.codeIn K cd4 "_law_pool" = true)
    (k4 : PySem.W.keepIn K (.ref f4) = true)
    (a5 : PySem.W.nsIn K mainGlobals "_law_pages" = some (some (.ref f5)))
    (l5 : K.lookup f5 = some ⟨oc5, od5, .func (PySem.W.fnOf "_law_pages" "_law_pages" (defArgs s_law_pages) (defBody s_law_pages) (defScope s_law_pages) .none kV5 dc5 pm5 an5 cd5 ct5), sl5⟩)
    (c5 : PySem.W.codeIn K cd5 "_law_pages" = true)
    (k5 : PySem.W.keepIn K (.ref f5) = true)
    (a6 : PySem.W.nsIn K mainGlobals "chapter_pages" = some (some (.ref f6)))
    (l6 : K.lookup f6 = some ⟨oc6, od6, .func (PySem.W.fnOf "chapter_pages" "chapter_pages" (defArgs s_chapter_pages) (defBody s_chapter_pages) (defScope s_chapter_pages) .none kV6 dc6 pm6 an6 cd6 ct6), sl6⟩)
    (c6 : PySem.W.codeIn K cd6 "chapter_pages" = true)
    (k6 : PySem.W.keepIn K (.ref f6) = true)
    (a7 : PySem.W.nsIn K mainGlobals "count_pages" = some (some (.ref f7)))
    (l7 : K.lookup f7 = some ⟨oc7, od7, .func (PySem.W.fnOf "count_pages" "count_pages" (defArgs s_count_pages) (defBody s_count_pages) (defScope s_count_pages) .none kV7 dc7 pm7 an7 cd7 ct7), sl7⟩)
    (c7 : PySem.W.codeIn K cd7 "count_pages" = true)
    (k7 : PySem.W.keepIn K (.ref f7) = true)
    (a8 : PySem.W.findIn K (.ref C_InvalidBook) "__init__" = some (some (.ref f8)))
    (i8 : PySem.W.isFn K (.ref f8) = true)
    (l8 : K.lookup f8 = some ⟨oc8, od8, .func (PySem.W.fnOf "__init__" "InvalidBook.__init__" (defArgs s_InvalidBook___init__) (defBody s_InvalidBook___init__) (defScope s_InvalidBook___init__) .none kV8 dc8 pm8 an8 cd8 ct8), sl8⟩)
    (c8 : PySem.W.codeIn K cd8 "InvalidBook.__init__" = true)
    (k8 : PySem.W.keepIn K (.ref f8) = true)
    (a9 : PySem.W.findIn K (.ref C_InvalidSize) "__init__" = some (some (.ref f9)))
    (i9 : PySem.W.isFn K (.ref f9) = true)
    (l9 : K.lookup f9 = some ⟨oc9, od9, .func (PySem.W.fnOf "__init__" "InvalidSize.__init__" (defArgs s_InvalidSize___init__) (defBody s_InvalidSize___init__) (defScope s_InvalidSize___init__) .none kV9 dc9 pm9 an9 cd9 ct9), sl9⟩)
    (c9 : PySem.W.codeIn K cd9 "InvalidSize.__init__" = true)
    (k9 : PySem.W.keepIn K (.ref f9) = true)
    (a10 : PySem.W.nsIn K mainGlobals "check_book" = some (some (.ref f10)))
    (l10 : K.lookup f10 = some ⟨oc10, od10, .func (PySem.W.fnOf "check_book" "check_book" (defArgs s_check_book) (defBody s_check_book) (defScope s_check_book) .none kV10 dc10 pm10 an10 cd10 ct10), sl10⟩)
    (c10 : PySem.W.codeIn K cd10 "check_book" = true)
    (k10 : PySem.W.keepIn K (.ref f10) = true)
    (a11 : PySem.W.nsIn K mainGlobals "check_size" = some (some (.ref f11)))
    (l11 : K.lookup f11 = some ⟨oc11, od11, .func (PySem.W.fnOf "check_size" "check_size" (defArgs s_check_size) (defBody s_check_size) (defScope s_check_size) .none kV11 dc11 pm11 an11 cd11 ct11), sl11⟩)
    (c11 : PySem.W.codeIn K cd11 "check_size" = true)
    (k11 : PySem.W.keepIn K (.ref f11) = true)
    (a12 : PySem.W.findIn K (.ref C_LiveBook) "__init__" = some (some (.ref f12)))
    (i12 : PySem.W.isFn K (.ref f12) = true)
    (l12 : K.lookup f12 = some ⟨oc12, od12, .func (PySem.W.fnOf "__init__" "LiveBook.__init__" (defArgs s_LiveBook___init__) (defBody s_LiveBook___init__) (defScope s_LiveBook___init__) .none kV12 dc12 pm12 an12 cd12 ct12), sl12⟩)
    (c12 : PySem.W.codeIn K cd12 "LiveBook.__init__" = true)
    (k12 : PySem.W.keepIn K (.ref f12) = true)
    (a13 : PySem.W.findIn K (.ref C_LiveBook) "add" = some (some (.ref f13)))
    (i13 : PySem.W.isFn K (.ref f13) = true)
    (l13 : K.lookup f13 = some ⟨oc13, od13, .func (PySem.W.fnOf "add" "LiveBook.add" (defArgs s_LiveBook_add) (defBody s_LiveBook_add) (defScope s_LiveBook_add) .none kV13 dc13 pm13 an13 cd13 ct13), sl13⟩)
    (c13 : PySem.W.codeIn K cd13 "LiveBook.add" = true)
    (k13 : PySem.W.keepIn K (.ref f13) = true)
    (a14 : PySem.W.findIn K (.ref C_LiveBook) "book" = some (some (.ref q14)))
    (g14 : PySem.W.specialIn K (.ref q14) "__get__" = some (some (.builtin "property.__get__")))
    (t14 : PySem.W.takesIn K (.ref q14) = some true)
    (r14_ : PySem.W.recIn K q14 "property" = some (.ref f14 :: r14))
    (l14 : K.lookup f14 = some ⟨oc14, od14, .func (PySem.W.fnOf "book" "LiveBook.book" (defArgs s_LiveBook_book) (defBody s_LiveBook_book) (defScope s_LiveBook_book) .none kV14 dc14 pm14 an14 cd14 ct14), sl14⟩)
    (c14 : PySem.W.codeIn K cd14 "LiveBook.book" = true)
    (k14 : PySem.W.keepIn K (.ref f14) = true)
    (a15 : PySem.W.findIn K (.ref C_InvalidNumber) "__init__" = some (some (.ref f15)))
    (i15 : PySem.W.isFn K (.ref f15) = true)
    (l15 : K.lookup f15 = some ⟨oc15, od15, .func (PySem.W.fnOf "__init__" "InvalidNumber.__init__" (defArgs s_InvalidNumber___init__) (defBody s_InvalidNumber___init__) (defScope s_InvalidNumber___init__) .none kV15 dc15 pm15 an15 cd15 ct15), sl15⟩)
    (c15 : PySem.W.codeIn K cd15 "InvalidNumber.__init__" = true)
    (k15 : PySem.W.keepIn K (.ref f15) = true)
    (a16 : PySem.W.findIn K (.ref C_NothingToUndo) "__init__" = some (some (.ref f16)))
    (i16 : PySem.W.isFn K (.ref f16) = true)
    (l16 : K.lookup f16 = some ⟨oc16, od16, .func (PySem.W.fnOf "__init__" "NothingToUndo.__init__" (defArgs s_NothingToUndo___init__) (defBody s_NothingToUndo___init__) (defScope s_NothingToUndo___init__) .none kV16 dc16 pm16 an16 cd16 ct16), sl16⟩)
    (c16 : PySem.W.codeIn K cd16 "NothingToUndo.__init__" = true)
    (k16 : PySem.W.keepIn K (.ref f16) = true)
    (a17 : PySem.W.nsIn K mainGlobals "sizes_that_differ" = some (some (.ref f17)))
    (l17 : K.lookup f17 = some ⟨oc17, od17, .func (PySem.W.fnOf "sizes_that_differ" "sizes_that_differ" (defArgs s_sizes_that_differ) (defBody s_sizes_that_differ) (defScope s_sizes_that_differ) .none kV17 dc17 pm17 an17 cd17 ct17), sl17⟩)
    (c17 : PySem.W.codeIn K cd17 "sizes_that_differ" = true)
    (k17 : PySem.W.keepIn K (.ref f17) = true)
    (a18 : PySem.W.findIn K (.ref C_LiveBook) "chapters" = some (some (.ref q18)))
    (g18 : PySem.W.specialIn K (.ref q18) "__get__" = some (some (.builtin "property.__get__")))
    (t18 : PySem.W.takesIn K (.ref q18) = some true)
    (r18_ : PySem.W.recIn K q18 "property" = some (.ref f18 :: r18))
    (l18 : K.lookup f18 = some ⟨oc18, od18, .func (PySem.W.fnOf "chapters" "LiveBook.chapters" (defArgs s_LiveBook_chapters) (defBody s_LiveBook_chapters) (defScope s_LiveBook_chapters) .none kV18 dc18 pm18 an18 cd18 ct18), sl18⟩)
    (c18 : PySem.W.codeIn K cd18 "LiveBook.chapters" = true)
    (k18 : PySem.W.keepIn K (.ref f18) = true)
    (a19 : PySem.W.findIn K (.ref C_LiveBook) "lines" = some (some (.ref q19)))
    (g19 : PySem.W.specialIn K (.ref q19) "__get__" = some (some (.builtin "property.__get__")))
    (t19 : PySem.W.takesIn K (.ref q19) = some true)
    (r19_ : PySem.W.recIn K q19 "property" = some (.ref f19 :: r19))
    (l19 : K.lookup f19 = some ⟨oc19, od19, .func (PySem.W.fnOf "lines" "LiveBook.lines" (defArgs s_LiveBook_lines) (defBody s_LiveBook_lines) (defScope s_LiveBook_lines) .none kV19 dc19 pm19 an19 cd19 ct19), sl19⟩)
    (c19 : PySem.W.codeIn K cd19 "LiveBook.lines" = true)
    (k19 : PySem.W.keepIn K (.ref f19) = true)
    (a20 : PySem.W.findIn K (.ref C_LiveBook) "titles" = some (some (.ref f20)))
    (i20 : PySem.W.isFn K (.ref f20) = true)
    (l20 : K.lookup f20 = some ⟨oc20, od20, .func (PySem.W.fnOf "titles" "LiveBook.titles" (defArgs s_LiveBook_titles) (defBody s_LiveBook_titles) (defScope s_LiveBook_titles) .none kV20 dc20 pm20 an20 cd20 ct20), sl20⟩)
    (c20 : PySem.W.codeIn K cd20 "LiveBook.titles" = true)
    (k20 : PySem.W.keepIn K (.ref f20) = true)
    (a21 : PySem.W.findIn K (.ref C_LiveBook) "join" = some (some (.ref f21)))
    (i21 : PySem.W.isFn K (.ref f21) = true)
    (l21 : K.lookup f21 = some ⟨oc21, od21, .func (PySem.W.fnOf "join" "LiveBook.join" (defArgs s_LiveBook_join) (defBody s_LiveBook_join) (defScope s_LiveBook_join) .none kV21 dc21 pm21 an21 cd21 ct21), sl21⟩)
    (c21 : PySem.W.codeIn K cd21 "LiveBook.join" = true)
    (k21 : PySem.W.keepIn K (.ref f21) = true)
    (a22 : PySem.W.findIn K (.ref C_LiveBook) "undo" = some (some (.ref f22)))
    (i22 : PySem.W.isFn K (.ref f22) = true)
    (l22 : K.lookup f22 = some ⟨oc22, od22, .func (PySem.W.fnOf "undo" "LiveBook.undo" (defArgs s_LiveBook_undo) (defBody s_LiveBook_undo) (defScope s_LiveBook_undo) .none kV22 dc22 pm22 an22 cd22 ct22), sl22⟩)
    (c22 : PySem.W.codeIn K cd22 "LiveBook.undo" = true)
    (k22 : PySem.W.keepIn K (.ref f22) = true)
    (a23 : PySem.W.nsIn K mainGlobals "longer_counts" = some (some (.ref f23)))
    (l23 : K.lookup f23 = some ⟨oc23, od23, .func (PySem.W.fnOf "longer_counts" "longer_counts" (defArgs s_longer_counts) (defBody s_longer_counts) (defScope s_longer_counts) .none kV23 dc23 pm23 an23 cd23 ct23), sl23⟩)
    (c23 : PySem.W.codeIn K cd23 "longer_counts" = true)
    (k23 : PySem.W.keepIn K (.ref f23) = true)
    (a24 : PySem.W.nsIn K mainGlobals "times_of" = some (some (.ref f24)))
    (l24 : K.lookup f24 = some ⟨oc24, od24, .func (PySem.W.fnOf "times_of" "times_of" (defArgs s_times_of) (defBody s_times_of) (defScope s_times_of) .none kV24 dc24 pm24 an24 cd24 ct24), sl24⟩)
    (c24 : PySem.W.codeIn K cd24 "times_of" = true)
    (k24 : PySem.W.keepIn K (.ref f24) = true)
    (a25 : PySem.W.nsIn K mainGlobals "lengths_of" = some (some (.ref f25)))
    (l25 : K.lookup f25 = some ⟨oc25, od25, .func (PySem.W.fnOf "lengths_of" "lengths_of" (defArgs s_lengths_of) (defBody s_lengths_of) (defScope s_lengths_of) .none kV25 dc25 pm25 an25 cd25 ct25), sl25⟩)
    (c25 : PySem.W.codeIn K cd25 "lengths_of" = true)
    (k25 : PySem.W.keepIn K (.ref f25) = true)
    (a26 : PySem.W.nsIn K mainGlobals "_law_told_right" = some (some (.ref f26)))
    (l26 : K.lookup f26 = some ⟨oc26, od26, .func (PySem.W.fnOf "_law_told_right" "_law_told_right" (defArgs s_law_told_right) (defBody s_law_told_right) (defScope s_law_told_right) .none kV26 dc26 pm26 an26 cd26 ct26), sl26⟩)
    (c26 : PySem.W.codeIn K cd26 "_law_told_right" = true)
    (k26 : PySem.W.keepIn K (.ref f26) = true)
    (a27 : PySem.W.findIn K (.ref C_LiveBook) "split" = some (some (.ref f27)))
    (i27 : PySem.W.isFn K (.ref f27) = true)
    (l27 : K.lookup f27 = some ⟨oc27, od27, .func (PySem.W.fnOf "split" "LiveBook.split" (defArgs s_LiveBook_split) (defBody s_LiveBook_split) (defScope s_LiveBook_split) .none kV27 dc27 pm27 an27 cd27 ct27), sl27⟩)
    (c27 : PySem.W.codeIn K cd27 "LiveBook.split" = true)
    (k27 : PySem.W.keepIn K (.ref f27) = true)
    (rd28 : PySem.W.readsIn K C_LiveBook (.type "type") = true)
    (ga28 : PySem.W.specialIn K (.ref C_LiveBook) "__getattribute__" = some (some (.builtin "type.__getattribute__")))
    (a28 : PySem.W.findCls K (.ref C_LiveBook) (.type "type") "from_table" = some (.get (.builtin "classmethod.__get__") (.ref q28) .none (.ref C_LiveBook)))
    (r28_ : PySem.W.recIn K q28 "classmethod" = some (.ref f28 :: r28))
    (i28 : PySem.W.fnIn K f28 = true)
    (l28 : K.lookup f28 = some ⟨oc28, od28, .func (PySem.W.fnOf "from_table" "LiveBook.from_table" (defArgs s_LiveBook_from_table) (defBody s_LiveBook_from_table) (defScope s_LiveBook_from_table) .none kV28 dc28 pm28 an28 cd28 ct28), sl28⟩)
    (c28 : PySem.W.codeIn K cd28 "LiveBook.from_table" = true)
    (k28 : PySem.W.keepIn K (.ref f28) = true)
    (a29 : PySem.W.nsIn K mainGlobals "_law_right" = some (some (.ref f29)))
    (l29 : K.lookup f29 = some ⟨oc29, od29, .func (PySem.W.fnOf "_law_right" "_law_right" (defArgs s_law_right) (defBody s_law_right) (defScope s_law_right) .none kV29 dc29 pm29 an29 cd29 ct29), sl29⟩)
    (c29 : PySem.W.codeIn K cd29 "_law_right" = true)
    (k29 : PySem.W.keepIn K (.ref f29) = true)
    (a30 : PySem.W.nsIn K mainGlobals "law" = some (some (.ref f30)))
    (l30 : K.lookup f30 = some ⟨oc30, od30, .func (PySem.W.fnOf "law" "law" (defArgs s_law) (defBody s_law) (defScope s_law) .none kV30 dc30 pm30 an30 cd30 ct30), sl30⟩)
    (c30 : PySem.W.codeIn K cd30 "law" = true)
    (k30 : PySem.W.keepIn K (.ref f30) = true)
    (z_abs : PySem.W.nsIn K mainGlobals "abs" = some none)
    (z_enumerate : PySem.W.nsIn K mainGlobals "enumerate" = some none)
    (z_len : PySem.W.nsIn K mainGlobals "len" = some none)
    (z_list : PySem.W.nsIn K mainGlobals "list" = some none)
    (z_max : PySem.W.nsIn K mainGlobals "max" = some none)
    (z_min : PySem.W.nsIn K mainGlobals "min" = some none)
    (z_range : PySem.W.nsIn K mainGlobals "range" = some none)
    (z_repr : PySem.W.nsIn K mainGlobals "repr" = some none)
    (z_sorted : PySem.W.nsIn K mainGlobals "sorted" = some none)
    (z_sum : PySem.W.nsIn K mainGlobals "sum" = some none)
    (z_zip : PySem.W.nsIn K mainGlobals "zip" = some none)
    (v_MOST_SIZE : PySem.W.nsIn K mainGlobals "MOST_SIZE" = some (some (.int 100 tk_MOST_SIZE)))
    (pg_LiveBook : PySem.W.plainGet K C_LiveBook Str.empty = true)
    (hd_LiveBook : PySem.W.hasDictIn K C_LiveBook = true)
    (po_LiveBook : PySem.W.plainOver K C_LiveBook = true)
    (sa_LiveBook : PySem.W.findIn K (.ref C_LiveBook) "__setattr__" = some (some (.builtin "object.__setattr__")))
    (mk_LiveBook : PySem.W.makesIn K C_LiveBook = true)
    (kc_LiveBook : PySem.W.keepIn K (.ref C_LiveBook) = true)
    (na_LiveBook_past : PySem.W.findIn K (.ref C_LiveBook) "past" = some none)
    (rd_B : PySem.W.readsIn K C_BookError (.type "type") = true)
    (ga_B : PySem.W.specialIn K (.ref C_BookError) "__getattribute__" = some (some (.builtin "type.__getattribute__")))
    (fi_B : PySem.W.findCls K (.ref C_BookError) (.type "type") "__init__" = some (.val (.builtin "ValueError.__init__")))
    (hd_B : PySem.W.hasDictIn K C_BookError = true)
    (ty_B : PySem.W.typeIn K (.ref C_BookError) = some (.type "type"))
    (xe_B : PySem.W.subIn K (.ref C_BookError) (.type "BaseException") = some true)
    (cn_B : PySem.W.specialIn K (.builtin "object.__class__") "__get__" = some (some (.builtin "getset_descriptor.__get__")))
    (ct_B : PySem.W.takesIn K (.builtin "object.__class__") = some true)
    (xl_InvalidBook : K.lookup C_InvalidBook = some (excClassObj nm_InvalidBook q_InvalidBook C_InvalidBook N_InvalidBook bs_InvalidBook [.ref C_BookError, .type "ValueError", .type "Exception", .type "BaseException", .type "object"] true sn_InvalidBook sub_InvalidBook ab_InvalidBook col_InvalidBook dd_InvalidBook k0_InvalidBook k1_InvalidBook k2_InvalidBook k3_InvalidBook k5_InvalidBook "ValueError.__new__"))
    (xkp_InvalidBook : PySem.W.keepIn K (.ref C_InvalidBook) = true)
    (xsa_InvalidBook : PySem.W.findIn K (.ref C_InvalidBook) "__setattr__" = some (some (.builtin "object.__setattr__")))
    (xex_InvalidBook : PySem.W.subIn K (.ref C_InvalidBook) (.type "BaseException") = some true)
    (xty_InvalidBook : PySem.W.typeIn K (.ref C_InvalidBook) = some (.type "type"))
    (xga_InvalidBook : PySem.W.findIn K (.ref C_InvalidBook) "__getattribute__" = some (some (.builtin "BaseException.__getattribute__")))
    (xgg_InvalidBook : PySem.W.findIn K (.ref C_InvalidBook) "__getattr__" = some none)
    (xhd_InvalidBook : PySem.W.hasDictIn K C_InvalidBook = true)
    (xcl_InvalidBook : PySem.W.findIn K (.ref C_InvalidBook) "__class__" = some (some (.builtin "object.__class__")))
    (xcm_InvalidBook : PySem.W.mroIn K C_InvalidBook (.type "object") = some true)
    (xno_InvalidBook : PySem.W.findIn K (.ref C_InvalidBook) "value" = some none)
    (xl_InvalidNumber : K.lookup C_InvalidNumber = some (excClassObj nm_InvalidNumber q_InvalidNumber C_InvalidNumber N_InvalidNumber bs_InvalidNumber [.ref C_BookError, .type "ValueError", .type "Exception", .type "BaseException", .type "object"] true sn_InvalidNumber sub_InvalidNumber ab_InvalidNumber col_InvalidNumber dd_InvalidNumber k0_InvalidNumber k1_InvalidNumber k2_InvalidNumber k3_InvalidNumber k5_InvalidNumber "ValueError.__new__"))
    (xkp_InvalidNumber : PySem.W.keepIn K (.ref C_InvalidNumber) = true)
    (xsa_InvalidNumber : PySem.W.findIn K (.ref C_InvalidNumber) "__setattr__" = some (some (.builtin "object.__setattr__")))
    (xex_InvalidNumber : PySem.W.subIn K (.ref C_InvalidNumber) (.type "BaseException") = some true)
    (xty_InvalidNumber : PySem.W.typeIn K (.ref C_InvalidNumber) = some (.type "type"))
    (xga_InvalidNumber : PySem.W.findIn K (.ref C_InvalidNumber) "__getattribute__" = some (some (.builtin "BaseException.__getattribute__")))
    (xgg_InvalidNumber : PySem.W.findIn K (.ref C_InvalidNumber) "__getattr__" = some none)
    (xhd_InvalidNumber : PySem.W.hasDictIn K C_InvalidNumber = true)
    (xcl_InvalidNumber : PySem.W.findIn K (.ref C_InvalidNumber) "__class__" = some (some (.builtin "object.__class__")))
    (xcm_InvalidNumber : PySem.W.mroIn K C_InvalidNumber (.type "object") = some true)
    (xno_InvalidNumber : PySem.W.findIn K (.ref C_InvalidNumber) "value" = some none)
    (xl_InvalidSize : K.lookup C_InvalidSize = some (excClassObj nm_InvalidSize q_InvalidSize C_InvalidSize N_InvalidSize bs_InvalidSize [.ref C_BookError, .type "ValueError", .type "Exception", .type "BaseException", .type "object"] true sn_InvalidSize sub_InvalidSize ab_InvalidSize col_InvalidSize dd_InvalidSize k0_InvalidSize k1_InvalidSize k2_InvalidSize k3_InvalidSize k5_InvalidSize "ValueError.__new__"))
    (xkp_InvalidSize : PySem.W.keepIn K (.ref C_InvalidSize) = true)
    (xsa_InvalidSize : PySem.W.findIn K (.ref C_InvalidSize) "__setattr__" = some (some (.builtin "object.__setattr__")))
    (xex_InvalidSize : PySem.W.subIn K (.ref C_InvalidSize) (.type "BaseException") = some true)
    (xty_InvalidSize : PySem.W.typeIn K (.ref C_InvalidSize) = some (.type "type"))
    (xga_InvalidSize : PySem.W.findIn K (.ref C_InvalidSize) "__getattribute__" = some (some (.builtin "BaseException.__getattribute__")))
    (xgg_InvalidSize : PySem.W.findIn K (.ref C_InvalidSize) "__getattr__" = some none)
    (xhd_InvalidSize : PySem.W.hasDictIn K C_InvalidSize = true)
    (xcl_InvalidSize : PySem.W.findIn K (.ref C_InvalidSize) "__class__" = some (some (.builtin "object.__class__")))
    (xcm_InvalidSize : PySem.W.mroIn K C_InvalidSize (.type "object") = some true)
    (xno_InvalidSize : PySem.W.findIn K (.ref C_InvalidSize) "value" = some none)
    (xl_InvalidTable : K.lookup C_InvalidTable = some (excClassObj nm_InvalidTable q_InvalidTable C_InvalidTable N_InvalidTable bs_InvalidTable [.ref C_BookError, .type "ValueError", .type "Exception", .type "BaseException", .type "object"] true sn_InvalidTable sub_InvalidTable ab_InvalidTable col_InvalidTable dd_InvalidTable k0_InvalidTable k1_InvalidTable k2_InvalidTable k3_InvalidTable k5_InvalidTable "ValueError.__new__"))
    (xkp_InvalidTable : PySem.W.keepIn K (.ref C_InvalidTable) = true)
    (xsa_InvalidTable : PySem.W.findIn K (.ref C_InvalidTable) "__setattr__" = some (some (.builtin "object.__setattr__")))
    (xex_InvalidTable : PySem.W.subIn K (.ref C_InvalidTable) (.type "BaseException") = some true)
    (xty_InvalidTable : PySem.W.typeIn K (.ref C_InvalidTable) = some (.type "type"))
    (xga_InvalidTable : PySem.W.findIn K (.ref C_InvalidTable) "__getattribute__" = some (some (.builtin "BaseException.__getattribute__")))
    (xgg_InvalidTable : PySem.W.findIn K (.ref C_InvalidTable) "__getattr__" = some none)
    (xhd_InvalidTable : PySem.W.hasDictIn K C_InvalidTable = true)
    (xcl_InvalidTable : PySem.W.findIn K (.ref C_InvalidTable) "__class__" = some (some (.builtin "object.__class__")))
    (xcm_InvalidTable : PySem.W.mroIn K C_InvalidTable (.type "object") = some true)
    (xno_InvalidTable : PySem.W.findIn K (.ref C_InvalidTable) "value" = some none)
    (xl_NothingToUndo : K.lookup C_NothingToUndo = some (excClassObj nm_NothingToUndo q_NothingToUndo C_NothingToUndo N_NothingToUndo bs_NothingToUndo [.ref C_BookError, .type "ValueError", .type "Exception", .type "BaseException", .type "object"] true sn_NothingToUndo sub_NothingToUndo ab_NothingToUndo col_NothingToUndo dd_NothingToUndo k0_NothingToUndo k1_NothingToUndo k2_NothingToUndo k3_NothingToUndo k5_NothingToUndo "ValueError.__new__"))
    (xkp_NothingToUndo : PySem.W.keepIn K (.ref C_NothingToUndo) = true)
    (xsa_NothingToUndo : PySem.W.findIn K (.ref C_NothingToUndo) "__setattr__" = some (some (.builtin "object.__setattr__")))
    (xex_NothingToUndo : PySem.W.subIn K (.ref C_NothingToUndo) (.type "BaseException") = some true)
    (xty_NothingToUndo : PySem.W.typeIn K (.ref C_NothingToUndo) = some (.type "type"))
    (xga_NothingToUndo : PySem.W.findIn K (.ref C_NothingToUndo) "__getattribute__" = some (some (.builtin "BaseException.__getattribute__")))
    (xgg_NothingToUndo : PySem.W.findIn K (.ref C_NothingToUndo) "__getattr__" = some none)
    (xhd_NothingToUndo : PySem.W.hasDictIn K C_NothingToUndo = true)
    (xcl_NothingToUndo : PySem.W.findIn K (.ref C_NothingToUndo) "__class__" = some (some (.builtin "object.__class__")))
    (xcm_NothingToUndo : PySem.W.mroIn K C_NothingToUndo (.type "object") = some true)
    (xno_NothingToUndo : PySem.W.findIn K (.ref C_NothingToUndo) "value" = some none)
    (sb_InvalidBook_InvalidBook : PySem.W.subIn K (.ref C_InvalidBook) (.ref C_InvalidBook) = some true)
    (sb_InvalidBook_InvalidNumber : PySem.W.subIn K (.ref C_InvalidBook) (.ref C_InvalidNumber) = some false)
    (sb_InvalidBook_InvalidSize : PySem.W.subIn K (.ref C_InvalidBook) (.ref C_InvalidSize) = some false)
    (sb_InvalidBook_InvalidTable : PySem.W.subIn K (.ref C_InvalidBook) (.ref C_InvalidTable) = some false)
    (sb_InvalidBook_NothingToUndo : PySem.W.subIn K (.ref C_InvalidBook) (.ref C_NothingToUndo) = some false)
    (sb_InvalidBook_BookError : PySem.W.subIn K (.ref C_InvalidBook) (.ref C_BookError) = some true)
    (sb_InvalidBook_ValueError : PySem.W.subIn K (.ref C_InvalidBook) (.type "ValueError") = some true)
    (sb_InvalidNumber_InvalidBook : PySem.W.subIn K (.ref C_InvalidNumber) (.ref C_InvalidBook) = some false)
    (sb_InvalidNumber_InvalidNumber : PySem.W.subIn K (.ref C_InvalidNumber) (.ref C_InvalidNumber) = some true)
    (sb_InvalidNumber_InvalidSize : PySem.W.subIn K (.ref C_InvalidNumber) (.ref C_InvalidSize) = some false)
    (sb_InvalidNumber_InvalidTable : PySem.W.subIn K (.ref C_InvalidNumber) (.ref C_InvalidTable) = some false)
    (sb_InvalidNumber_NothingToUndo : PySem.W.subIn K (.ref C_InvalidNumber) (.ref C_NothingToUndo) = some false)
    (sb_InvalidNumber_BookError : PySem.W.subIn K (.ref C_InvalidNumber) (.ref C_BookError) = some true)
    (sb_InvalidNumber_ValueError : PySem.W.subIn K (.ref C_InvalidNumber) (.type "ValueError") = some true)
    (sb_InvalidSize_InvalidBook : PySem.W.subIn K (.ref C_InvalidSize) (.ref C_InvalidBook) = some false)
    (sb_InvalidSize_InvalidNumber : PySem.W.subIn K (.ref C_InvalidSize) (.ref C_InvalidNumber) = some false)
    (sb_InvalidSize_InvalidSize : PySem.W.subIn K (.ref C_InvalidSize) (.ref C_InvalidSize) = some true)
    (sb_InvalidSize_InvalidTable : PySem.W.subIn K (.ref C_InvalidSize) (.ref C_InvalidTable) = some false)
    (sb_InvalidSize_NothingToUndo : PySem.W.subIn K (.ref C_InvalidSize) (.ref C_NothingToUndo) = some false)
    (sb_InvalidSize_BookError : PySem.W.subIn K (.ref C_InvalidSize) (.ref C_BookError) = some true)
    (sb_InvalidSize_ValueError : PySem.W.subIn K (.ref C_InvalidSize) (.type "ValueError") = some true)
    (sb_NothingToUndo_InvalidBook : PySem.W.subIn K (.ref C_NothingToUndo) (.ref C_InvalidBook) = some false)
    (sb_NothingToUndo_InvalidNumber : PySem.W.subIn K (.ref C_NothingToUndo) (.ref C_InvalidNumber) = some false)
    (sb_NothingToUndo_InvalidSize : PySem.W.subIn K (.ref C_NothingToUndo) (.ref C_InvalidSize) = some false)
    (sb_NothingToUndo_InvalidTable : PySem.W.subIn K (.ref C_NothingToUndo) (.ref C_InvalidTable) = some false)
    (sb_NothingToUndo_NothingToUndo : PySem.W.subIn K (.ref C_NothingToUndo) (.ref C_NothingToUndo) = some true)
    (sb_NothingToUndo_BookError : PySem.W.subIn K (.ref C_NothingToUndo) (.ref C_BookError) = some true)
    (sb_NothingToUndo_ValueError : PySem.W.subIn K (.ref C_NothingToUndo) (.type "ValueError") = some true) :
    ∃ fd : FuncData, (∀ (s : Shared) (v : Value), BindsTo s fd ⟨[v], []⟩ [("script", v)]) ∧ ∀ base : Heap, K.In base → base.Ns mainGlobals mg → FnG l.prog w K mg base 10 fa fd ["script"] (spLaw K) := by
  have T : Txt K mg ⟨C_LiveBook, C_InvalidBook, C_InvalidNumber, C_InvalidSize, C_InvalidTable, C_NothingToUndo, C_BookError, ()⟩ := ⟨trivial,
    PySem.W.mg_none_of X G z_abs,
    PySem.W.mg_none_of X G z_enumerate,
    PySem.W.mg_none_of X G z_len,
    PySem.W.mg_none_of X G z_list,
    PySem.W.mg_none_of X G z_max,
    PySem.W.mg_none_of X G z_min,
    PySem.W.mg_none_of X G z_range,
    PySem.W.mg_none_of X G z_repr,
    PySem.W.mg_none_of X G z_sorted,
    PySem.W.mg_none_of X G z_sum,
    PySem.W.mg_none_of X G z_zip,
    ⟨tk_MOST_SIZE, PySem.W.mg_of X G v_MOST_SIZE⟩,
    ⟨PySem.W.mg_of X G aC_LiveBook, ⟨pg_LiveBook, hd_LiveBook, po_LiveBook, sa_LiveBook⟩, mk_LiveBook, kc_LiveBook⟩,
    na_LiveBook_past,
    ⟨PySem.W.mg_of X G aC_BookError, rd_B, ga_B, fi_B⟩,
    hd_B,
    ty_B,
    xe_B,
    ⟨PySem.W.mg_of X G aC_InvalidBook, xkp_InvalidBook, ⟨⟨_, _, _, _, _, _, _, _, _, _, _, _, _, _, _, xl_InvalidBook, by rfl⟩, xsa_InvalidBook, xex_InvalidBook, xty_InvalidBook, xkp_InvalidBook⟩, xga_InvalidBook, xgg_InvalidBook, xhd_InvalidBook, xcl_InvalidBook, cn_B, ct_B, xcm_InvalidBook, xno_InvalidBook⟩,
    ⟨PySem.W.mg_of X G aC_InvalidNumber, xkp_InvalidNumber, ⟨⟨_, _, _, _, _, _, _, _, _, _, _, _, _, _, _, xl_InvalidNumber, by rfl⟩, xsa_InvalidNumber, xex_InvalidNumber, xty_InvalidNumber, xkp_InvalidNumber⟩, xga_InvalidNumber, xgg_InvalidNumber, xhd_InvalidNumber, xcl_InvalidNumber, cn_B, ct_B, xcm_InvalidNumber, xno_InvalidNumber⟩,
    ⟨PySem.W.mg_of X G aC_InvalidSize, xkp_InvalidSize, ⟨⟨_, _, _, _, _, _, _, _, _, _, _, _, _, _, _, xl_InvalidSize, by rfl⟩, xsa_InvalidSize, xex_InvalidSize, xty_InvalidSize, xkp_InvalidSize⟩, xga_InvalidSize, xgg_InvalidSize, xhd_InvalidSize, xcl_InvalidSize, cn_B, ct_B, xcm_InvalidSize, xno_InvalidSize⟩,
    ⟨PySem.W.mg_of X G aC_InvalidTable, xkp_InvalidTable, ⟨⟨_, _, _, _, _, _, _, _, _, _, _, _, _, _, _, xl_InvalidTable, by rfl⟩, xsa_InvalidTable, xex_InvalidTable, xty_InvalidTable, xkp_InvalidTable⟩, xga_InvalidTable, xgg_InvalidTable, xhd_InvalidTable, xcl_InvalidTable, cn_B, ct_B, xcm_InvalidTable, xno_InvalidTable⟩,
    ⟨PySem.W.mg_of X G aC_NothingToUndo, xkp_NothingToUndo, ⟨⟨_, _, _, _, _, _, _, _, _, _, _, _, _, _, _, xl_NothingToUndo, by rfl⟩, xsa_NothingToUndo, xex_NothingToUndo, xty_NothingToUndo, xkp_NothingToUndo⟩, xga_NothingToUndo, xgg_NothingToUndo, xhd_NothingToUndo, xcl_NothingToUndo, cn_B, ct_B, xcm_NothingToUndo, xno_NothingToUndo⟩,
    sb_InvalidBook_InvalidBook,
    sb_InvalidBook_InvalidNumber,
    sb_InvalidBook_InvalidSize,
    sb_InvalidBook_InvalidTable,
    sb_InvalidBook_NothingToUndo,
    sb_InvalidBook_BookError,
    sb_InvalidBook_ValueError,
    sb_InvalidNumber_InvalidBook,
    sb_InvalidNumber_InvalidNumber,
    sb_InvalidNumber_InvalidSize,
    sb_InvalidNumber_InvalidTable,
    sb_InvalidNumber_NothingToUndo,
    sb_InvalidNumber_BookError,
    sb_InvalidNumber_ValueError,
    sb_InvalidSize_InvalidBook,
    sb_InvalidSize_InvalidNumber,
    sb_InvalidSize_InvalidSize,
    sb_InvalidSize_InvalidTable,
    sb_InvalidSize_NothingToUndo,
    sb_InvalidSize_BookError,
    sb_InvalidSize_ValueError,
    sb_NothingToUndo_InvalidBook,
    sb_NothingToUndo_InvalidNumber,
    sb_NothingToUndo_InvalidSize,
    sb_NothingToUndo_InvalidTable,
    sb_NothingToUndo_NothingToUndo,
    sb_NothingToUndo_BookError,
    sb_NothingToUndo_ValueError,
    ⟨⟨_, _, PySem.W.mg_of X G a1, fun_mk (st := s_law_draw) l1 c1 k1⟩⟩,
    ⟨⟨_, _, PySem.W.mg_of X G a2, fun_mk (st := s_law_length) l2 c2 k2⟩⟩,
    ⟨⟨_, _, PySem.W.mg_of X G a3, fun_mk (st := s_law_book) l3 c3 k3⟩⟩,
    ⟨⟨_, _, PySem.W.mg_of X G a4, fun_mk (st := s_law_pool) l4 c4 k4⟩⟩,
    ⟨⟨_, _, PySem.W.mg_of X G a5, fun_mk (st := s_law_pages) l5 c5 k5⟩⟩,
    ⟨⟨_, _, PySem.W.mg_of X G a6, fun_mk (st := s_chapter_pages) l6 c6 k6⟩⟩,
    ⟨⟨_, _, PySem.W.mg_of X G a7, fun_mk (st := s_count_pages) l7 c7 k7⟩⟩,
    ⟨⟨_, _, ⟨a8, i8, k8⟩, fun_mk (st := s_InvalidBook___init__) l8 c8 k8⟩⟩,
    ⟨⟨_, _, ⟨a9, i9, k9⟩, fun_mk (st := s_InvalidSize___init__) l9 c9 k9⟩⟩,
    ⟨⟨_, _, PySem.W.mg_of X G a10, fun_mk (st := s_check_book) l10 c10 k10⟩⟩,
    ⟨⟨_, _, PySem.W.mg_of X G a11, fun_mk (st := s_check_size) l11 c11 k11⟩⟩,
    ⟨⟨_, _, ⟨a12, i12, k12⟩, fun_mk (st := s_LiveBook___init__) l12 c12 k12⟩⟩,
    ⟨⟨_, _, ⟨a13, i13, k13⟩, fun_mk (st := s_LiveBook_add) l13 c13 k13⟩⟩,
    ⟨⟨_, _, _, ⟨a14, g14, t14, ⟨_, r14_⟩⟩, fun_mk (st := s_LiveBook_book) l14 c14 k14⟩⟩,
    ⟨⟨_, _, ⟨a15, i15, k15⟩, fun_mk (st := s_InvalidNumber___init__) l15 c15 k15⟩⟩,
    ⟨⟨_, _, ⟨a16, i16, k16⟩, fun_mk (st := s_NothingToUndo___init__) l16 c16 k16⟩⟩,
    ⟨⟨_, _, PySem.W.mg_of X G a17, fun_mk (st := s_sizes_that_differ) l17 c17 k17⟩⟩,
    ⟨⟨_, _, _, ⟨a18, g18, t18, ⟨_, r18_⟩⟩, fun_mk (st := s_LiveBook_chapters) l18 c18 k18⟩⟩,
    ⟨⟨_, _, _, ⟨a19, g19, t19, ⟨_, r19_⟩⟩, fun_mk (st := s_LiveBook_lines) l19 c19 k19⟩⟩,
    ⟨⟨_, _, ⟨a20, i20, k20⟩, fun_mk (st := s_LiveBook_titles) l20 c20 k20⟩⟩,
    ⟨⟨_, _, ⟨a21, i21, k21⟩, fun_mk (st := s_LiveBook_join) l21 c21 k21⟩⟩,
    ⟨⟨_, _, ⟨a22, i22, k22⟩, fun_mk (st := s_LiveBook_undo) l22 c22 k22⟩⟩,
    ⟨⟨_, _, PySem.W.mg_of X G a23, fun_mk (st := s_longer_counts) l23 c23 k23⟩⟩,
    ⟨⟨_, _, PySem.W.mg_of X G a24, fun_mk (st := s_times_of) l24 c24 k24⟩⟩,
    ⟨⟨_, _, PySem.W.mg_of X G a25, fun_mk (st := s_lengths_of) l25 c25 k25⟩⟩,
    ⟨⟨_, _, PySem.W.mg_of X G a26, fun_mk (st := s_law_told_right) l26 c26 k26⟩⟩,
    ⟨⟨_, _, ⟨a27, i27, k27⟩, fun_mk (st := s_LiveBook_split) l27 c27 k27⟩⟩,
    ⟨⟨_, _, _, _, ⟨rd28, ga28⟩, ⟨a28, ⟨_, r28_⟩, i28⟩, fun_mk (st := s_LiveBook_from_table) l28 c28 k28⟩⟩,
    ⟨⟨_, _, PySem.W.mg_of X G a29, fun_mk (st := s_law_right) l29 c29 k29⟩⟩,
    ⟨⟨_, _, PySem.W.mg_of X G a30, fun_mk (st := s_law) l30 c30 k30⟩⟩⟩
  have e := hfa.symm.trans (PySem.W.mg_of X G a30)
  cases e
  refine ⟨PySem.W.fnOf "law" "law" (defArgs s_law) (defBody s_law) (defScope s_law) .none kV30 dc30 pm30 an30 cd30 ct30, fun s v => .of_eq rfl, fun base _ _ => ?_⟩
  obtain ⟨f, fd, hm, F, O, B⟩ := (ok_law (P := l.prog) (w := w) (base := base) T).ex
  have e2 := hm.symm.trans (PySem.W.mg_of X G a30)
  cases e2
  obtain ⟨oc, od, kV, doc, pm, an, cdv, ct, osl, rfl, lk, hcd⟩ := F.ex
  have e3 := lk.symm.trans l30
  cases e3
  exact O
theorem walk {l : PySem.W.OpenLaw} {q : Program} {loose : List Str} {XP : (Str → Option Value) → Heap → Prop} {YP : World → Heap → Prop} {d : DefRec} {K : Params → PySem.W.Frag} (hn : l.most = some 63) (hdf : d.params.defaults = [])
    (hY : ∀ (w : World) (h : Heap), YP w h → (K w.params).In h)
    (F : ∀ (w : World) (mg : Str → Option Value) (fa : Addr) (h : Heap), (K w.params).In h → h.Ns mainGlobals mg → mg d.name = some (.ref fa) →
      ∃ fd : FuncData, (∀ (s : Shared) (u : Value), BindsTo s fd ⟨[u], []⟩ [("script", u)]) ∧ ∀ base : Heap, (K w.params).In base → base.Ns mainGlobals mg → FnG l.prog w (K w.params) mg base 10 fa fd ["script"] (spLaw (K w.params))) :
    PySem.W.WalkO q loose XP YP l.row.toRowW d [] (fun f vs => PySem.call f vs) :=
  walk_G (n := 63) (k := 10) (x := "script") (sp := fun w => spLaw (K w.params)) hn (by decide) hdf ⟨rfl, by decide, by decide⟩ hY F (fun _ _ a ns hl hz hS => ⟨a, ns, rfl, hS, hl, hz, fun _ => rfl⟩)
end K26
open PySem PySem.W PyProof.Rows
set_option maxRecDepth 100000 in
set_option maxHeartbeats 0 in
theorem PySem.Challenge.cw_pagecounts_k26_live_books_copy_holds : PySem.Challenge.rw_pagecounts_k26_live_books_copy.Holds := by
  w_on; o_law; k_head; (case hw => w_witness2)
  k_fill
  refine K26.walk (l := PySem.Challenge.rw_pagecounts_k26_live_books_copy) rfl rfl (fun w h Y => PySem.W.kIn_of Y) ?F
  case F =>
    intro w mg fa h KX G hmg
    refine' K26.all_mk KX G hmg ?aC_LiveBook ?aC_InvalidBook ?aC_InvalidNumber ?aC_InvalidSize ?aC_InvalidTable ?aC_NothingToUndo ?aC_BookError ?a1 ?l1 ?c1 ?k1 ?a2 ?l2 ?c2 ?k2 ?a3 ?l3 ?c3 ?k3 ?a4 ?l4 ?c4 ?k4 ?a5 ?l5 ?c5 ?k5 ?a6 ?l6 ?c6 ?k6 ?a7 ?l7 ?c7 ?k7 ?a8 ?i8 ?l8 ?c8 ?k8 ?a9 ?i9 ?l9 ?c9 ?k9 ?a10 ?l10 ?c10 ?k10 ?a11 ?l11 ?c11 ?k11 ?a12 ?i12 ?l12 ?c12 ?k12 ?a13 ?i13 ?l13 ?c13 ?k13 ?a14 ?g14 ?t14 ?r14_ ?l14 ?c14 ?k14 ?a15 ?i15 ?l15 ?c15 ?k15 ?a16 ?i16 ?l16 ?c16 ?k16 ?a17 ?l17 ?c17 ?k17 ?a18 ?g18 ?t18 ?r18_ ?l18 ?c18 ?k18 ?a19 ?g19 ?t19 ?r19_ ?l19 ?c19 ?k19 ?a20 ?i20 ?l20 ?c20 ?k20 ?a21 ?i21 ?l21 ?c21 ?k21 ?a22 ?i22 ?l22 ?c22 ?k22 ?a23 ?l23 ?c23 ?k23 ?a24 ?l24 ?c24 ?k24 ?a25 ?l25 ?c25 ?k25 ?a26 ?l26 ?c26 ?k26 ?a27 ?i27 ?l27 ?c27 ?k27 ?rd28 ?ga28 ?a28 ?r28_ ?i28 ?l28 ?c28 ?k28 ?a29 ?l29 ?c29 ?k29 ?a30 ?l30 ?c30 ?k30 ?z_abs ?z_enumerate ?z_len ?z_list ?z_max ?z_min ?z_range ?z_repr ?z_sorted ?z_sum ?z_zip ?v_MOST_SIZE ?pg_LiveBook ?hd_LiveBook ?po_LiveBook ?sa_LiveBook ?mk_LiveBook ?kc_LiveBook ?na_LiveBook_past ?rd_B ?ga_B ?fi_B ?hd_B ?ty_B ?xe_B ?cn_B ?ct_B ?xl_InvalidBook ?xkp_InvalidBook ?xsa_InvalidBook ?xex_InvalidBook ?xty_InvalidBook ?xga_InvalidBook ?xgg_InvalidBook ?xhd_InvalidBook ?xcl_InvalidBook ?xcm_InvalidBook ?xno_InvalidBook ?xl_InvalidNumber ?xkp_InvalidNumber ?xsa_InvalidNumber ?xex_InvalidNumber ?xty_InvalidNumber ?xga_InvalidNumber ?xgg_InvalidNumber ?xhd_InvalidNumber ?xcl_InvalidNumber ?xcm_InvalidNumber ?xno_InvalidNumber ?xl_InvalidSize ?xkp_InvalidSize ?xsa_InvalidSize ?xex_InvalidSize ?xty_InvalidSize ?xga_InvalidSize ?xgg_InvalidSize ?xhd_InvalidSize ?xcl_InvalidSize ?xcm_InvalidSize ?xno_InvalidSize ?xl_InvalidTable ?xkp_InvalidTable ?xsa_InvalidTable ?xex_InvalidTable ?xty_InvalidTable ?xga_InvalidTable ?xgg_InvalidTable ?xhd_InvalidTable ?xcl_InvalidTable ?xcm_InvalidTable ?xno_InvalidTable ?xl_NothingToUndo ?xkp_NothingToUndo ?xsa_NothingToUndo ?xex_NothingToUndo ?xty_NothingToUndo ?xga_NothingToUndo ?xgg_NothingToUndo ?xhd_NothingToUndo ?xcl_NothingToUndo ?xcm_NothingToUndo ?xno_NothingToUndo ?sb_InvalidBook_InvalidBook ?sb_InvalidBook_InvalidNumber ?sb_InvalidBook_InvalidSize ?sb_InvalidBook_InvalidTable ?sb_InvalidBook_NothingToUndo ?sb_InvalidBook_BookError ?sb_InvalidBook_ValueError ?sb_InvalidNumber_InvalidBook ?sb_InvalidNumber_InvalidNumber ?sb_InvalidNumber_InvalidSize ?sb_InvalidNumber_InvalidTable ?sb_InvalidNumber_NothingToUndo ?sb_InvalidNumber_BookError ?sb_InvalidNumber_ValueError ?sb_InvalidSize_InvalidBook ?sb_InvalidSize_InvalidNumber ?sb_InvalidSize_InvalidSize ?sb_InvalidSize_InvalidTable ?sb_InvalidSize_NothingToUndo ?sb_InvalidSize_BookError ?sb_InvalidSize_ValueError ?sb_NothingToUndo_InvalidBook ?sb_NothingToUndo_InvalidNumber ?sb_NothingToUndo_InvalidSize ?sb_NothingToUndo_InvalidTable ?sb_NothingToUndo_NothingToUndo ?sb_NothingToUndo_BookError ?sb_NothingToUndo_ValueError
    (case aC_LiveBook => k_is)
    (case aC_InvalidBook => k_is)
    (case aC_InvalidNumber => k_is)
    (case aC_InvalidSize => k_is)
    (case aC_InvalidTable => k_is)
    (case aC_NothingToUndo => k_is)
    (case aC_BookError => k_is)
    (case a1 => k_is)
    (case l1 => k_is)
    (case c1 => k_is)
    (case k1 => k_is)
    (case a2 => k_is)
    (case l2 => k_is)
    (case c2 => k_is)
    (case k2 => k_is)
    (case a3 => k_is)
    (case l3 => k_is)
    (case c3 => k_is)
    (case k3 => k_is)
    (case a4 => k_is)
    (case l4 => k_is)
    (case c4 => k_is)
    (case k4 => k_is)
    (case a5 => k_is)
    (case l5 => k_is)
    (case c5 => k_is)
    (case k5 => k_is)
    (case a6 => k_is)
    (case l6 => k_is)
    (case c6 => k_is)
    (case k6 => k_is)
    (case a7 => k_is)
    (case l7 => k_is)
    (case c7 => k_is)
    (case k7 => k_is)
    (case a8 => k_is)
    (case i8 => k_is)
    (case l8 => k_is)
    (case c8 => k_is)
    (case k8 => k_is)
    (case a9 => k_is)
    (case i9 => k_is)
    (case l9 => k_is)
    (case c9 => k_is)
    (case k9 => k_is)
    (case a10 => k_is)
    (case l10 => k_is)
    (case c10 => k_is)
    (case k10 => k_is)
    (case a11 => k_is)
    (case l11 => k_is)
    (case c11 => k_is)
    (case k11 => k_is)
    (case a12 => k_is)
    (case i12 => k_is)
    (case l12 => k_is)
    (case c12 => k_is)
    (case k12 => k_is)
    (case a13 => k_is)
    (case i13 => k_is)
    (case l13 => k_is)
    (case c13 => k_is)
    (case k13 => k_is)
    (case a14 => k_is)
    (case g14 => k_is)
    (case t14 => k_is)
    (case r14_ => k_is)
    (case l14 => k_is)
    (case c14 => k_is)
    (case k14 => k_is)
    (case a15 => k_is)
    (case i15 => k_is)
    (case l15 => k_is)
    (case c15 => k_is)
    (case k15 => k_is)
    (case a16 => k_is)
    (case i16 => k_is)
    (case l16 => k_is)
    (case c16 => k_is)
    (case k16 => k_is)
    (case a17 => k_is)
    (case l17 => k_is)
    (case c17 => k_is)
    (case k17 => k_is)
    (case a18 => k_is)
    (case g18 => k_is)
    (case t18 => k_is)
    (case r18_ => k_is)
    (case l18 => k_is)
    (case c18 => k_is)
    (case k18 => k_is)
    (case a19 => k_is)
    (case g19 => k_is)
    (case t19 => k_is)
    (case r19_ => k_is)
    (case l19 => k_is)
    (case c19 => k_is)
    (case k19 => k_is)
    (case a20 => k_is)
    (case i20 => k_is)
    (case l20 => k_is)
    (case c20 => k_is)
    (case k20 => k_is)
    (case a21 => k_is)
    (case i21 => k_is)
    (case l21 => k_is)
    (case c21 => k_is)
    (case k21 => k_is)
    (case a22 => k_is)
    (case i22 => k_is)
    (case l22 => k_is)
    (case c22 => k_is)
    (case k22 => k_is)
    (case a23 => k_is)
    (case l23 => k_is)
    (case c23 => k_is)
    (case k23 => k_is)
    (case a24 => k_is)
    (case l24 => k_is)
    (case c24 => k_is)
    (case k24 => k_is)
    (case a25 => k_is)
    (case l25 => k_is)
    (case c25 => k_is)
    (case k25 => k_is)
    (case a26 => k_is)
    (case l26 => k_is)
    (case c26 => k_is)
    (case k26 => k_is)
    (case a27 => k_is)
    (case i27 => k_is)
    (case l27 => k_is)
    (case c27 => k_is)
    (case k27 => k_is)
    (case rd28 => k_is)
    (case ga28 => k_is)
    (case a28 => k_is)
    (case r28_ => k_is)
    (case i28 => k_is)
    (case l28 => k_is)
    (case c28 => k_is)
    (case k28 => k_is)
    (case a29 => k_is)
    (case l29 => k_is)
    (case c29 => k_is)
    (case k29 => k_is)
    (case a30 => k_is)
    (case l30 => k_is)
    (case c30 => k_is)
    (case k30 => k_is)
    (case z_abs => k_is)
    (case z_enumerate => k_is)
    (case z_len => k_is)
    (case z_list => k_is)
    (case z_max => k_is)
    (case z_min => k_is)
    (case z_range => k_is)
    (case z_repr => k_is)
    (case z_sorted => k_is)
    (case z_sum => k_is)
    (case z_zip => k_is)
    (case v_MOST_SIZE => k_is)
    (case pg_LiveBook => k_is)
    (case hd_LiveBook => k_is)
    (case po_LiveBook => k_is)
    (case sa_LiveBook => k_is)
    (case mk_LiveBook => k_is)
    (case kc_LiveBook => k_is)
    (case na_LiveBook_past => k_is)
    (case rd_B => k_is)
    (case ga_B => k_is)
    (case fi_B => k_is)
    (case hd_B => k_is)
    (case ty_B => k_is)
    (case xe_B => k_is)
    (case cn_B => k_is)
    (case ct_B => k_is)
    (case xl_InvalidBook => k_is)
    (case xkp_InvalidBook => k_is)
    (case xsa_InvalidBook => k_is)
    (case xex_InvalidBook => k_is)
    (case xty_InvalidBook => k_is)
    (case xga_InvalidBook => k_is)
    (case xgg_InvalidBook => k_is)
    (case xhd_InvalidBook => k_is)
    (case xcl_InvalidBook => k_is)
    (case xcm_InvalidBook => k_is)
    (case xno_InvalidBook => k_is)
    (case xl_InvalidNumber => k_is)
    (case xkp_InvalidNumber => k_is)
    (case xsa_InvalidNumber => k_is)
    (case xex_InvalidNumber => k_is)
    (case xty_InvalidNumber => k_is)
    (case xga_InvalidNumber => k_is)
    (case xgg_InvalidNumber => k_is)
    (case xhd_InvalidNumber => k_is)
    (case xcl_InvalidNumber => k_is)
    (case xcm_InvalidNumber => k_is)
    (case xno_InvalidNumber => k_is)
    (case xl_InvalidSize => k_is)
    (case xkp_InvalidSize => k_is)
    (case xsa_InvalidSize => k_is)
    (case xex_InvalidSize => k_is)
    (case xty_InvalidSize => k_is)
    (case xga_InvalidSize => k_is)
    (case xgg_InvalidSize => k_is)
    (case xhd_InvalidSize => k_is)
    (case xcl_InvalidSize => k_is)
    (case xcm_InvalidSize => k_is)
    (case xno_InvalidSize => k_is)
    (case xl_InvalidTable => k_is)
    (case xkp_InvalidTable => k_is)
    (case xsa_InvalidTable => k_is)
    (case xex_InvalidTable => k_is)
    (case xty_InvalidTable => k_is)
    (case xga_InvalidTable => k_is)
    (case xgg_InvalidTable => k_is)
    (case xhd_InvalidTable => k_is)
    (case xcl_InvalidTable => k_is)
    (case xcm_InvalidTable => k_is)
    (case xno_InvalidTable => k_is)
    (case xl_NothingToUndo => k_is)
    (case xkp_NothingToUndo => k_is)
    (case xsa_NothingToUndo => k_is)
    (case xex_NothingToUndo => k_is)
    (case xty_NothingToUndo => k_is)
    (case xga_NothingToUndo => k_is)
    (case xgg_NothingToUndo => k_is)
    (case xhd_NothingToUndo => k_is)
    (case xcl_NothingToUndo => k_is)
    (case xcm_NothingToUndo => k_is)
    (case xno_NothingToUndo => k_is)
    (case sb_InvalidBook_InvalidBook => k_is)
    (case sb_InvalidBook_InvalidNumber => k_is)
    (case sb_InvalidBook_InvalidSize => k_is)
    (case sb_InvalidBook_InvalidTable => k_is)
    (case sb_InvalidBook_NothingToUndo => k_is)
    (case sb_InvalidBook_BookError => k_is)
    (case sb_InvalidBook_ValueError => k_is)
    (case sb_InvalidNumber_InvalidBook => k_is)
    (case sb_InvalidNumber_InvalidNumber => k_is)
    (case sb_InvalidNumber_InvalidSize => k_is)
    (case sb_InvalidNumber_InvalidTable => k_is)
    (case sb_InvalidNumber_NothingToUndo => k_is)
    (case sb_InvalidNumber_BookError => k_is)
    (case sb_InvalidNumber_ValueError => k_is)
    (case sb_InvalidSize_InvalidBook => k_is)
    (case sb_InvalidSize_InvalidNumber => k_is)
    (case sb_InvalidSize_InvalidSize => k_is)
    (case sb_InvalidSize_InvalidTable => k_is)
    (case sb_InvalidSize_NothingToUndo => k_is)
    (case sb_InvalidSize_BookError => k_is)
    (case sb_InvalidSize_ValueError => k_is)
    (case sb_NothingToUndo_InvalidBook => k_is)
    (case sb_NothingToUndo_InvalidNumber => k_is)
    (case sb_NothingToUndo_InvalidSize => k_is)
    (case sb_NothingToUndo_InvalidTable => k_is)
    (case sb_NothingToUndo_NothingToUndo => k_is)
    (case sb_NothingToUndo_BookError => k_is)
    (case sb_NothingToUndo_ValueError => k_is)
