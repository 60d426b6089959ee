import PyProof.Rows.All
import Wide.All
import OpenK.AllK
import Wide.FinOn
import HandS.ForMost
import HandS.Wide
import HandS.SortInts
import HandS.SortKw
import HandS.Property
import HandS.IsInst
import HandS.RevRange
import HandS.Style
import HandS.Flow
import HandS.Defaults
import HandS.MakeKwOnly
import HandS.TryOnly
import HandS.Zip
import HandS.RaiseMore
import HandS.EndBits
import HandS.SetFor
import HandS.Steps
import HandS.Iter
import HandS.GenList
import HandS.Walk
import HandS.ExcInit
import HandS.ExcField
import HandS.ClsMeth
import HandS.WordsExc
import HandS.ExcOwn
import KE.KExcIs
import HandS.ExcIs
import HandS.Star
import HandS.MethStar
import HandS.FStr
import HandS.GenYield
import PySem.Challenge.RW_pagecounts_k02_page_counts
set_option Elab.async false
set_option linter.all false
set_option maxRecDepth 100000
set_option maxHeartbeats 4000000
namespace Pg
open PySem PySem.Spec PyProof.Rows L2

/-! ### powers of great ints -/
def CPowW (i j : Int) : Prop := 0 ≤ j ∧ (i.natAbs.log2 + 1 : Int) * j ≤ 1000000
theorem CPowW.of {i j : Int} (b : Nat) (h0 : 0 ≤ j) (h1 : i.natAbs < 2 ^ b) (hb : 0 < b) (h : (b : Int) * j ≤ 1000000) : CPowW i j := by
  refine ⟨h0, ?_⟩
  have x := PySem.Flt.log2_lt_of hb h1
  have y : ((i.natAbs.log2 + 1 : Nat) : Int) ≤ (b : Int) := by omega
  have z : ((i.natAbs.log2 + 1 : Nat) : Int) * j ≤ (b : Int) * j := Int.mul_le_mul_of_nonneg_right y h0
  have e : ((i.natAbs.log2 + 1 : Nat) : Int) = (i.natAbs.log2 : Int) + 1 := by omega
  rw [e] at z
  exact Int.le_trans z h
section
variable {X : Cx}
theorem op_powW : OpR X (binaryOp .Pow) (rI CPowW fun i j => .int (i ^ j.toNat)) := opI fun i j _ _ _ _ _ hc q => by
  refine pow_int hc.1 ?_ q
  have b : Builtin.Int.intBits i ≤ i.natAbs.log2 + 1 := by
    unfold Builtin.Int.intBits
    split <;> omega
  have b' : ((Builtin.Int.intBits i : Nat) : Int) ≤ (i.natAbs.log2 : Int) + 1 := by omega
  have z := Int.mul_le_mul_of_nonneg_right b' hc.1
  have h2 := hc.2
  have e : (1000000 : Int) ≤ 2 ^ 27 := by decide
  exact Int.le_trans z (Int.le_trans h2 e)
end

/-! ### a def where it stands -/
structure DefAt (P : Program) (w : World) (K : PySem.W.Frag) (mg : Str → Option Value) (base : Heap) (x : Str) (st : Stmt) (k : Nat) (ps : List Str) (sp : Sp) : Prop where
  ex : ∃ f fd, mg x = some (.ref f) ∧ Fun K x x st f fd ∧ FnOk P w K mg base CX0 k f fd ps sp ∧ Binds K fd ps []
/-- a def of the text that stands at the module's name -/
structure FunAt (K : PySem.W.Frag) (mg : Str → Option Value) (x : Str) (st : Stmt) : Prop where
  ex : ∃ f fd, mg x = some (.ref f) ∧ Fun K x x st f fd
/-- a class with its __init__ -/
structure ClsAt (K : PySem.W.Frag) (mg : Str → Option Value) (x : Str) (C : Addr) : Prop where
  g : mg x = some (.ref C)
  c : Cls K C
  mks : PySem.W.makesIn K C = true
  kp : PySem.W.keepIn K (.ref C) = true
/-- a method of a class, as the text has it -/
structure MethAt (K : PySem.W.Frag) (C : Addr) (m qual : Str) (st : Stmt) : Prop where
  ex : ∃ f fd, Meth K C m f ∧ Fun K m qual st f fd
structure MDefAt (P : Program) (w : World) (K : PySem.W.Frag) (mg : Str → Option Value) (base : Heap) (C : Addr) (m qual : Str) (st : Stmt) (k : Nat) (ps : List Str) (sp : Sp) : Prop where
  ex : ∃ f fd, Meth K C m f ∧ Fun K m qual st f fd ∧ FnOk P w K mg base CX0 k f fd ps sp ∧ Binds K fd ps []
/-- a property of a class -/
structure PropAt (K : PySem.W.Frag) (C : Addr) (m qual : Str) (st : Stmt) : Prop where
  ex : ∃ p f fd, PropOf K C m p f ∧ Fun K m qual st f fd
structure PDefAt (P : Program) (w : World) (K : PySem.W.Frag) (mg : Str → Option Value) (base : Heap) (C : Addr) (m qual : Str) (st : Stmt) (k : Nat) (sp : Sp) : Prop where
  ex : ∃ p f fd, PropOf K C m p f ∧ Fun K m qual st f fd ∧ FnOk P w K mg base CX0 k f fd ["self"] sp ∧ Binds K fd ["self"] []

section
variable {P : Program} {w : World} {K : PySem.W.Frag} {mg : Str → Option Value} {base : Heap} {x m qual : Str} {st : Stmt} {k : Nat} {ps N : List Str} {sp : Sp} {C : Addr}
theorem FunAt.ok (F : FunAt K mg x st) (S : FnScope N ps (defScope st)) (len : ∀ vs H Q E, sp vs H Q E → vs.length = ps.length)
    (hb : ∀ (kV doc pm : Value) (an : Option Addr) (cdv ct : Value) (us : List Value), us.length = ps.length → bindArgs (PySem.W.fnOf x x (defArgs st) (defBody st) (defScope st) .none kV doc pm an cdv ct) ⟨us, []⟩ = pure (ps.zip us))
    (hbody : ∀ (f : Addr) (cdv : Value) (A : Around) (outer : List Env) (s : Shared) (H : Hp) (vs : List V) (Q : VK) (E : XK), Room k (A.deeper (envOfC x (defScope st) s.heap.objs.size f cdv)) → sp vs H Q E →
      ∃ t, PSs (cxOf CX0 P w K mg base N x (defScope st) f cdv A outer s H E).nox (defBody st) t ∧ t { nx := fun _ H' => Q .non H', rt := Q } (start N vs) H) : DefAt P w K mg base x st (k + 1) ps sp := by
  obtain ⟨f, fd, hm, F⟩ := F.ex
  exact ⟨f, fd, hm, F, F.ok S len (fun cdv A outer s H vs Q E hr h => hbody f cdv A outer s H vs Q E hr h), F.binds hb⟩
theorem MethAt.ok (F : MethAt K C m qual st) (S : FnScope N ps (defScope st)) (len : ∀ vs H Q E, sp vs H Q E → vs.length = ps.length)
    (hb : ∀ (kV doc pm : Value) (an : Option Addr) (cdv ct : Value) (us : List Value), us.length = ps.length → bindArgs (PySem.W.fnOf m qual (defArgs st) (defBody st) (defScope st) .none kV doc pm an cdv ct) ⟨us, []⟩ = pure (ps.zip us))
    (hbody : ∀ (f : Addr) (cdv : Value) (A : Around) (outer : List Env) (s : Shared) (H : Hp) (vs : List V) (Q : VK) (E : XK), Room k (A.deeper (envOfC qual (defScope st) s.heap.objs.size f cdv)) → sp vs H Q E →
      ∃ t, PSs (cxOf CX0 P w K mg base N qual (defScope st) f cdv A outer s H E).nox (defBody st) t ∧ t { nx := fun _ H' => Q .non H', rt := Q } (start N vs) H) : MDefAt P w K mg base C m qual st (k + 1) ps sp := by
  obtain ⟨f, fd, hm, F⟩ := F.ex
  exact ⟨f, fd, hm, F, F.ok S len (fun cdv A outer s H vs Q E hr h => hbody f cdv A outer s H vs Q E hr h), F.binds hb⟩
theorem PropAt.ok (F : PropAt K C m qual st) (S : FnScope N ["self"] (defScope st)) (len : ∀ vs H Q E, sp vs H Q E → vs.length = 1)
    (hb : ∀ (kV doc pm : Value) (an : Option Addr) (cdv ct : Value) (us : List Value), us.length = (["self"] : List Str).length → bindArgs (PySem.W.fnOf m qual (defArgs st) (defBody st) (defScope st) .none kV doc pm an cdv ct) ⟨us, []⟩ = pure ((["self"] : List Str).zip us))
    (hbody : ∀ (f : Addr) (cdv : Value) (A : Around) (outer : List Env) (s : Shared) (H : Hp) (vs : List V) (Q : VK) (E : XK), Room k (A.deeper (envOfC qual (defScope st) s.heap.objs.size f cdv)) → sp vs H Q E →
      ∃ t, PSs (cxOf CX0 P w K mg base N qual (defScope st) f cdv A outer s H E).nox (defBody st) t ∧ t { nx := fun _ H' => Q .non H', rt := Q } (start N vs) H) : PDefAt P w K mg base C m qual st (k + 1) sp := by
  obtain ⟨p, f, fd, hm, F⟩ := F.ex
  exact ⟨p, f, fd, hm, F, F.ok S len (fun cdv A outer s H vs Q E hr h => hbody f cdv A outer s H vs Q E hr h), F.binds hb⟩
end

section
variable {X : Cx} {x m qual : Str} {st : Stmt} {k n : Nat} {ps ks : List Str} {sp : Sp} {C : Addr} {e o : Expr} {es : List Expr} {kws : List Keyword} {t tk : TA} {ta : TE} {p pos apos : Pos}
theorem pe_callD (D : DefAt X.prog X.w X.K X.mg X.base x st k ps sp) (hr : Room k X.A) (ha : PA X (e :: es) t) (hg : Gl X x := by rfl)
    (hdb : (x == ("__debug__" : Str)) = false := by decide) (he : starEach (e :: es) X.env = (false, eval e X.env) :: starEach es X.env := by rfl) (hpl : (backTo pos (starEach es X.env)).any (·.1) = false := by rfl) :
    PE X (.Call (.Name x p) (e :: es) [] pos) (tCall sp [] E0 t) := by
  obtain ⟨f, fd, hm, F, G, b⟩ := D.ex
  exact pe_call G hr hg hm F.kp b .nil pass0 ha hdb he hpl
theorem pe_methD {pl : Sem Bool} (he : PE X o ta) (T : Cls X.K C) (D : MDefAt X.prog X.w X.K X.mg X.base C m qual st k ps sp) (hr : Room k X.A) (ha : PA X (e :: es) t)
    (hst : starEach (e :: es) X.env = (false, eval e X.env) :: starEach es X.env := by rfl) (hpl : (backTo pos (starEach es X.env)).any (·.1) = false := by rfl)
    (ht : eval (.Call (.Attribute o m apos) (e :: es) [] pos) X.env = (do
      let ov ← eval o X.env
      standAt apos.atName
      let (f, first) ← holding [ov] (getMethod ov m pl)
      callWith pos f first (backTo pos (starEach (e :: es) X.env)) (backToKw pos (keywordEach [] X.env))) := by rfl) :
    PE X (.Call (.Attribute o m apos) (e :: es) [] pos) (tMeth C m sp [] E0 ta t) := by
  obtain ⟨f, fd, hm, F, G, b⟩ := D.ex
  exact pe_meth he T hm G hr b .nil pass0 ha hst hpl ht
theorem pe_methD0 {pl : Sem Bool} (he : PE X o ta) (T : Cls X.K C) (D : MDefAt X.prog X.w X.K X.mg X.base C m qual st k ps sp) (hr : Room k X.A)
    (ht : eval (.Call (.Attribute o m apos) [] [] pos) X.env = (do
      let ov ← eval o X.env
      standAt apos.atName
      let (f, first) ← holding [ov] (getMethod ov m pl)
      callWith pos f first (backTo pos (starEach [] X.env)) (backToKw pos (keywordEach [] X.env))) := by rfl) :
    PE X (.Call (.Attribute o m apos) [] [] pos) (tMeth C m sp [] E0 ta tNil) := by
  obtain ⟨f, fd, hm, F, G, b⟩ := D.ex
  exact pe_meth0 he T hm G hr b .nil pass0 ht
theorem pe_makeD (T : ClsAt X.K X.mg x C) (D : MDefAt X.prog X.w X.K X.mg X.base C "__init__" qual st k ps sp) (hr : Room (k + 1) X.A) (ha : PA X (e :: es) t) (hg : Gl X x := by rfl)
    (hdb : (x == ("__debug__" : Str)) = false := by decide) (he : starEach (e :: es) X.env = (false, eval e X.env) :: starEach es X.env := by rfl) (hpl : (backTo pos (starEach es X.env)).any (·.1) = false := by rfl) :
    PE X (.Call (.Name x p) (e :: es) [] pos) (tMake C sp [] E0 t) := by
  obtain ⟨f, fd, hm, F, G, b⟩ := D.ex
  exact pe_make ⟨T.mks, hm.at_, hm.fn, T.kp⟩ G hr hg T.g b .nil pass0 ha hdb he hpl
theorem passE0 : Passes CX0 X E0 := fun _ _ _ _ _ _ _ h => h.elim
theorem pe_propD (he : PE X e ta) (c : Cls X.K C) (D : PDefAt X.prog X.w X.K X.mg X.base C m qual st k sp) (hr : Room (k + 1) X.A)
    (hab : attributeBase e m X.env (eval e X.env) = eval e X.env := by rfl) : PE X (.Attribute e m pos) (tProp C sp [] E0 ta) := by
  obtain ⟨pp, f, fd, hm, F, G, b⟩ := D.ex
  exact pe_prop he c hm G hr b .nil passE0 hab
theorem pe_gcls {u : Addr} (hm : X.mg x = some (.ref u)) (hg : Gl X x := by rfl) (hd : (x == ("__debug__" : Str)) = false := by decide) : PE X (.Name x pos) (tC (.ref u)) := pe_glob hg hm rfl hd
end

section
variable {X : Cx} {x : Str} {p : Pos}
theorem pe_gint {i : Int} (hm : ∃ t, X.mg x = some (.int i t)) (hg : Gl X x := by rfl) (hd : (x == ("__debug__" : Str)) = false := by decide) : PE X (.Name x p) (tC (.int i)) := by
  obtain ⟨t, hm⟩ := hm
  exact pe_glob hg hm ⟨t, rfl⟩ hd
theorem pe_gstr {i : Str} (hm : ∃ t, X.mg x = some (.str i t)) (hg : Gl X x := by rfl) (hd : (x == ("__debug__" : Str)) = false := by decide) : PE X (.Name x p) (tC (.str i)) := by
  obtain ⟨t, hm⟩ := hm
  exact pe_glob hg hm ⟨t, rfl⟩ hd
end
/-! ### readings by names -/
def rLen (K : PySem.W.Frag) : List V → Hp → VK → Prop := fun xs H Q => ∃ x n, xs = [x] ∧ LenV K x H n ∧ Q (.int n) H
theorem call_lenN {X : Cx} : CallR X (.builtin "len") (rLen X.K) := call_len
def rAbs : List V → Hp → VK → Prop := fun xs H Q => ∃ i, xs = [.int i] ∧ Q (.int (if i < 0 then -i else i)) H
theorem call_absN {X : Cx} : CallR X (.builtin "abs") rAbs := call_abs
def rMax2 : List V → Hp → VK → Prop := fun xs H Q => ∃ i j, xs = [.int i, .int j] ∧ Q (.int (if j > i then j else i)) H
theorem call_max2N {X : Cx} (hc : X.calm = true) : CallR X (.builtin "max") rMax2 := call_max2 hc
def rMin2 : List V → Hp → VK → Prop := fun xs H Q => ∃ i j, xs = [.int i, .int j] ∧ Q (.int (if j < i then j else i)) H
theorem call_min2N {X : Cx} (hc : X.calm = true) : CallR X (.builtin "min") rMin2 := call_min2 hc
def rInt1 : List V → Hp → VK → Prop := fun xs H Q => (∃ i, xs = [.int i] ∧ Q (.int i) H) ∨ ∃ k, xs = [.bl k] ∧ Q (.int (if k then 1 else 0)) H
theorem call_int1N {X : Cx} : CallR X (.type "int") rInt1 := call_int1
def rStrI : List V → Hp → VK → Prop := fun xs H Q => ∃ i, xs = [.int i] ∧ i.natAbs.log2 < 1920 ∧ Q (.str (toString i)) H
theorem call_strN {X : Cx} : CallR X (.type "str") rStrI := call_str_int
def rListOf (K : PySem.W.Frag) : List V → Hp → VK → Prop := fun xs H Q => ∃ p ys, xs = [.ref p] ∧ (SqL K H p ys ∨ SqT K H p ys) ∧ ∀ l, H l = none → Q (.ref l) (upd H l (.lst ys))
theorem call_listN {X : Cx} : CallR X (.type "list") (rListOf X.K) := call_list_of

/-! ### calls by keywords alone -/
def pick {α : Type} (ix : List Nat) (l : List α) : List α := ix.filterMap fun i => l[i]?
theorem pick_vals {zs : List V} {ws : List Value} (r : Vals zs ws) : ∀ ix : List Nat, Vals (pick ix zs) (pick ix ws)
  | [] => .nil
  | i :: ix => by
    have ih := pick_vals r ix
    unfold pick at ih ⊢
    rw [List.filterMap_cons, List.filterMap_cons]
    cases e : zs[i]? with
    | none =>
      rw [Vals.none_of r e]
      exact ih
    | some v =>
      obtain ⟨u, e', rv⟩ := Vals.get r e
      rw [e']
      exact .cons rv ih
/-- how a call binds keywords alone: parameter i takes the keyword at ix[i] -/
def KB0 (x qual : Str) (st : Stmt) (ps ks : List Str) (pre : Nat) (ix : List Nat) : Prop :=
  ∀ (kV doc pm : Value) (an : Option Addr) (cdv ct : Value) (us ws : List Value), us.length = pre → ws.length = ks.length → bindArgs (PySem.W.fnOf x qual (defArgs st) (defBody st) (defScope st) .none kV doc pm an cdv ct) ⟨us, ks.zip ws⟩ = pure (ps.zip (us ++ pick ix ws))
theorem KB0.kbn {K : PySem.W.Frag} {x qual : Str} {st : Stmt} {f : Addr} {fd : FuncData} {ps ks : List Str} {pre : Nat} {ix : List Nat} (B : KB0 x qual st ps ks pre ix) (F : Fun K x qual st f fd) : KBn K fd ps pre ks (fun us ws => us ++ pick ix ws) (fun vs zs => vs ++ pick ix zs) := by
  obtain ⟨oc, od, kV, doc, pm, an, cdv, ct, osl, rfl, lk, hcd⟩ := F.ex
  exact ⟨fun s us ws _ hu hw => .of_eq (B kV doc pm an cdv ct us ws hu hw), fun r1 r2 => r1.append (pick_vals r2 ix)⟩
def tCallK0 (n : Nat) (ix : List Nat) (sp : Sp) (tk : TA) : TE := fun σ H Q => tk σ H fun zs H2 => zs.length = n ∧ sp (pick ix zs) H2 Q E0
section
variable {X : Cx} {x m qual : Str} {st : Stmt} {k n : Nat} {ps ks : List Str} {sp : Sp} {C : Addr} {e o : Expr} {es : List Expr} {kws : List Keyword} {t tk : TA} {ta : TE} {p pos apos : Pos} {ix : List Nat}
theorem pe_callKD (D : DefAt X.prog X.w X.K X.mg X.base x st k ps sp) (hr : Room k X.A) (hkw : PK X kws tk) (B : KB0 x x st ps ks 0 ix) (hg : Gl X x := by rfl)
    (hall : (backToKw pos (keywordEach kws X.env)).all (·.1.isSome) = true := by rfl) (hks : (backToKw pos (keywordEach kws X.env)).filterMap (·.1) = ks := by rfl) (hdb : (x == ("__debug__" : Str)) = false := by decide)
    (hpl : ((backTo pos (starEach [] X.env)).any (·.1) || (backToKw pos (keywordEach kws X.env)).any (·.1.isNone)) = false := by rfl) :
    PE X (.Call (.Name x p) [] kws pos) (tCallK0 ks.length ix sp tk) := by
  obtain ⟨f, fd, hm, F, G, b⟩ := D.ex
  refine ⟨fun pins s σ H Q I h => ?_⟩
  refine wpAny_Call_Name_kw (ld_glob I hg hm ?_ hdb)
  refine PySem.W.callWith_KW0 (h₀ := X.base) I.ok.mod.kin F.kp hall ?_ hpl
  refine thn (hkw.run pos pins s σ H _ I h) fun ws s2 ⟨zs, H2, I2, rz, l2, q2⟩ => ⟨I2.kIn, ?_⟩
  rw [hks]
  exact run_fnN (us := []) (vs := []) G hr (B.kbn F) pass0 I2 .nil rz rfl l2 q2
/-- o.m(k = v, ..) -/
def tMethK0 (C : Addr) (m : Str) (n : Nat) (ix : List Nat) (sp : Sp) (ta : TE) (tk : TA) : TE := fun σ H Q => ta σ H fun x H1 => ∃ a dx fs, x = .ref a ∧ H1 a = some (.ins C dx fs) ∧ fs.lookup m = none ∧
  tk σ H1 fun zs H2 => zs.length = n ∧ sp (x :: pick ix zs) H2 Q E0
theorem pe_makeKD (T : ClsAt X.K X.mg x C) (D : MDefAt X.prog X.w X.K X.mg X.base C "__init__" qual st k ps sp) (hr : Room (k + 1) X.A) (hkw : PK X kws tk) (B : KB0 "__init__" qual st ps ks 1 ix) (hg : Gl X x := by rfl)
    (hall : (backToKw pos (keywordEach kws X.env)).all (·.1.isSome) = true := by rfl) (hks : (backToKw pos (keywordEach kws X.env)).filterMap (·.1) = ks := by rfl) (hdb : (x == ("__debug__" : Str)) = false := by decide)
    (hpl : ((backTo pos (starEach [] X.env)).any (·.1) || (backToKw pos (keywordEach kws X.env)).any (·.1.isNone)) = false := by rfl) :
    PE X (.Call (.Name x p) [] kws pos) (tMakeK C 0 ks.length sp (fun vs zs => vs ++ pick ix zs) E0 tNil tk) := by
  obtain ⟨f, fd, hm, F, G, b⟩ := D.ex
  exact pe_makeK0 (p := p) (pos := pos) ⟨T.mks, hm.at_, hm.fn, T.kp⟩ G hr hg T.g (B.kbn F) pass0 hkw hall hks hdb hpl
end

/-! ### what is kept -/
/-- all that was tracked is as it was, but the addresses of S -/
def Fr (S : List Addr) (H H' : Hp) : Prop := ∀ b o, b ∉ S → H b = some o → H' b = some o
section
variable {S S' : List Addr} {H H1 H2 H' : Hp} {a b p : Addr} {o u : HO} {K : PySem.W.Frag} {xs : List V}
theorem Fr.refl : Fr S H H := fun _ _ _ h => h
theorem Fr.trans (h : Fr S H H1) (h' : Fr S H1 H2) : Fr S H H2 := fun b o n e => h' b o n (h b o n e)
theorem Fr.mono (h : Fr S H H1) (hs : ∀ b ∈ S, b ∈ S') : Fr S' H H1 := fun b o n e => h b o (fun z => n (hs b z)) e
theorem Fr.nil (h : Fr [] H H1) : Fr S H H1 := h.mono fun b z => absurd z (by simp)
theorem Fr.then (h : Fr S H H1) (h' : Fr [] H1 H2) : Fr S H H2 := h.trans h'.nil
theorem Fr.new (h : Fr S H H1) (n : H1 p = none) : Fr S H (upd H1 p o) := fun b u z e => by
  rw [upd_ne (ne_of_none (h b u z e) n)]
  exact h b u z e
/-- an object that was made behind H, or one of S, may change -/
theorem Fr.put (h : Fr S H H1) (n : H p = none ∨ p ∈ S) : Fr S H (upd H1 p o) := fun b u z e => by
  have hb : b ≠ p := by
    intro q
    subst q
    rcases n with n | n
    · rw [n] at e
      cases e
    · exact z n
  rw [upd_ne hb]
  exact h b u z e
theorem Fr.at (h : Fr S H H') (n : b ∉ S) (e : H b = some o) : H' b = some o := h b o n e
theorem Fr.at0 (h : Fr [] H H') (e : H b = some o) : H' b = some o := h b o (by simp) e
theorem Fr.rd (h : Fr S H H') (n : b ∉ S) (e : Rd H b o) : Rd H' b o := by
  rcases e with e | ⟨x, e⟩
  · exact .inl (h b _ n e)
  · exact .inr ⟨x, h b _ n e⟩
theorem Fr.seqL (h : Fr S H H') (n : b ∉ S) (e : SqL K H b xs) : SqL K H' b xs := by
  rcases e with e | e
  · exact .inl (h.rd n e)
  · exact .inr e
theorem Fr.free (h : Fr S H H') (n : p ∉ S) (e : H' p = none) : H p = none := by
  cases q : H p with
  | none => rfl
  | some o =>
    rw [h p o n q] at e
    cases e
/-- what changes one object that was made behind H -/
theorem Fr.loc (h : Fr S H H1) (n : H p = none) (h' : Fr [p] H1 H2) : Fr S H H2 := fun b o z e => by
  refine h' b o ?_ (h b o z e)
  intro q
  rw [List.mem_singleton.mp q, n] at e
  cases e
theorem same_fr (h : Same H H') : Fr S H H' := fun b o _ e => h b o e
theorem Fr.same (h : Fr [] H H') : Same H H' := fun b o e => h b o (by simp) e
theorem at_upd (h : H a = some o) (n : H p = none) : upd H p u a = some o := by
  rw [upd_ne (ne_of_none h n)]
  exact h
theorem at_make {dx : Addr} {v : HO} (h : H a = some o) (n1 : H dx = none) (n2 : H p = none) : upd (upd H dx u) p v a = some o := by
  rw [upd_ne (ne_of_none h n2), upd_ne (ne_of_none h n1)]
  exact h
theorem Fr.make {dx : Addr} {v : HO} (h : Fr S H H1) (n1 : H1 dx = none) (n2 : H1 p = none) : Fr S H (upd (upd H1 dx u) p v) := fun b w z e => at_make (h b w z e) n1 n2
theorem hx_of {v : HO} (h : H a = some o) (e : o = v) : H a = some v := e ▸ h
theorem nn2 (h1 : b ≠ a) : b ∉ [a] := by simpa using h1
end

/-! ### kinds of objects differ -/
theorem ho_lst_tup {v1 : List V} {v2 : List V} : ((.lst v1) : HO) ≠ (.tup v2) := fun z => nomatch z
theorem ho_lst_own {v1 : List V} {v2 : Addr} : ((.lst v1) : HO) ≠ (.own v2) := fun z => nomatch z
theorem ho_lst_xd {v1 : List V} {v2 : List (Str × V)} : ((.lst v1) : HO) ≠ (.xd v2) := fun z => nomatch z
theorem ho_lst_dK {v1 : List V} {v2 : List (Key × V)} : ((.lst v1) : HO) ≠ (.dK v2) := fun z => nomatch z
theorem ho_lst_ins {v1 : List V} {C2 dx2 : Addr} {fs2 : List (Str × V)} : ((.lst v1) : HO) ≠ (.ins C2 dx2 fs2) := fun z => nomatch z
theorem ho_tup_lst {v1 : List V} {v2 : List V} : ((.tup v1) : HO) ≠ (.lst v2) := fun z => nomatch z
theorem ho_tup_own {v1 : List V} {v2 : Addr} : ((.tup v1) : HO) ≠ (.own v2) := fun z => nomatch z
theorem ho_tup_xd {v1 : List V} {v2 : List (Str × V)} : ((.tup v1) : HO) ≠ (.xd v2) := fun z => nomatch z
theorem ho_tup_dK {v1 : List V} {v2 : List (Key × V)} : ((.tup v1) : HO) ≠ (.dK v2) := fun z => nomatch z
theorem ho_tup_ins {v1 : List V} {C2 dx2 : Addr} {fs2 : List (Str × V)} : ((.tup v1) : HO) ≠ (.ins C2 dx2 fs2) := fun z => nomatch z
theorem ho_own_lst {v1 : Addr} {v2 : List V} : ((.own v1) : HO) ≠ (.lst v2) := fun z => nomatch z
theorem ho_own_tup {v1 : Addr} {v2 : List V} : ((.own v1) : HO) ≠ (.tup v2) := fun z => nomatch z
theorem ho_own_xd {v1 : Addr} {v2 : List (Str × V)} : ((.own v1) : HO) ≠ (.xd v2) := fun z => nomatch z
theorem ho_own_dK {v1 : Addr} {v2 : List (Key × V)} : ((.own v1) : HO) ≠ (.dK v2) := fun z => nomatch z
theorem ho_own_ins {v1 : Addr} {C2 dx2 : Addr} {fs2 : List (Str × V)} : ((.own v1) : HO) ≠ (.ins C2 dx2 fs2) := fun z => nomatch z
theorem ho_xd_lst {v1 : List (Str × V)} {v2 : List V} : ((.xd v1) : HO) ≠ (.lst v2) := fun z => nomatch z
theorem ho_xd_tup {v1 : List (Str × V)} {v2 : List V} : ((.xd v1) : HO) ≠ (.tup v2) := fun z => nomatch z
theorem ho_xd_own {v1 : List (Str × V)} {v2 : Addr} : ((.xd v1) : HO) ≠ (.own v2) := fun z => nomatch z
theorem ho_xd_dK {v1 : List (Str × V)} {v2 : List (Key × V)} : ((.xd v1) : HO) ≠ (.dK v2) := fun z => nomatch z
theorem ho_xd_ins {v1 : List (Str × V)} {C2 dx2 : Addr} {fs2 : List (Str × V)} : ((.xd v1) : HO) ≠ (.ins C2 dx2 fs2) := fun z => nomatch z
theorem ho_dK_lst {v1 : List (Key × V)} {v2 : List V} : ((.dK v1) : HO) ≠ (.lst v2) := fun z => nomatch z
theorem ho_dK_tup {v1 : List (Key × V)} {v2 : List V} : ((.dK v1) : HO) ≠ (.tup v2) := fun z => nomatch z
theorem ho_dK_own {v1 : List (Key × V)} {v2 : Addr} : ((.dK v1) : HO) ≠ (.own v2) := fun z => nomatch z
theorem ho_dK_xd {v1 : List (Key × V)} {v2 : List (Str × V)} : ((.dK v1) : HO) ≠ (.xd v2) := fun z => nomatch z
theorem ho_dK_ins {v1 : List (Key × V)} {C2 dx2 : Addr} {fs2 : List (Str × V)} : ((.dK v1) : HO) ≠ (.ins C2 dx2 fs2) := fun z => nomatch z
theorem ho_ins_lst {C1 dx1 : Addr} {fs1 : List (Str × V)} {v2 : List V} : ((.ins C1 dx1 fs1) : HO) ≠ (.lst v2) := fun z => nomatch z
theorem ho_ins_tup {C1 dx1 : Addr} {fs1 : List (Str × V)} {v2 : List V} : ((.ins C1 dx1 fs1) : HO) ≠ (.tup v2) := fun z => nomatch z
theorem ho_ins_own {C1 dx1 : Addr} {fs1 : List (Str × V)} {v2 : Addr} : ((.ins C1 dx1 fs1) : HO) ≠ (.own v2) := fun z => nomatch z
theorem ho_ins_xd {C1 dx1 : Addr} {fs1 : List (Str × V)} {v2 : List (Str × V)} : ((.ins C1 dx1 fs1) : HO) ≠ (.xd v2) := fun z => nomatch z
theorem ho_ins_dK {C1 dx1 : Addr} {fs1 : List (Str × V)} {v2 : List (Key × V)} : ((.ins C1 dx1 fs1) : HO) ≠ (.dK v2) := fun z => nomatch z
/-! ### len(set(ints)) -/
/-- the different ints of a list -/
def distinct (ns : List Int) : List Int := PyProof.Rows.firstMet (fun i => ns.getD i 0) ns.length
theorem firstMet_mem (f : Nat → Int) : ∀ (i : Nat) (x : Int), x ∈ PyProof.Rows.firstMet f i ↔ ∃ j, j < i ∧ f j = x
  | 0, x => by simp [PyProof.Rows.firstMet_zero]
  | i + 1, x => by
    rw [PyProof.Rows.firstMet_succ]
    have ih := firstMet_mem f i
    unfold PyProof.Rows.step_dedup
    split
    · rename_i h
      obtain ⟨y, hy, e⟩ := List.any_eq_true.mp h
      have e := eq_of_beq e
      subst e
      rw [ih]
      constructor
      · rintro ⟨j, h1, h2⟩
        exact ⟨j, by omega, h2⟩
      · rintro ⟨j, h1, h2⟩
        by_cases hj : j < i
        · exact ⟨j, hj, h2⟩
        · have : j = i := by omega
          subst this
          rw [← h2]
          exact (ih _).mp hy
    · rw [List.mem_append, ih, List.mem_singleton]
      constructor
      · rintro (⟨j, h1, h2⟩ | h)
        · exact ⟨j, by omega, h2⟩
        · exact ⟨i, by omega, h.symm⟩
      · rintro ⟨j, h1, h2⟩
        by_cases hj : j < i
        · exact .inl ⟨j, hj, h2⟩
        · have : j = i := by omega
          subst this
          exact .inr h2.symm
theorem distinct_mem {ns : List Int} {x : Int} : x ∈ distinct ns ↔ x ∈ ns := by
  unfold distinct
  rw [firstMet_mem]
  constructor
  · rintro ⟨j, h1, h2⟩
    rw [List.getD_eq_getElem?_getD, List.getElem?_eq_getElem h1] at h2
    have h2 : ns[j] = x := h2
    rw [← h2]
    exact List.getElem_mem h1
  · intro h
    obtain ⟨j, h1, h2⟩ := List.getElem_of_mem h
    refine ⟨j, h1, ?_⟩
    rw [List.getD_eq_getElem?_getD, List.getElem?_eq_getElem h1]
    exact h2
theorem distinct_le (ns : List Int) : (distinct ns).length ≤ ns.length := PyProof.Rows.firstMet_length_le _ _
/-- a list without repetition within another one is no longer -/
theorem nodup_le : ∀ {ds ns : List Int}, ds.Nodup → (∀ x ∈ ds, x ∈ ns) → ds.length ≤ ns.length
  | [], _, _, _ => Nat.zero_le _
  | d :: ds, ns, h, hs => by
    obtain ⟨h1, h2⟩ := List.nodup_cons.mp h
    have hd : d ∈ ns := hs d List.mem_cons_self
    have ih := nodup_le (ds := ds) (ns := ns.erase d) h2 fun x hx => by
      have hne : x ≠ d := fun e => h1 (e ▸ hx)
      exact (List.mem_erase_of_ne hne).mpr (hs x (List.mem_cons_of_mem _ hx))
    have e := List.length_erase_of_mem hd
    have pos : 0 < ns.length := List.length_pos_of_mem hd
    simp only [List.length_cons]
    omega
def tLenSetJ (K : PySem.W.Frag) (ta : TE) : TE := fun σ H Q => ta σ H fun x H1 => ∃ (l : Addr) (ns : List Int), x = .ref l ∧ SqL K H1 l (ns.map V.int) ∧ ns.length ≤ 4000 ∧ Q (.int ((distinct ns).length : Nat)) H1
theorem pe_lenSetJ {X : Cx} {a : Expr} {ta : TE} {p p2 q pos : Pos} (hg : Gl X "len") (hm : X.mg "len" = none) (hg2 : Gl X "set") (hm2 : X.mg "set" = none) (ha : PE X a ta) (hc : X.calm = true := by rfl)
    (na : starEach [a] X.env = (false, eval a X.env) :: starEach [] X.env := by rfl) : PE X (.Call (.Name "len" p) [.Call (.Name "set" p2) [a] [] q] [] pos) (tLenSetJ X.K ta) := by
  refine ⟨fun pins s σ H Q I h => ?_⟩
  refine Call_ (ld_blt I hg hm boot_len ?_)
  refine PyProof.Rows.callWith_builtin1 (PyProof.Rows.args_cons ?_ rfl) rfl rfl
  refine Call_ (ld_blt I hg2 hm2 boot_set ?_)
  refine PyProof.Rows.callWith_type1 (PyProof.Rows.args_cons (thn (ha.run pins s σ H _ I h) fun v s1 ⟨x, H1, I1, r1, q1⟩ => PyProof.Rows.args_nil ?_) na) na rfl
  obtain ⟨l, ns, rfl, hq, hl, q1⟩ := q1
  cases r1
  obtain ⟨its, r, pl, hz⟩ := I1.list hq
  have hlen : its.toArray.size = ns.length := by rw [List.size_toArray, ← r.length, List.length_map]
  refine call_set_list (I1.ok.hd hc) pl.isList (by simpa using RZ.intsAre_vals r) (by rw [hlen]; unfold scanBound; omega) fun h' tk hS hk => ?_
  refine PyProof.Rows.args_nil ?_
  rw [hlen] at hS
  have hlt : (PyProof.Rows.firstMet (fun i => ns.getD i 0) ns.length).length ≤ ns.length := PyProof.Rows.firstMet_length_le _ _
  obtain ⟨o, es, ep, t, ho, hex, hd, _, _, _, hf, hn⟩ := hS
  have I2 : Inv X pins σ H1 { s1 with heap := h', toks := tk } := I1.kept fun b o e => hk b o (Heap.lt_size e) e
  exact call_len_set ho hex hd hf (by rw [hn] <;> omega) ⟨.int (distinct ns).length, H1, I2.tok _, ⟨_, by rw [hn]; rfl⟩, q1⟩
/-! ### the same rules at a named part K -/
section
variable {X : Cx} {K : PySem.W.Frag}
theorem kc_call {r : PySem.W.Frag → List V → Hp → VK → Prop} {v : Value} (h : CallR X v (r X.K)) (e : X.K = K) : CallR X v (r K) := e ▸ h
theorem kc_mt {r : PySem.W.Frag → V → List V → Hp → VK → Prop} {id : String} (h : MtR X id (r X.K)) (e : X.K = K) : MtR X id (r K) := e ▸ h
theorem kc_op {r : PySem.W.Frag → R2} {f : Value → Value → Sem Value} (h : OpR X f (r X.K)) (e : X.K = K) : OpR X f (r K) := e ▸ h
theorem kc_ix {r : PySem.W.Frag → R2} (h : IxR X (r X.K)) (e : X.K = K) : IxR X (r K) := e ▸ h
theorem kc_sl {r : PySem.W.Frag → V → Option Int → Option Int → Hp → VK → Prop} (h : SlR X (r X.K)) (e : X.K = K) : SlR X (r K) := e ▸ h
theorem kc_bm {e : Expr} {T : String} {r : V → List V → Hp → VK → Prop} {to : TE} {t : TA} (h : PE X e (tBM X.K T r to t)) (q : X.K = K) : PE X e (tBM K T r to t) := q ▸ h
theorem kc_bm0 {e : Expr} {T : String} {r : V → List V → Hp → VK → Prop} {to : TE} (h : PE X e (tBM0 X.K T r to)) (q : X.K = K) : PE X e (tBM0 K T r to) := q ▸ h
end
/-! ### slices with a step -/
def pickSl {α : Type} (xs : List α) (lo st : Option Int) : List α := (sliceRange (sliceBounds lo none st xs.length).1 (sliceBounds lo none st xs.length).2.1 (sliceBounds lo none st xs.length).2.2).filterMap fun i => xs[i]?
def tSlStep (K : PySem.W.Frag) (te : TE) (tl ts : TO) : TE := fun σ H Q => te σ H fun x H1 => tl σ H1 fun lo H2 => ts σ H2 fun st H3 => ∃ a xs, x = .ref a ∧ SqL K H3 a xs ∧ st ≠ some 0 ∧ (pickSl xs lo st).length ≤ sizeLine ∧ ∀ p, H3 p = none → Q (.ref p) (upd H3 p (.lst (pickSl xs lo st)))
theorem pe_slStep {X : Cx} {e st : Expr} {te : TE} {lo : Option Expr} {tl ts : TO} {p2 pos : Pos} (he : PE X e te) (hl : PO X lo tl) (hs : PO X (some st) ts) : PE X (.Subscript e (.Slice lo none (some st) p2) pos) (tSlStep X.K te tl ts) := by
  refine ⟨fun pins s σ H Q I h => ?_⟩
  refine Subscript_ (thn (he.run pins s σ H _ I h) fun v s1 ⟨x, H1, I1, r1, q1⟩ => ?_)
  refine wpAny_Slice (thn (hl.run pins s1 σ H1 _ I1 q1) fun vl s2 ⟨l, H2, I2, pl, q2⟩ => ?_)
  refine thn (po_none.run pins s2 σ H2 (fun o H3 => o = none ∧ H3 = H2) I2 ⟨rfl, rfl⟩) fun vu s3 ⟨u, H3, I3, pu, eu, e3⟩ => ?_
  subst eu e3
  refine thn (hs.run pins s3 σ H3 _ I3 q2) fun vs s4 ⟨o, H4, I4, ps, a, xs, ex, hx, h0, hz2, q4⟩ => ?_
  subst ex
  cases r1
  have I5 : Inv X pins σ H4 { s4 with heap := s4.heap.push { cls := .type "slice", data := .fields #[vl, vu, vs] } } := I4.kept (t' := s4.toks) fun b ob q => Heap.get?_push_of_some _ q
  obtain ⟨its, r, ht, hz⟩ := I5.list hx
  have hlen := r.length
  refine tail_any (ops := [.ref a, .ref s4.heap.objs.size]) ht.isList.typeIs (PySem.slot_list_getitem.lookup) ?_ (by with_unfolding_all rfl)
  refine wpAny_getItem_list_slice ht.isList (Heap.IsSliceOf.new _ vl vu vs) pl pu ps h0 ?_ (by rw [List.size_toArray]; omega)
  have hp : slicePick its.toArray l none o = (pickSl its l o).toArray := by
    unfold slicePick pickSl
    simp
  have rv : Vals (pickSl xs l o) (pickSl its l o) := by
    unfold pickSl
    rw [hlen]
    exact pick_vals r _
  rw [hp]
  refine ⟨.ref _, _, I5.laid (t' := s4.toks) (o := .lst (pickSl xs l o)) (fun b ob q => Heap.get?_push_of_some _ q) (Nat.le_refl _) ?_, rfl, q4 _ (I5.hok.fresh (Nat.le_refl _))⟩
  exact ⟨hz2, _, 0, rv, Heap.get?_push_size _ rfl⟩
end Pg

namespace Pg
open PySem PySem.Spec PyProof.Rows L2
theorem szle {n : Nat} (h : Nat.ble n 16777216 = true) : n ≤ sizeLine := by
  rw [sizeLine_eq]
  exact Nat.le_of_ble_eq_true h
theorem szle' {n : Nat} (h : n ≤ 16777216) : n ≤ sizeLine := by
  rw [sizeLine_eq]
  exact h
theorem szlt {n : Nat} (h : n < 16777216) : n < sizeLine := by
  rw [sizeLine_eq]
  exact h
def ParE (i j : Nat) (R : L2.St → Hp → Prop) (σ : L2.St) : List V → Hp → Prop := fun vs H1 => ∃ v w, vs = [v, w] ∧ R ((σ.set i (some v)).set j (some w)) H1
theorem perm_sum {ns ms : List Int} (h : ns.Perm ms) : ns.sum = ms.sum := by
  induction h with
  | nil => rfl
  | cons x _ ih => simp [ih]
  | swap x y l => simp; omega
  | trans _ _ h1 h2 => exact h1.trans h2
/-- a wish, wrapped, so that nothing else takes it -/
structure Wr (R : Prop) : Prop where
  r : R
/-- fields of instances -/
def FldP (K : PySem.W.Frag) (f : Str) (y : V) (R : Hp → Prop) : V → Hp → Prop := fun x H2 => ∃ a C dx fs, x = .ref a ∧ H2 a = some (.ins C dx fs) ∧ Cls K C ∧ NoAttr K C f ∧ fs.length < 1000 ∧ R (upd H2 a (.ins C dx (putF f y fs)))
def FldG (K : PySem.W.Frag) (f : Str) (Q : VK) : V → Hp → Prop := fun x H1 => ∃ a C dx fs v, x = .ref a ∧ H1 a = some (.ins C dx fs) ∧ Cls K C ∧ NoAttr K C f ∧ fs.lookup f = some v ∧ Q v H1
def FldQ (C a : Addr) (f : Str) (z : V) (R : Hp → Prop) : Hp → Prop := fun H3 => ∃ dx' fs', H3 a = some (.ins C dx' fs') ∧ fs'.length < 1000 ∧ R (upd H3 a (.ins C dx' (putF f z fs')))
def FldA (K : PySem.W.Frag) (tv : TE) (rd : V → V → Hp → VK → Prop) (f : Str) (R : Hp → Prop) (σ : L2.St) : V → Hp → Prop := fun x H1 => ∃ a C dx fs v, x = .ref a ∧ H1 a = some (.ins C dx fs) ∧ Cls K C ∧ NoAttr K C f ∧ fs.lookup f = some v ∧
  tv σ H1 fun y H2 => rd v y H2 fun z H3 => FldQ C a f z R H3
def MethE (C : Addr) (m : Str) (sp : Sp) (dvs : List V) (E : XK) (t : TA) (σ : L2.St) (Q : VK) : V → Hp → Prop := fun x H1 => ∃ a dx fs, x = .ref a ∧ H1 a = some (.ins C dx fs) ∧ fs.lookup m = none ∧ t σ H1 fun vs H2 => sp (x :: (vs ++ dvs)) H2 Q E
def PropE (C : Addr) (sp : Sp) (dvs : List V) (E : XK) (Q : VK) : V → Hp → Prop := fun x H1 => ∃ a dx fs, x = .ref a ∧ H1 a = some (.ins C dx fs) ∧ sp (.ref a :: dvs) H1 Q E
theorem putF_eq {f : Str} {v x : V} {r : List (Str × V)} : putF f v ((f, x) :: r) = (f, v) :: r := by
  show (if f = f then _ else _) = _
  rw [if_pos rfl]
theorem putF_ne {f g : Str} {v x : V} {r : List (Str × V)} (h : ¬ g = f) : putF f v ((g, x) :: r) = (g, x) :: putF f v r := by
  show (if g = f then _ else _) = _
  rw [if_neg h]
theorem lk_eq {f : Str} {v : V} {r : List (Str × V)} : List.lookup f ((f, v) :: r) = some v := by simp [List.lookup]
theorem lk_ne {f g : Str} {v : V} {r : List (Str × V)} (h : ¬ f = g) : List.lookup f ((g, v) :: r) = List.lookup f r := by
  have e : (f == g) = false := by simpa using h
  simp [List.lookup, e]
/-- a method's receiver is of the type, and the rest -/
def TyAnd (K : PySem.W.Frag) (T : String) (x : V) (H : Hp) (R : Prop) : Prop := tyV K T x H ∧ R
section
variable {K : PySem.W.Frag} {σ : L2.St} {H H' : Hp} {D : Ends} {i : Nat} {x y v : V} {Q : VK} {ta tb te : TE} {c t u : TT} {t1 t2 ts : TS} {r : R2} {g : TG} {tA tr : TA} {R : List V → Hp → Prop} {a p C dx : Addr} {xs : List V} {f : Str} {fs : List (Str × V)} {m n : Int} {B : Bool → Hp → Prop}
/-! statements -/
theorem w_share {R A : Prop} (h1 : Wr R → A) (h2 : R) : A := h1 ⟨h2⟩
theorem w_start {N : List Str} {vs : List V} {σ' : L2.St} (e : L2.start N vs = σ') (h : ts D σ' H) : ts D (L2.start N vs) H := e ▸ h
theorem w_seq (h : t1 { D with nx := t2 D } σ H) : tSeq t1 t2 D σ H := h
theorem w_next (h : D.nx σ H) : tNext D σ H := h
theorem w_asg (h : te σ H fun x H1 => g x σ H1 D.nx) : tAsg te g D σ H := h
theorem w_gname {Q : L2.St → Hp → Prop} (h : Q (σ.set i (some v)) H) : gName i v σ H Q := h
theorem w_ret (h : te σ H D.rt) : tRet te D σ H := h
theorem w_retN (h : D.rt .non H) : tRetN D σ H := h
theorem w_drop (h : te σ H fun _ H1 => D.nx σ H1) : tDrop te D σ H := h
theorem w_ifS (h : c σ H fun b H1 => if b = true then t1 D σ H1 else t2 D σ H1) : tIfS c t1 t2 D σ H := h
theorem w_par {j : Nat} (h : tA σ H (ParE i j (D.nx) σ)) : tPar i j tA D σ H := h
theorem w_parE {j : Nat} {R : L2.St → Hp → Prop} (q : R ((σ.set i (some x)).set j (some y)) H) : ParE i j R σ [x, y] H := ⟨x, y, rfl, q⟩
theorem w_aug {ti : TIp} (e : σ[i]? = some (some x)) (h : te σ H fun y H1 => ti x y H1 fun z H2 => D.nx (σ.set i (some z)) H2) : tAug i te ti D σ H := ⟨x, e, h⟩
theorem w_ipI {f : Int → Int → Int} (h : Q (.int (f m n)) H) : ipI f (.int m) (.int n) H Q := ⟨m, n, rfl, rfl, h⟩
theorem w_fld (h : te σ H fun y H1 => ta σ H1 (FldP K f y (D.nx σ))) : sFld K ta te f D σ H := h
theorem w_fldP {R : Hp → Prop} {fs' : List (Str × V)} (h : H a = some (.ins C dx fs)) (c : Cls K C) (n : NoAttr K C f) (hl : fs.length < 1000) (e : putF f y fs = fs') (q : R (upd H a (.ins C dx fs'))) : FldP K f y R (.ref a) H := ⟨a, C, dx, fs, rfl, h, c, n, hl, by rw [e]; exact q⟩
theorem w_fldaug {rd : V → V → Hp → VK → Prop} (h : ta σ H fun x H1 => FldA K te rd f (D.nx σ) σ x H1) : sFldAug K ta te rd f D σ H := h
theorem w_fldA {rd : V → V → Hp → VK → Prop} {R : Hp → Prop} (h : H a = some (.ins C dx fs)) (c : Cls K C) (n : NoAttr K C f) (e : fs.lookup f = some v) (q : te σ H fun y H2 => rd v y H2 fun z H3 => FldQ C a f z R H3) : FldA K te rd f R σ (.ref a) H := ⟨a, C, dx, fs, v, rfl, h, c, n, e, q⟩
theorem w_fldQ {R : Hp → Prop} {fs' : List (Str × V)} {z : V} (h : H a = some (.ins C dx fs)) (hl : fs.length < 1000) (e : putF f z fs = fs') (q : R (upd H a (.ins C dx fs'))) : FldQ C a f z R H := ⟨dx, fs, h, hl, by rw [e]; exact q⟩
theorem w_rAdd (q : Q (.int (m + n)) H) : L2.rAdd (.int m) (.int n) H Q := ⟨m, n, rfl, rfl, q⟩
theorem w_rSub (q : Q (.int (m - n)) H) : L2.rSub (.int m) (.int n) H Q := ⟨m, n, rfl, rfl, q⟩
/-! expressions -/
theorem w_var (e : σ[i]? = some (some v)) (h : Q v H) : tVar i σ H Q := ⟨v, e, h⟩
theorem w_c (h : Q v H) : tC v σ H Q := h
theorem w_op (h : ta σ H fun x H1 => tb σ H1 fun y H2 => r x y H2 Q) : tOp r ta tb σ H Q := h
theorem w_un {r : V → Hp → VK → Prop} (h : ta σ H fun x H1 => r x H1 Q) : tUn r ta σ H Q := h
theorem w_I0 {g : Int → Int → V} (h : Q (g m n) H) : rI0 g (.int m) (.int n) H Q := ⟨m, n, rfl, rfl, h⟩
theorem w_I {P : Int → Int → Prop} {g : Int → Int → V} (c : P m n) (h : Q (g m n) H) : rI P g (.int m) (.int n) H Q := ⟨m, n, rfl, rfl, c, h⟩
theorem w_powW (c : CPowW m n) (h : Q (.int (m ^ n.toNat)) H) : rI CPowW (fun i j => .int (i ^ j.toNat)) (.int m) (.int n) H Q := ⟨m, n, rfl, rfl, c, h⟩
theorem w_U {g : Int → V} (h : Q (g m) H) : rU g (.int m) H Q := ⟨m, rfl, h⟩
theorem w_eq (c : scal x y = true) (h : Q (.bl (decide (x = y))) H) : rEq x y H Q := ⟨c, h⟩
theorem w_eqI (h : Q (.bl (decide (m = n))) H) : rEq (.int m) (.int n) H Q := ⟨rfl, by
  have e : decide (V.int m = V.int n) = decide (m = n) := by
    by_cases z : m = n
    · subst z
      rw [decide_eq_true rfl, decide_eq_true rfl]
    · rw [decide_eq_false z, decide_eq_false fun q => z (V.int.inj q)]
  rw [e]
  exact h⟩
theorem w_neI (h : Q (.bl (!decide (m = n))) H) : rNe (.int m) (.int n) H Q := ⟨rfl, by
  have e : decide (V.int m = V.int n) = decide (m = n) := by
    by_cases z : m = n
    · subst z
      rw [decide_eq_true rfl, decide_eq_true rfl]
    · rw [decide_eq_false z, decide_eq_false fun q => z (V.int.inj q)]
  rw [e]
  exact h⟩
theorem w_ne (c : scal x y = true) (h : Q (.bl (!decide (x = y))) H) : rNe x y H Q := ⟨c, h⟩
theorem w_ixL (h : SqL K H p xs) (ha : atI xs m = some v) (q : Q v H) : rIxL K (.ref p) (.int m) H Q := ⟨p, xs, m, v, rfl, rfl, h, ha, q⟩
theorem w_ixT (h : SqT K H p xs) (ha : atI xs m = some v) (q : Q v H) : rIxT K (.ref p) (.int m) H Q := ⟨p, xs, m, v, rfl, rfl, h, ha, q⟩
theorem w_sub {to ti : TE} {tq : TSet} {Q : L2.St → Hp → Prop} (h : to σ H fun o H1 => ti σ H1 fun i H2 => tq o i v H2 fun H3 => Q σ H3) : gSub to ti tq v σ H Q := h
theorem w_setL {j : Nat} {Q : Hp → Prop} (h : H p = some (.lst xs)) (e : ixN xs.length m = some j) (q : Q (upd H p (.lst (xs.set j v)))) : rSetL (.ref p) (.int m) v H Q := ⟨p, xs, m, j, rfl, rfl, h, e, q⟩
theorem w_nil (h : R [] H) : tNil σ H R := h
theorem w_cons (h : te σ H fun x H1 => tr σ H1 fun xs H2 => R (x :: xs) H2) : tCons te tr σ H R := h
theorem w_call {sp : Sp} {dvs : List V} {E : XK} (h : tA σ H fun vs H1 => sp (vs ++ dvs) H1 Q E) : tCall sp dvs E tA σ H Q := h
theorem w_CB {r : List V → Hp → VK → Prop} (h : tA σ H fun vs H1 => r vs H1 Q) : tCB r tA σ H Q := h
theorem w_lst (h : tA σ H fun xs H1 => xs.length ≤ sizeLine ∧ ∀ p, H1 p = none → Q (.ref p) (upd H1 p (.lst xs))) : tLst tA σ H Q := h
theorem w_tup (h : tA σ H fun xs H1 => xs.length ≤ sizeLine ∧ ∀ p, H1 p = none → Q (.ref p) (upd H1 p (.tup xs))) : tTup tA σ H Q := h
theorem w_tfld (h : ta σ H (FldG K f Q)) : tFld K ta f σ H Q := h
theorem w_fldG (h : H a = some (.ins C dx fs)) (c : Cls K C) (n : NoAttr K C f) (e : fs.lookup f = some v) (q : Q v H) : FldG K f Q (.ref a) H := ⟨a, C, dx, fs, v, rfl, h, c, n, e, q⟩
theorem w_meth {sp : Sp} {dvs : List V} {E : XK} (h : ta σ H (MethE C f sp dvs E tA σ Q)) : tMeth C f sp dvs E ta tA σ H Q := h
theorem w_methE {sp : Sp} {dvs : List V} {E : XK} (h : H a = some (.ins C dx fs)) (e : fs.lookup f = none) (q : tA σ H fun vs H2 => sp (.ref a :: (vs ++ dvs)) H2 Q E) : MethE C f sp dvs E tA σ Q (.ref a) H := ⟨a, dx, fs, rfl, h, e, q⟩
theorem w_prop {sp : Sp} {dvs : List V} {E : XK} (h : ta σ H (PropE C sp dvs E Q)) : tProp C sp dvs E ta σ H Q := h
theorem w_propE {sp : Sp} {dvs : List V} {E : XK} (h : H a = some (.ins C dx fs)) (q : sp (.ref a :: dvs) H Q E) : PropE C sp dvs E Q (.ref a) H := ⟨a, dx, fs, rfl, h, q⟩
theorem w_make {sp : Sp} {dvs : List V} {E : XK} (h : tA σ H fun vs H1 => ∀ x dx, H1 x = none → H1 dx = none → dx ≠ x → sp (.ref x :: (vs ++ dvs)) (upd (upd H1 dx (.own x)) x (.ins C dx [])) (fun v H2 => v = .non ∧ Q (.ref x) H2) E) : tMake C sp dvs E tA σ H Q := h
theorem w_if (h : c σ H fun b H1 => if b = true then ta σ H1 Q else tb σ H1 Q) : tIf c ta tb σ H Q := h
theorem w_bm {T : String} {r : V → List V → Hp → VK → Prop} (h : ta σ H fun x H1 => TyAnd K T x H1 (tA σ H1 fun xs H2 => r x xs H2 Q)) : tBM K T r ta tA σ H Q := h
theorem w_bm0 {T : String} {r : V → List V → Hp → VK → Prop} (h : ta σ H fun x H1 => TyAnd K T x H1 (r x [] H1 Q)) : tBM0 K T r ta σ H Q := h
theorem w_chain {r r' : R2} {tc : TE} (h : ta σ H fun x H1 => tb σ H1 fun y H2 => r x y H2 fun z H3 => ∃ k, z = .bl k ∧ (if k = true then tc σ H3 fun w' H4 => r' y w' H4 Q else Q (.bl false) H3)) : tChain r r' ta tb tc σ H Q := h
/-! tests -/
theorem w_test (h : te σ H fun x H' => ∃ k, x = .bl k ∧ B k H') : tTest te σ H B := h
theorem w_tB (h : te σ H fun x H' => ∃ k, x = .bl k ∧ B k H') : tB te σ H B := h
theorem w_exbl {b : Bool} {P : Bool → Prop} (h : P b) : ∃ k, V.bl b = V.bl k ∧ P k := ⟨b, rfl, h⟩
theorem w_not (h : t σ H fun b H' => B (!b) H') : tNot t σ H B := h
theorem w_and (h : t σ H fun b H1 => if b = true then u σ H1 B else B false H1) : tAnd t u σ H B := h
theorem w_or (h : t σ H fun b H1 => if b = true then B true H1 else u σ H1 B) : tOr t u σ H B := h
theorem w_ite {c A B : Prop} [Decidable c] (h1 : c → A) (h2 : ¬ c → B) : if decide c = true then A else B := by
  by_cases h : c
  · rw [if_pos (decide_eq_true h)]
    exact h1 h
  · rw [if_neg (by rw [decide_eq_false h]; decide)]
    exact h2 h
theorem w_iteN {c A B : Prop} [Decidable c] (h1 : ¬ c → A) (h2 : c → B) : if (!decide c) = true then A else B := by
  by_cases h : c
  · rw [if_neg (by rw [decide_eq_true h]; decide)]
    exact h2 h
  · rw [if_pos (by rw [decide_eq_false h]; rfl)]
    exact h1 h
theorem w_iteT {A B : Prop} (h : A) : if true = true then A else B := by rw [if_pos rfl]; exact h
theorem w_iteF {A B : Prop} (h : B) : if false = true then A else B := by rw [if_neg Bool.false_ne_true]; exact h
theorem w_iteNT {A B : Prop} (h : B) : if (!true) = true then A else B := by rw [if_neg (by decide)]; exact h
theorem w_iteNF {A B : Prop} (h : A) : if (!false) = true then A else B := by rw [if_pos (by decide)]; exact h
theorem w_iteP {c A B : Prop} [Decidable c] (hc : c) (h : A) : if decide c = true then A else B := w_ite (fun _ => h) fun n => absurd hc n
theorem w_iteQ {c A B : Prop} [Decidable c] (hc : ¬ c) (h : B) : if decide c = true then A else B := w_ite (fun n => absurd n hc) fun _ => h
theorem w_iteNP {c A B : Prop} [Decidable c] (hc : c) (h : B) : if (!decide c) = true then A else B := w_iteN (fun n => absurd hc n) fun _ => h
theorem w_iteNQ {c A B : Prop} [Decidable c] (hc : ¬ c) (h : A) : if (!decide c) = true then A else B := w_iteN (fun _ => h) fun n => absurd n hc
theorem w_iteB {b : Bool} {A B : Prop} (h1 : b = true → A) (h2 : b = false → B) : if b = true then A else B := by
  cases b with
  | true => exact w_iteT (h1 rfl)
  | false => exact w_iteF (h2 rfl)
end

/-! ### reads of lists -/
theorem atI_lt {α : Type} {xs : List α} {r : Int} (h0 : 0 ≤ r) (h1 : r < xs.length) : ∃ v, v ∈ xs ∧ atI xs r = some v ∧ xs[r.toNat]? = some v := by
  have hl : r.toNat < xs.length := by omega
  have e : xs[r.toNat]? = some xs[r.toNat] := List.getElem?_eq_getElem hl
  refine ⟨xs[r.toNat], List.getElem_mem hl, ?_, e⟩
  have q := atI_nat e
  have z : ((r.toNat : Nat) : Int) = r := Int.toNat_of_nonneg h0
  rw [z] at q
  exact q
theorem atI_ints {ns : List Int} {r : Int} (h0 : 0 ≤ r) (h1 : r < ns.length) : ∃ n, n ∈ ns ∧ atI (ns.map V.int) r = some (.int n) ∧ ns[r.toNat]? = some n := by
  obtain ⟨v, hv, e, e2⟩ := atI_lt (xs := ns.map V.int) h0 (by rw [List.length_map]; exact h1)
  rw [List.getElem?_map] at e2
  cases q : ns[r.toNat]? with
  | none =>
    rw [q] at e2
    cases e2
  | some n =>
    rw [q] at e2
    cases e2
    exact ⟨n, List.mem_of_getElem? q, e, rfl⟩
theorem map_at {ns : List Int} {i : Nat} {x : V} (h : (ns.map V.int)[i]? = some x) : ∃ n, ns[i]? = some n ∧ x = .int n := by
  rw [List.getElem?_map] at h
  cases e : ns[i]? with
  | none =>
    rw [e] at h
    cases h
  | some n =>
    rw [e] at h
    exact ⟨n, rfl, (Option.some.inj h).symm⟩
theorem map_at' {α : Type} {f : α → V} {ns : List α} {i : Nat} {x : V} (h : (ns.map f)[i]? = some x) : ∃ n, ns[i]? = some n ∧ x = f n := by
  rw [List.getElem?_map] at h
  cases e : ns[i]? with
  | none =>
    rw [e] at h
    cases h
  | some n =>
    rw [e] at h
    exact ⟨n, rfl, (Option.some.inj h).symm⟩
theorem map_snoc (f : Int → V) (ns : List Int) (n : Int) : ns.map f ++ [f n] = (ns ++ [n]).map f := by simp

/-- the ints of written items -/
def unV : List V → List Int
  | [] => []
  | .int i :: r => i :: unV r
  | _ :: r => unV r
section
variable {K : PySem.W.Frag} {H : Hp} {p : Addr} {xs : List V} {m : Int} {Q : VK} {ns : List Int}
theorem w_ixLi (h : SqL K H p xs) (e : xs = (unV xs).map V.int) (h0 : 0 ≤ m) (h1 : m < (unV xs).length) (q : ∀ n, n ∈ unV xs → Q (.int n) H) : rIxL K (.ref p) (.int m) H Q := by
  obtain ⟨n, hn, e2, _⟩ := atI_ints h0 h1
  rw [← e] at e2
  exact w_ixL h e2 (q n hn)
theorem w_ixTi (h : SqT K H p xs) (e : xs = (unV xs).map V.int) (h0 : 0 ≤ m) (h1 : m < (unV xs).length) (q : ∀ n, n ∈ unV xs → Q (.int n) H) : rIxT K (.ref p) (.int m) H Q := by
  obtain ⟨n, hn, e2, _⟩ := atI_ints h0 h1
  rw [← e] at e2
  exact w_ixT h e2 (q n hn)
theorem w_ixLm (h : SqL K H p (ns.map V.int)) (h0 : 0 ≤ m) (h1 : m < ns.length) (q : ∀ n, ns[m.toNat]? = some n → Q (.int n) H) : rIxL K (.ref p) (.int m) H Q := by
  obtain ⟨n, hn, e2, e3⟩ := atI_ints h0 h1
  exact w_ixL h e2 (q n e3)
theorem w_ixLast (h : SqL K H p (ns.map V.int)) (hne : ns ≠ []) (q : ∀ init x, ns = init ++ [x] → Q (.int x) H) : rIxL K (.ref p) (.int (-1)) H Q := by
  obtain ⟨init, x, e⟩ : ∃ init x, ns = init ++ [x] := by
    exact ⟨ns.dropLast, ns.getLast hne, (List.dropLast_concat_getLast hne).symm⟩
  subst e
  refine w_ixL h ?_ (q _ _ rfl)
  rw [List.map_append]
  exact atI_last _ _
theorem w_len {r : List V} (h : SqL K H p r) (q : Q (.int r.length) H) : rLen K [.ref p] H Q := ⟨_, _, rfl, .inl ⟨r, h, rfl⟩, q⟩
theorem w_lenI (h : SqL K H p (ns.map V.int)) (q : Q (.int ns.length) H) : rLen K [.ref p] H Q := w_len h (by rw [List.length_map]; exact q)
theorem w_append {y : V} (h : H p = some (.lst xs)) (hz : xs.length < sizeLine) (q : Q .non (upd H p (.lst (xs ++ [y])))) : rAppend (.ref p) [y] H Q := ⟨p, xs, y, rfl, rfl, h, hz, q⟩
theorem w_appendI {y : Int} (h : H p = some (.lst (ns.map V.int))) (hz : ns.length < 16777216) (q : Q .non (upd H p (.lst ((ns ++ [y]).map V.int)))) : rAppend (.ref p) [.int y] H Q :=
  ⟨p, _, _, rfl, rfl, h, szlt (by rw [List.length_map]; exact hz), by rw [map_snoc]; exact q⟩
theorem w_tyL {R : Prop} (h : H p = some (.lst xs)) (q : R) : TyAnd K "list" (.ref p) H R := ⟨.inl ⟨rfl, _, SqL.of h⟩, q⟩
theorem w_max2 {i j : Int} (q : Q (.int (if j > i then j else i)) H) : rMax2 [.int i, .int j] H Q := ⟨i, j, rfl, q⟩
theorem w_min2 {i j : Int} (q : Q (.int (if j < i then j else i)) H) : rMin2 [.int i, .int j] H Q := ⟨i, j, rfl, q⟩
theorem w_abs {i : Int} (q : Q (.int (if i < 0 then -i else i)) H) : rAbs [.int i] H Q := ⟨i, rfl, q⟩
theorem w_sum (h : SqL K H p (ns.map V.int)) (q : Q (.int ns.sum) H) : rSum K [.ref p] H Q := ⟨p, ns, rfl, h, q⟩
theorem w_maxL (h : SqL K H p (ns.map V.int)) (h0 : 0 < ns.length) (q : ∀ m, m ∈ ns → (∀ y, y ∈ ns → y ≤ m) → Q (.int m) H) : rMax K [.ref p] H Q := ⟨p, ns, rfl, h, h0, q⟩
theorem w_minL (h : SqL K H p (ns.map V.int)) (h0 : 0 < ns.length) (q : ∀ m, m ∈ ns → (∀ y, y ∈ ns → m ≤ y) → Q (.int m) H) : rMin K [.ref p] H Q := ⟨p, ns, rfl, h, h0, q⟩
theorem w_catI {q : Addr} {ms : List Int} (h1 : H p = some (.lst (ns.map V.int))) (h2 : H q = some (.lst (ms.map V.int))) (hz : ns.length + ms.length ≤ 16777216) (k : ∀ r, H r = none → Q (.ref r) (upd H r (.lst ((ns ++ ms).map V.int)))) : rCat (.ref p) (.ref q) H Q :=
  ⟨p, q, _, _, rfl, rfl, h1, h2, szle' (by rw [List.length_map, List.length_map]; exact hz), fun r hr => by rw [← List.map_append]; exact k r hr⟩
theorem w_ixAny (h : SqL K H p xs) (h0 : 0 ≤ m) (h1 : m < xs.length) (q : ∀ v, v ∈ xs → Q v H) : rIxL K (.ref p) (.int m) H Q := by
  obtain ⟨v, hv, e, _⟩ := atI_lt h0 h1
  exact w_ixL h e (q v hv)
theorem w_catIL {q : Addr} {ys : List V} (h1 : H p = some (.lst (ns.map V.int))) (h2 : H q = some (.lst ys)) (e : ys = (unV ys).map V.int) (hz : ns.length + (unV ys).length ≤ 16777216) (k : ∀ r, H r = none → Q (.ref r) (upd H r (.lst ((ns ++ unV ys).map V.int)))) : rCat (.ref p) (.ref q) H Q :=
  w_catI h1 (by rw [← e]; exact h2) hz k
theorem w_catLI {q : Addr} {ys : List V} (h1 : H p = some (.lst ys)) (h2 : H q = some (.lst (ns.map V.int))) (e : ys = (unV ys).map V.int) (hz : (unV ys).length + ns.length ≤ 16777216) (k : ∀ r, H r = none → Q (.ref r) (upd H r (.lst ((unV ys ++ ns).map V.int)))) : rCat (.ref p) (.ref q) H Q :=
  w_catI (by rw [← e]; exact h1) h2 hz k
theorem w_repI {k : Int} (h : H p = some (.lst (ns.map V.int))) (k1 : -(2 ^ 63) ≤ k) (k2 : k < 2 ^ 63) (hz : ns.length * k.toNat ≤ 16777216) (q : ∀ r, H r = none → Q (.ref r) (upd H r (.lst ((List.replicate k.toNat (ns.map V.int)).flatten)))) : rRep (.ref p) (.int k) H Q :=
  ⟨p, k, _, rfl, rfl, h, k1, k2, szle' (by rw [List.length_map]; exact hz), fun r hr => q r hr⟩
theorem w_intI {i : Int} (q : Q (.int i) H) : rInt1 [.int i] H Q := .inl ⟨i, rfl, q⟩
theorem w_intB {k : Bool} (q : Q (.int (if k then 1 else 0)) H) : rInt1 [.bl k] H Q := .inr ⟨k, rfl, q⟩
theorem w_strI {i : Int} (h : i.natAbs.log2 < 1920) (q : Q (.str (toString i)) H) : rStrI [.int i] H Q := ⟨i, rfl, h, q⟩
theorem w_listof (h : SqL K H p xs) (q : ∀ l, H l = none → Q (.ref l) (upd H l (.lst xs))) : rListOf K [.ref p] H Q := ⟨p, xs, rfl, .inl h, q⟩
end

theorem mem_snoc {α : Type} {P : α → Prop} {xs : List α} {y : α} (h : ∀ x ∈ xs, P x) (hy : P y) : ∀ x ∈ xs ++ [y], P x := fun x hx => by
  rcases List.mem_append.mp hx with z | z
  · exact h x z
  · rw [List.mem_singleton.mp z]
    exact hy
theorem len_snoc {α : Type} {xs : List α} {y : α} {i : Nat} (h : xs.length = i) : (xs ++ [y]).length = i + 1 := by simp [h]

/-! ### data -/
section
variable {K : PySem.W.Frag} {H : Hp}
theorem dpAll_ints : ∀ ns : List Int, DpAll K H (ns.map V.int) (ns.map PyData.int)
  | [] => .nil
  | n :: ns => .cons (.int n) (dpAll_ints ns)
theorem canLay_ints : ∀ ns : List Int, PyData.canLayAll0 (ns.map PyData.int) = true
  | [] => rfl
  | n :: ns => by
    have ih := canLay_ints ns
    simp only [List.map_cons, PyData.canLayAll0, PyData.canLay0, ih, Bool.and_self]
theorem depth_ints : ∀ ns : List Int, PyData.depthAll (ns.map PyData.int) ≤ 1
  | [] => by simp [PyData.depthAll]
  | n :: ns => by
    have ih := depth_ints ns
    simp only [List.map_cons, PyData.depthAll, PyData.depth]
    omega
theorem shaped_ints (ns : List Int) : SeqAt.shaped (.list (ns.map PyData.int)) = true := by
  unfold SeqAt.shaped
  have h1 : PyData.canLay0 (.list (ns.map PyData.int)) = true := by simp only [PyData.canLay0]; exact canLay_ints ns
  have h2 : PyData.depth (.list (ns.map PyData.int)) ≤ 64 := by
    have := depth_ints ns
    simp only [PyData.depth]
    omega
  rw [h1, decide_eq_true h2]
  rfl
theorem eqvAll_ints : ∀ ns ms : List Int, PyData.eqvAll (ns.map PyData.int) (ms.map PyData.int) = decide (ns = ms)
  | [], [] => by simp [PyData.eqvAll]
  | [], m :: ms => by simp [PyData.eqvAll]
  | n :: ns, [] => by simp [PyData.eqvAll]
  | n :: ns, m :: ms => by
    simp only [List.map_cons, PyData.eqvAll, PyData.eqv, eqvAll_ints ns ms]
    by_cases h : n = m
    · subst h
      by_cases h2 : ns = ms <;> simp [h2]
    · simp [h]
theorem eqv_ints (ns ms : List Int) : PyData.eqv (.list (ns.map PyData.int)) (.list (ms.map PyData.int)) = decide (ns = ms) := by
  simp only [PyData.eqv]
  exact eqvAll_ints ns ms
theorem dp_ints {p : Addr} {ns : List Int} (h : SqL K H p (ns.map V.int)) : Dp K H (.ref p) (.list (ns.map PyData.int)) := .lst h (dpAll_ints ns)
variable {p q : Addr} {ns ms : List Int} {Q : VK}
theorem w_eqLI (h1 : SqL K H p (ns.map V.int)) (h2 : SqL K H q (ms.map V.int)) (k : Q (.bl (decide (ns = ms))) H) : rEqD K (.ref p) (.ref q) H Q :=
  ⟨_, _, dp_ints h1, dp_ints h2, shaped_ints _, shaped_ints _, by rw [eqv_ints]; exact k⟩
theorem w_neLI (h1 : SqL K H p (ns.map V.int)) (h2 : SqL K H q (ms.map V.int)) (k : Q (.bl (!decide (ns = ms))) H) : rNeD K (.ref p) (.ref q) H Q :=
  ⟨_, _, dp_ints h1, dp_ints h2, shaped_ints _, shaped_ints _, by rw [eqv_ints]; exact k⟩
theorem w_eqNil (h1 : SqL K H p (ns.map V.int)) (h2 : SqL K H q []) (k : Q (.bl (decide (ns = []))) H) : rEqD K (.ref p) (.ref q) H Q := w_eqLI (ms := []) h1 h2 k
theorem w_neNil (h1 : SqL K H p (ns.map V.int)) (h2 : SqL K H q []) (k : Q (.bl (!decide (ns = []))) H) : rNeD K (.ref p) (.ref q) H Q := w_neLI (ms := []) h1 h2 k
end

/-! ### loops -/
def ForB (g : TG) (tb : TS) (D : Ends) (σ : L2.St) : It → Hp → Prop := fun J H1 => ∃ W : Nat → Nat → L2.St → Hp → Prop, (∃ m, W 0 m σ H1) ∧ ∀ i m σ H, W i m σ H →
  (J.stop i H ∧ D.nx σ H) ∨ (J.go i H ∧ ∃ N : L2.St → Hp → Prop, (∀ σ' H', N σ' H' → ∃ m', m' < m ∧ W (i + 1) m' σ' H') ∧ ∀ x H', J.yld i H x H' → g x σ H' fun σ2 H2 => tb { D with nx := N, ct := N, bk := D.nx } σ2 H2)
/-- y is appended to the new list at L, then N -/
def AppE (L : Addr) (N : Hp → Prop) : V → Hp → Prop := fun y H4 => ∃ acc, H4 L = some (.lst acc) ∧ acc.length < sizeLine ∧ N (upd H4 L (.lst (acc ++ [y])))
def LcB (g : TG) (tt : TT) (te : TE) (vs : List Nat) (σ : L2.St) (Q : VK) : It → Hp → Prop := fun J H1 => ∀ D, H1 D = none → ∃ W : Nat → Nat → Hp → Prop, (∃ m, W 0 m (upd H1 D (.lst []))) ∧ ∀ i m H, W i m H →
  (J.stop i H ∧ Q (.ref D) H) ∨ (J.go i H ∧ ∃ Nx : Hp → Prop, (∀ H', Nx H' → ∃ m', m' < m ∧ W (i + 1) m' H') ∧ ∀ x H', J.yld i H x H' → g x (wipe σ vs) H' fun σ2 H2 => wipe σ2 vs = wipe σ vs ∧ tt σ2 H2 fun b H3 =>
    if b = true then te σ2 H3 (AppE D Nx) else Nx H3)
section
variable {K : PySem.W.Frag} {σ : L2.St} {H : Hp} {D : Ends} {wi : TI} {g : TG} {tb : TS} {tt : TT} {te tl : TE} {ta : TA} {vs : List Nat} {Q : VK} {R : It → Hp → Prop} {a : Addr} {xs : List V} {lo j : Int} {n : Nat}
theorem w_for (h : wi σ H (ForB g tb D σ)) : tFor wi g tb D σ H := h
theorem w_lc (h : wi σ H (LcB g tt te vs σ Q)) : tLc wi g tt te vs σ H Q := h
def LstE (K : PySem.W.Frag) (R : It → Hp → Prop) : V → Hp → Prop := fun x H1 => ∃ a, x = .ref a ∧ (∃ xs, SqL K H1 a xs) ∧ R (Itl K a) H1
def Rng1E (R : It → Hp → Prop) : List V → Hp → Prop := fun vs H1 => ∃ j : Int, vs = [.int j] ∧ -(2 ^ 62) ≤ j ∧ j < 2 ^ 62 ∧ R (Itr 0 j.toNat) H1
def Rng2E (R : It → Hp → Prop) : List V → Hp → Prop := fun vs H1 => ∃ i j : Int, vs = [.int i, .int j] ∧ (-(2 ^ 62) ≤ i ∧ i < 2 ^ 62 ∧ -(2 ^ 62) ≤ j ∧ j < 2 ^ 62) ∧ R (Itr i (j - i).toNat) H1
theorem w_iList (h : tl σ H (LstE K R)) : iList K tl σ H R := h
theorem w_iListE (h : SqL K H a xs) (q : R (Itl K a) H) : LstE K R (.ref a) H := ⟨a, rfl, ⟨xs, h⟩, q⟩
theorem w_rng1 (h : ta σ H (Rng1E R)) : iRng1 ta σ H R := h
theorem w_rng1E (h1 : -(2 ^ 62) ≤ j) (h2 : j < 2 ^ 62) (q : R (Itr 0 j.toNat) H) : Rng1E R [.int j] H := ⟨j, rfl, h1, h2, q⟩
theorem w_rng2 (h : ta σ H (Rng2E R)) : iRng2 ta σ H R := h
theorem w_rng2E (h1 : -(2 ^ 62) ≤ lo ∧ lo < 2 ^ 62 ∧ -(2 ^ 62) ≤ j ∧ j < 2 ^ 62) (q : R (Itr lo (j - lo).toNat) H) : Rng2E R [.int lo, .int j] H := ⟨lo, j, rfl, h1, q⟩
theorem f_range (Pv : Nat → L2.St → Hp → Prop) (h0 : Pv 0 σ H) (hs : ∀ i σ H, i < n → Pv i σ H → g (.int (lo + i)) σ H fun σ2 H2 => tb { D with nx := Pv (i + 1), ct := Pv (i + 1), bk := D.nx } σ2 H2) (hd : ∀ σ H, Pv n σ H → D.nx σ H) :
    ForB g tb D σ (Itr lo n) H := for_range Pv h0 hs hd
theorem f_list (xs : List V) (Pv : Nat → L2.St → Hp → Prop) (h0 : Pv 0 σ H) (hl : ∀ i σ H, i ≤ xs.length → Pv i σ H → SqL K H a xs) (hs : ∀ i x σ H, xs[i]? = some x → Pv i σ H → g x σ H fun σ2 H2 => tb { D with nx := Pv (i + 1), ct := Pv (i + 1), bk := D.nx } σ2 H2) (hd : ∀ σ H, Pv xs.length σ H → D.nx σ H) :
    ForB g tb D σ (Itl K a) H := for_list Pv h0 hl hs hd
theorem f_tup (xs : List V) (Pv : Nat → L2.St → Hp → Prop) (h0 : Pv 0 σ H) (hl : ∀ i σ H, i ≤ xs.length → Pv i σ H → SqT K H a xs) (hs : ∀ i x σ H, xs[i]? = some x → Pv i σ H → g x σ H fun σ2 H2 => tb { D with nx := Pv (i + 1), ct := Pv (i + 1), bk := D.nx } σ2 H2) (hd : ∀ σ H, Pv xs.length σ H → D.nx σ H) :
    ForB g tb D σ (Itt K a) H := for_tup Pv h0 hl hs hd
/-- enumerate: each turn a new pair -/
theorem f_enum (xs : List V) (Pv : Nat → L2.St → Hp → Prop) (h0 : Pv 0 σ H) (hl : ∀ i σ H, i ≤ xs.length → Pv i σ H → SqL K H a xs)
    (hs : ∀ (i : Nat) (x : V) (T : Addr) (σ : L2.St) (H : Hp), xs[i]? = some x → Pv i σ H → H T = none → g (.ref T) σ (upd H T (.tup [.int (i : Nat), x])) fun σ2 H2 => tb { D with nx := Pv (i + 1), ct := Pv (i + 1), bk := D.nx } σ2 H2) (hd : ∀ σ H, Pv xs.length σ H → D.nx σ H) :
    ForB g tb D σ (Ite K a) H := by
  refine ⟨fun i m σ H => m = xs.length - i ∧ i ≤ xs.length ∧ Pv i σ H, ⟨xs.length, by simp, Nat.zero_le _, h0⟩, ?_⟩
  rintro i m σ H ⟨rfl, hi, p⟩
  have q := hl i σ H hi p
  by_cases hlt : i < xs.length
  · refine .inr ⟨⟨xs, xs[i], q, by simp [hlt]⟩, Pv (i + 1), fun σ' H' p' => ⟨xs.length - (i + 1), by omega, rfl, hlt, p'⟩, fun x H' y => ?_⟩
    obtain ⟨T, x', rfl, hT, rfl, f1⟩ := y
    exact hs i x' T σ H (f1 xs q) p hT
  · have e : i = xs.length := by omega
    subst e
    exact .inl ⟨⟨xs, q, Nat.le_refl _⟩, hd σ H p⟩
theorem f_zip {b : Addr} (xs ys : List V) (hl : xs.length = ys.length) (Pv : Nat → L2.St → Hp → Prop) (h0 : Pv 0 σ H) (hq : ∀ i σ H, Pv i σ H → SqL K H a xs ∧ SqL K H b ys)
    (hs : ∀ (i : Nat) (x y : V) (T : Addr) (σ : L2.St) (H : Hp), xs[i]? = some x → ys[i]? = some y → Pv i σ H → H T = none → g (.ref T) σ (upd H T (.tup [x, y])) fun σ2 H2 => tb { D with nx := Pv (i + 1), ct := Pv (i + 1), bk := D.nx } σ2 H2) (hd : ∀ σ H, Pv xs.length σ H → D.nx σ H) :
    ForB g tb D σ (Itz K a b) H := by
  refine ⟨fun i m σ H => m = xs.length - i ∧ i ≤ xs.length ∧ Pv i σ H, ⟨xs.length, rfl, Nat.zero_le _, h0⟩, ?_⟩
  rintro i m σ H ⟨rfl, hi, p⟩
  obtain ⟨qx, qy⟩ := hq i σ H p
  by_cases hlt : i < xs.length
  · have hx : xs[i]? = some xs[i] := List.getElem?_eq_getElem hlt
    have hlt2 : i < ys.length := by omega
    have hy : ys[i]? = some ys[i] := List.getElem?_eq_getElem hlt2
    refine .inr ⟨⟨xs, ys, _, _, qx, qy, hx, hy⟩, Pv (i + 1), fun σ' H' p' => ⟨xs.length - (i + 1), by omega, rfl, hlt, p'⟩, fun v H' y => ?_⟩
    obtain ⟨T, x', y', rfl, hT, rfl, f1, f2⟩ := y
    exact hs i x' y' T σ H (f1 xs qx) (f2 ys qy) p hT
  · have e : i = xs.length := by omega
    subst e
    exact .inl ⟨⟨xs, ys, qx, qy, Or.inl (Nat.le_refl _)⟩, hd σ H p⟩
def EnuE (K : PySem.W.Frag) (R : It → Hp → Prop) : List V → Hp → Prop := fun vs H1 => ∃ a xs, vs = [.ref a] ∧ SqL K H1 a xs ∧ R (Ite K a) H1
theorem w_enum (h : ta σ H (EnuE K R)) : iEnum K ta σ H R := h
theorem w_enumE (h : SqL K H a xs) (q : R (Ite K a) H) : EnuE K R [.ref a] H := ⟨a, xs, rfl, h, q⟩
def ZipE (K : PySem.W.Frag) (R : It → Hp → Prop) : List V → Hp → Prop := fun vs H1 => ∃ a b xs ys, vs = [.ref a, .ref b] ∧ SqL K H1 a xs ∧ SqL K H1 b ys ∧ R (Itz K a b) H1
theorem w_zip (h : ta σ H (ZipE K R)) : iZip K ta σ H R := h
theorem w_zipE {b : Addr} {ys : List V} (h : SqL K H a xs) (h2 : SqL K H b ys) (q : R (Itz K a b) H) : ZipE K R [.ref a, .ref b] H := ⟨a, b, xs, ys, rfl, h, h2, q⟩
theorem w_gTup {k : Nat} {t : TGs} {Q : L2.St → Hp → Prop} (h : SqT K H a xs) (e : xs.length = k) (q : t xs σ H Q) : gTup K k t (.ref a) σ H Q := ⟨a, xs, rfl, h, e, q⟩
theorem w_gLst {k : Nat} {t : TGs} {Q : L2.St → Hp → Prop} (h : SqL K H a xs) (e : xs.length = k) (q : t xs σ H Q) : gLst K k t (.ref a) σ H Q := ⟨a, xs, rfl, h, e, q⟩
theorem w_gNil {Q : L2.St → Hp → Prop} (q : Q σ H) : gNil [] σ H Q := ⟨rfl, q⟩
theorem w_gCons {v : V} {r : List V} {u : TGs} {Q : L2.St → Hp → Prop} (q : g v σ H fun σ' H' => u r σ' H' Q) : gCons g u (v :: r) σ H Q := ⟨v, r, rfl, q⟩
theorem l_range (Pv : Addr → Nat → Hp → Prop) (h0 : ∀ L, H L = none → Pv L 0 (upd H L (.lst []))) (hs : ∀ L i H', H L = none → i < n → Pv L i H' → g (.int (lo + i)) (wipe σ vs) H' fun σ2 H2 => wipe σ2 vs = wipe σ vs ∧ tt σ2 H2 fun b H3 => if b = true then te σ2 H3 (AppE L (Pv L (i + 1))) else Pv L (i + 1) H3)
    (hd : ∀ L H', H L = none → Pv L n H' → Q (.ref L) H') : LcB g tt te vs σ Q (Itr lo n) H := fun L hL => lc_range (Pv L) (h0 L hL) (fun i H' => hs L i H' hL) (fun H' => hd L H' hL)
theorem l_list (xs : List V) (Pv : Addr → Nat → Hp → Prop) (h0 : ∀ L, H L = none → Pv L 0 (upd H L (.lst []))) (hl : ∀ L i H', H L = none → i ≤ xs.length → Pv L i H' → SqL K H' a xs) (hs : ∀ L i x H', H L = none → xs[i]? = some x → Pv L i H' → g x (wipe σ vs) H' fun σ2 H2 => wipe σ2 vs = wipe σ vs ∧ tt σ2 H2 fun b H3 => if b = true then te σ2 H3 (AppE L (Pv L (i + 1))) else Pv L (i + 1) H3)
    (hd : ∀ L H', H L = none → Pv L xs.length H' → Q (.ref L) H') : LcB g tt te vs σ Q (Itl K a) H := fun L hL => lc_list (Pv L) (h0 L hL) (fun i H' => hl L i H' hL) (fun i x H' => hs L i x H' hL) (fun H' => hd L H' hL)
theorem w_tYes {B : Bool → Hp → Prop} (h : B true H) : tYes σ H B := h
theorem w_appE {L : Addr} {N : Hp → Prop} {ys : List V} {y : V} (h : H L = some (.lst ys)) (hz : ys.length < 16777216) (q : N (upd H L (.lst (ys ++ [y])))) : AppE L N y H := ⟨ys, h, szlt hz, q⟩
theorem w_appEI {L : Addr} {N : Hp → Prop} {ys : List Int} {m : Int} (h : H L = some (.lst (ys.map V.int))) (hz : ys.length < 16777216) (q : N (upd H L (.lst ((ys ++ [m]).map V.int)))) : AppE L N (.int m) H := ⟨_, h, by rw [List.length_map]; exact szlt hz, by rw [map_snoc]; exact q⟩
theorem w_appEB {L : Addr} {N : Hp → Prop} {ys : List Bool} {m : Bool} (h : H L = some (.lst (ys.map V.bl))) (hz : ys.length < 16777216) (q : N (upd H L (.lst ((ys ++ [m]).map V.bl)))) : AppE L N (.bl m) H := ⟨_, h, by rw [List.length_map]; exact szlt hz, by rw [show ys.map V.bl ++ [V.bl m] = (ys ++ [m]).map V.bl by simp]; exact q⟩
/-- [f n for n in ints], the element leaving all as it is: target in slot j -/
theorem l_map (ns : List Int) (f : Int → Int) {j : Nat} (hx : SqL K H a (ns.map V.int)) (hj : ∀ v, wipe ((wipe σ vs).set j (some v)) vs = wipe σ vs) (hz : ns.length ≤ 16777216)
    (he : ∀ (i : Nat) (n : Int) (H' : Hp), ns[i]? = some n → Fr [] H H' → ∀ Q : VK, (∀ H2, Fr [] H' H2 → Q (.int (f n)) H2) → te ((wipe σ vs).set j (some (.int n))) H' Q)
    (k : ∀ L H', H L = none → Fr [] H H' → H' L = some (.lst ((ns.map f).map V.int)) → Q (.ref L) H') : LcB (gName j) tYes te vs σ Q (Itl K a) H := by
  refine l_list (ns.map V.int) (fun L i H' => Fr [] H H' ∧ H' L = some (.lst (((ns.take i).map f).map V.int))) (fun L hL => ⟨Fr.refl.new hL, upd_same⟩) (fun L i H' hL _ h => h.1.seqL (by simp) hx) (fun L i x H' hL e h => ?_) (fun L H' hL h => ?_)
  · obtain ⟨n, en, rfl⟩ := map_at e
    obtain ⟨h1, h2⟩ := h
    refine w_gname ⟨hj _, w_tYes (w_iteT ?_)⟩
    refine he i n H' en h1 _ fun H2 f2 => ⟨_, f2.at0 h2, ?_, ((h1.trans f2).put (.inl hL)), ?_⟩
    · rw [List.length_map, List.length_map, List.length_take]
      have q := (List.getElem?_eq_some_iff.mp en).1
      exact szlt (by omega)
    · rw [upd_same]
      have q := List.take_succ (l := ns) (i := i)
      rw [en] at q
      rw [q]
      simp
  · have e : ns.take (ns.map V.int).length = ns := by rw [List.length_map]; exact List.take_length ..
    obtain ⟨h1, h2⟩ := h
    rw [e] at h2
    exact k L H' hL h1 h2
end

/-- calls by keywords -/
def KwE (n : Nat) (ix : List Nat) (sp : Sp) (Q : VK) : List V → Hp → Prop := fun zs H => zs.length = n ∧ sp (pick ix zs) H Q E0
def MkE (C : Addr) (n : Nat) (ix : List Nat) (sp : Sp) (Q : VK) : List V → Hp → Prop := fun zs H2 => ([] : List V).length = 0 ∧ zs.length = n ∧ ∀ x dx, H2 x = none → H2 dx = none → dx ≠ x →
  sp ([.ref x] ++ pick ix zs) (upd (upd H2 dx (.own x)) x (.ins C dx [])) (fun v H3 => v = .non ∧ Q (.ref x) H3) E0
def MkwE (n : Nat) (ix : List Nat) (sp : Sp) (Q : VK) (x : V) : List V → Hp → Prop := fun zs H => zs.length = n ∧ sp (x :: pick ix zs) H Q E0
def MethKE (C : Addr) (m : Str) (n : Nat) (ix : List Nat) (sp : Sp) (tk : TA) (σ : L2.St) (Q : VK) : V → Hp → Prop := fun x H1 => ∃ a dx fs, x = .ref a ∧ H1 a = some (.ins C dx fs) ∧ fs.lookup m = none ∧ tk σ H1 (MkwE n ix sp Q x)
section
variable {σ : L2.St} {H : Hp} {n : Nat} {ix : List Nat} {sp : Sp} {Q : VK} {tk : TA} {ta : TE} {zs : List V} {C a dx : Addr} {m : Str} {fs : List (Str × V)} {x : V}
theorem w_callK0 (h : tk σ H (KwE n ix sp Q)) : tCallK0 n ix sp tk σ H Q := h
theorem w_kwE (e : zs.length = n) (q : sp (pick ix zs) H Q E0) : KwE n ix sp Q zs H := ⟨e, q⟩
theorem w_makeK (h : tk σ H (MkE C n ix sp Q)) : tMakeK C 0 n sp (fun vs zs => vs ++ pick ix zs) E0 tNil tk σ H Q := h
theorem w_mkE (e : zs.length = n) (q : ∀ x dx, H x = none → H dx = none → dx ≠ x → sp ([.ref x] ++ pick ix zs) (upd (upd H dx (.own x)) x (.ins C dx [])) (fun v H3 => v = .non ∧ Q (.ref x) H3) E0) : MkE C n ix sp Q zs H := ⟨rfl, e, q⟩
theorem w_methK (h : ta σ H (MethKE C m n ix sp tk σ Q)) : tMethK0 C m n ix sp ta tk σ H Q := h
theorem w_methKE (h : H a = some (.ins C dx fs)) (e : fs.lookup m = none) (q : tk σ H (MkwE n ix sp Q (.ref a))) : MethKE C m n ix sp tk σ Q (.ref a) H := ⟨a, dx, fs, rfl, h, e, q⟩
theorem w_mkwE (e : zs.length = n) (q : sp (x :: pick ix zs) H Q E0) : MkwE n ix sp Q x zs H := ⟨e, q⟩
end
def LenSE (K : PySem.W.Frag) (Q : VK) : V → Hp → Prop := fun x H1 => ∃ (l : Addr) (ns : List Int), x = .ref l ∧ SqL K H1 l (ns.map V.int) ∧ ns.length ≤ 4000 ∧ Q (.int ((distinct ns).length : Nat)) H1
section
variable {K : PySem.W.Frag} {σ : L2.St} {H : Hp} {ta : TE} {Q : VK} {a : Addr} {ns : List Int} {b : Bool}
theorem w_lenSet (h : ta σ H (LenSE K Q)) : tLenSetJ K ta σ H Q := h
theorem w_lenSE (h : SqL K H a (ns.map V.int)) (hl : ns.length ≤ 4000) (q : Q (.int ((distinct ns).length : Nat)) H) : LenSE K Q (.ref a) H := ⟨a, ns, rfl, h, hl, q⟩
/-- isinstance by built-in classes -/
theorem w_isi {x : V} {n : String} {t : Value} (h : TyX K H x t) (e : PySem.W.kitOne K t (.type n) = some b) (q : Q (.bl b) H) : rIsi K [x, .ty n] H Q := ⟨x, .ty n, t, .type n, b, rfl, .ty n, h, e, q⟩
theorem tyx_lst {xs : List V} (h : H a = some (.lst xs)) : TyX K H (.ref a) (.type "list") := .base (.lst h)
theorem tyx_tup {xs : List V} (h : H a = some (.tup xs)) : TyX K H (.ref a) (.type "tuple") := .base (.tup h)
def SrtKE (K : PySem.W.Frag) (b : Bool) (Q : VK) : List V → List V → Hp → Prop := fun vs zs H => rSortedKw K b [.bl b] vs zs H Q
theorem w_sortKw {t tk : TA} {r : List V → List V → Hp → VK → Prop} (h : t σ H fun vs H1 => tk σ H1 fun zs H2 => r vs zs H2 Q) : tCKw r t tk σ H Q := h
theorem w_sortedKw (h : SqL K H a (ns.map V.int)) (q : ∀ (ns' : List Int) (p : Addr), ns'.Perm ns → OrdB b ns' → H p = none → Q (.ref p) (upd H p (.lst (ns'.map V.int)))) : rSortedKw K b [.bl b] [.ref a] [.bl b] H Q := ⟨a, ns, rfl, rfl, h, q⟩
theorem w_sortedI (h : SqL K H a (ns.map V.int)) (q : ∀ (ns' : List Int) (p : Addr), ns'.Perm ns → ns'.Pairwise (· ≤ ·) → H p = none → Q (.ref p) (upd H p (.lst (ns'.map V.int)))) : rSortedI K [.ref a] H Q := ⟨a, ns, rfl, h, q⟩
theorem w_extendI {q : Addr} {ms : List Int} (h1 : H a = some (.lst (ns.map V.int))) (h2 : H q = some (.lst (ms.map V.int))) (hz : ns.length + ms.length ≤ 16777216) (k : Q .non (upd H a (.lst ((ns ++ ms).map V.int)))) : rExtend (.ref a) [.ref q] H Q :=
  ⟨a, q, _, _, rfl, rfl, h1, h2, szle' (by rw [List.length_map, List.length_map]; exact hz), by rw [← List.map_append]; exact k⟩
/-- [m] * k -/
theorem w_rep1 {k m : Int} (h : H a = some (.lst [.int m])) (k1 : -(2 ^ 63) ≤ k) (k2 : k ≤ 16777216) (q : ∀ r, H r = none → Q (.ref r) (upd H r (.lst ((List.replicate k.toNat m).map V.int)))) : rRep (.ref a) (.int k) H Q := by
  refine ⟨a, k, _, rfl, rfl, h, k1, Int.lt_of_le_of_lt k2 (by decide), szle' (by simp; omega), fun r hr => ?_⟩
  have e : (List.replicate k.toNat [V.int m]).flatten = (List.replicate k.toNat m).map V.int := by
    rw [List.map_replicate]
    generalize k.toNat = j
    induction j with
    | zero => rfl
    | succ j ih => rw [List.replicate_succ, List.flatten_cons, ih, List.replicate_succ]; rfl
  rw [e]
  exact q r hr
end
section
variable {σ : L2.St} {H : Hp} {c : TT} {tb : TS} {D : Ends}
def WhT (W : Nat → L2.St → Hp → Prop) (m : Nat) (tb : TS) (D : Ends) (σ : L2.St) (H1 : Hp) : Prop := ∃ N : L2.St → Hp → Prop, (∀ σ' H', N σ' H' → ∃ m', m' < m ∧ W m' σ' H') ∧ tb { D with nx := N, ct := N, bk := D.nx } σ H1
theorem w_while (W : Nat → L2.St → Hp → Prop) (m0 : Nat) (h0 : W m0 σ H) (hs : ∀ m σ H, W m σ H → c σ H fun b H1 => if b = true then WhT W m tb D σ H1 else D.nx σ H1) : tWhile c tb D σ H := ⟨W, ⟨m0, h0⟩, hs⟩
theorem w_whT {W : Nat → L2.St → Hp → Prop} {m : Nat} (q : tb { D with nx := fun σ' H' => ∃ m', m' < m ∧ W m' σ' H', ct := fun σ' H' => ∃ m', m' < m ∧ W m' σ' H', bk := D.nx } σ H) : WhT W m tb D σ H := ⟨_, fun _ _ h => h, q⟩
end
/-! ### joins, dicts -/
section
variable {K : PySem.W.Frag} {σ : L2.St} {H : Hp} {D : Ends} {c : TT} {t1 t2 : TS} {td ty tv ta tb te : TE} {Q : VK} {a g : Addr} {kvs kvs' : List (Key × V)} {k : Str} {v x y : V} {R : Hp → Prop} {S S' : List Addr} {H1 H2 : Hp}
/-- one continuation for both branches: I holds at their ends -/
theorem w_ifJ (I : L2.St → Hp → Prop) (h : ∀ N : L2.St → Hp → Prop, (∀ σ H, I σ H → N σ H) → tIfS c t1 t2 { D with nx := N } σ H) (k : ∀ σ H, I σ H → D.nx σ H) : tIfS c t1 t2 D σ H := h D.nx k
def DGE (x : V) (Q : VK) : V → Hp → Prop := fun y H2 => ∃ a v, x = .ref a ∧ DGet H2 a y (some v) ∧ Q v H2
theorem w_dget (h : td σ H fun x H1 => ty σ H1 (DGE x Q)) : tDGet td ty σ H Q := h
theorem w_dgetE (h : H a = some (.dK kvs)) (e : valV kvs (.inr k) = some v) (q : Q v H) : DGE (.ref a) Q (.str k) H := ⟨a, v, rfl, by rw [← e]; exact DGet.k (k := .inr k) h, q⟩
def DPE (x : V) (v : V) (R : Hp → Prop) : V → Hp → Prop := fun y H3 => ∃ a H4, x = .ref a ∧ DPut H3 a y v H4 ∧ R H4
theorem w_dput (h : tv σ H fun v H1 => td σ H1 fun x H2 => ty σ H2 (DPE x v (D.nx σ))) : sDPut td ty tv D σ H := h
theorem w_dputE (h : H a = some (.dK kvs)) (hl : kvs.length < 16777216) (e : putK kvs (.inr k) v = kvs') (q : R (upd H a (.dK kvs'))) : DPE (.ref a) v R (.str k) H := ⟨a, _, rfl, DPut.k (k := .inr k) h (szlt hl), by rw [e]; exact q⟩
def DAE (tv : TE) (rd : V → V → Hp → VK → Prop) (R : Hp → Prop) (σ : L2.St) (x : V) : V → Hp → Prop := fun y H2 => ∃ a v, x = .ref a ∧ DGet H2 a y (some v) ∧ tv σ H2 fun y2 H3 => rd v y2 H3 fun z H4 => ∃ H5, DPut H4 a y z H5 ∧ R H5
theorem w_daug {rd : V → V → Hp → VK → Prop} (h : td σ H fun x H1 => ty σ H1 (DAE tv rd (D.nx σ) σ x)) : sDAug td ty tv rd D σ H := h
theorem w_daugE {rd : V → V → Hp → VK → Prop} (h : H a = some (.dK kvs)) (e : valV kvs (.inr k) = some v) (q : tv σ H fun y2 H3 => rd v y2 H3 fun z H4 => DPE (.ref a) z R (.str k) H4) : DAE tv rd R σ (.ref a) (.str k) H := by
  refine ⟨a, v, rfl, by rw [← e]; exact DGet.k (k := .inr k) h, ?_⟩
  have e2 : (fun (y2 : V) (H3 : Hp) => rd v y2 H3 fun z H4 => DPE (.ref a) z R (.str k) H4) = fun y2 H3 => rd v y2 H3 fun z H4 => ∃ H5, DPut H4 a (.str k) z H5 ∧ R H5 := by
    funext y2 H3
    congr 1
    funext z H4
    exact propext ⟨fun ⟨b, H5, e, p, r⟩ => by cases e; exact ⟨H5, p, r⟩, fun ⟨H5, p, r⟩ => ⟨a, H5, rfl, p, r⟩⟩
  rw [← e2]
  exact q
def keysOf : List (V × V) → List (Key × V)
  | [] => []
  | (.str s, v) :: r => (.inr s, v) :: keysOf r
  | _ :: r => keysOf r
def DspE (p : Addr) (Q : VK) : List (V × V) → Hp → Prop := fun ps H2 => H2 p = some (.dK []) ∧ ∃ kvs : List (Key × V), ps = kvs.map (fun kv => (kV kv.1, kv.2)) ∧ kvs.length ≤ 15 ∧ Q (.ref p) (upd H2 p (.dK (mergeK [] kvs)))
theorem w_disp {trs : List (TE × TE)} (h : ∀ p, H p = none → tPairs trs σ (upd H p (.dK [])) (DspE p Q)) : tDisp trs σ H Q := h
theorem w_pairN {R : List (V × V) → Hp → Prop} (h : R [] H) : tPairs [] σ H R := h
theorem w_pairC {tk tv : TE} {trs : List (TE × TE)} {R : List (V × V) → Hp → Prop} (h : tk σ H fun x H1 => tv σ H1 fun y H2 => tPairs trs σ H2 fun ps H3 => R ((x, y) :: ps) H3) : tPairs ((tk, tv) :: trs) σ H R := h
theorem valV_ne {p : Key × V} {r : List (Key × V)} {k : Key} (e : ¬ p.1 = k) : valV (p :: r) k = valV r k := valV_neg e
theorem mergeK_go : ∀ (more acc : List (Key × V)), (acc.map (·.1) ++ more.map (·.1)).Nodup → mergeK acc more = acc ++ more
  | [], acc, _ => by simp [mergeK]
  | p :: r, acc, h => by
    have hp : valV acc p.1 = none := by
      cases e : valV acc p.1 with
      | none => rfl
      | some z =>
        have e2 := valV_any p.1 acc
        rw [e] at e2
        obtain ⟨q, hq, hq2⟩ := List.any_eq_true.mp (show (acc.any fun kv => decide (kv.1 = p.1)) = true from e2)
        have hq3 := of_decide_eq_true hq2
        have := (List.nodup_append.mp h).2.2 q.1 (List.mem_map.mpr ⟨q, hq, rfl⟩) p.1 (by simp)
        exact absurd hq3 this
    have e : mergeK acc (p :: r) = mergeK (putK acc p.1 p.2) r := rfl
    rw [e, putK_new _ hp, mergeK_go r (acc ++ [(p.1, p.2)]) (by simpa using h)]
    simp
theorem w_dspE {p : Addr} {ps : List (V × V)} (h : H p = some (.dK [])) (e : ps = (keysOf ps).map fun kv => (kV kv.1, kv.2)) (hl : (keysOf ps).length ≤ 15) (n : ((keysOf ps).map (·.1)).Nodup) (q : Q (.ref p) (upd H p (.dK (keysOf ps)))) : DspE p Q ps H := by
  refine ⟨h, keysOf ps, e, hl, ?_⟩
  rw [mergeK_go _ [] (by simpa using n)]
  exact q
theorem mem2a {a g : Addr} : a ∈ [a, g] := by simp
theorem mem2b {a g : Addr} : g ∈ [a, g] := by simp
theorem nn3 {b a g : Addr} (h1 : b ≠ a) (h2 : b ≠ g) : b ∉ [a, g] := by simp [h1, h2]
theorem _root_.Pg.Fr.loc2 {p q : Addr} (h : Fr S H H1) (n : H p = none) (m : H q = none) (h' : Fr [p, q] H1 H2) : Fr S H H2 := fun b o z e => by
  refine h' b o (nn3 ?_ ?_) (h b o z e)
  · intro q
    rw [q, n] at e
    cases e
  · intro q
    rw [q, m] at e
    cases e
/-! ### pop, repr, texts of ints -/
theorem w_pop0 {ns : List Int} {m : Int} (h : H a = some (.lst ((m :: ns).map V.int))) (q : Q (.int m) (upd H a (.lst (ns.map V.int)))) : rPopAt (.ref a) [.int 0] H Q := by
  refine ⟨a, _, 0, 0, .int m, rfl, rfl, h, by decide, by decide, ?_, rfl, q⟩
  simp [seqIndex?]
end
def rReprI : List V → Hp → VK → Prop := fun xs H Q => ∃ i, xs = [.int i] ∧ i.natAbs.log2 < 1920 ∧ Q (.str (toString i)) H
theorem call_reprI {X : Cx} : CallR X (.builtin "repr") rReprI := SkE.call_repr_int
theorem w_reprI {i : Int} {H : Hp} {Q : VK} (h : i.natAbs.log2 < 1920) (q : Q (.str (toString i)) H) : rReprI [.int i] H Q := ⟨i, rfl, h, q⟩
theorem log_lt {i : Int} (h : i.natAbs < 2 ^ 250) : i.natAbs.log2 < 1920 := Nat.lt_of_lt_of_le (PySem.Flt.log2_lt_of (by decide) h) (by decide)
theorem w_eqS {s t : Str} {H : Hp} {Q : VK} (q : Q (.bl (decide (s = t))) H) : rEq (.str s) (.str t) H Q := ⟨rfl, by
  have e : decide (V.str s = V.str t) = decide (s = t) := by
    by_cases z : s = t
    · subst z
      rw [decide_eq_true rfl, decide_eq_true rfl]
    · rw [decide_eq_false z, decide_eq_false fun q => z (V.str.inj q)]
  rw [e]
  exact q⟩
theorem w_neS {s t : Str} {H : Hp} {Q : VK} (q : Q (.bl (!decide (s = t))) H) : rNe (.str s) (.str t) H Q := ⟨rfl, by
  have e : decide (V.str s = V.str t) = decide (s = t) := by
    by_cases z : s = t
    · subst z
      rw [decide_eq_true rfl, decide_eq_true rfl]
    · rw [decide_eq_false z, decide_eq_false fun q => z (V.str.inj q)]
  rw [e]
  exact q⟩
/-! ### slices, counts, pops -/
def cutI (ns : List Int) (lo hi : Option Int) : List Int := (ns.drop (HT.sIx ns.length 0 lo)).take (HT.sIx ns.length ns.length hi - HT.sIx ns.length 0 lo)
theorem cutV_ints (ns : List Int) (lo hi : Option Int) : cutV (ns.map V.int) lo hi = (cutI ns lo hi).map V.int := by
  unfold cutV cutI
  rw [List.length_map, List.map_take, List.map_drop]
theorem cutI_mem {ns : List Int} {lo hi : Option Int} {x : Int} (h : x ∈ cutI ns lo hi) : x ∈ ns := List.mem_of_mem_drop (List.mem_of_mem_take h)
theorem cutI_len (ns : List Int) (lo hi : Option Int) : (cutI ns lo hi).length ≤ ns.length := by
  unfold cutI
  rw [List.length_take, List.length_drop]
  omega
theorem cutI_take (ns : List Int) (n : Nat) : cutI ns none (some (n : Int)) = ns.take n := by
  unfold cutI
  rw [HT.sIx_nat, HT.sIx_none, List.drop_zero, Nat.sub_zero]
  by_cases h : n ≤ ns.length
  · rw [Nat.min_eq_left h]
  · rw [Nat.min_eq_right (by omega), List.take_length, List.take_of_length_le (by omega)]
theorem cutI_drop (ns : List Int) (n : Nat) : cutI ns (some (n : Int)) none = ns.drop n := by
  unfold cutI
  rw [HT.sIx_nat, HT.sIx_none]
  by_cases h : n ≤ ns.length
  · rw [Nat.min_eq_left h, List.take_of_length_le (by rw [List.length_drop]; omega)]
  · rw [Nat.min_eq_right (by omega), List.drop_length, List.drop_of_length_le (by omega)]
    simp
def PartE (R : Option Int → Hp → Prop) : V → Hp → Prop := fun x H1 => ∃ i, x = .int i ∧ R (some i) H1
section
variable {K : PySem.W.Frag} {σ : L2.St} {H : Hp} {ta tb te : TE} {Q : VK} {a p : Addr} {ns ms : List Int} {xs ys : List V} {m n : Int} {v x y : V} {tl th : TO}
theorem w_sl {r : V → Option Int → Option Int → Hp → VK → Prop} (h : te σ H fun x H1 => tl σ H1 fun l H2 => th σ H2 fun u H3 => r x l u H3 Q) : tSl r te tl th σ H Q := h
theorem w_noPart {R : Option Int → Hp → Prop} (h : R none H) : tNoPart σ H R := h
theorem w_part {R : Option Int → Hp → Prop} (h : te σ H (PartE R)) : tPart te σ H R := h
theorem w_partE {R : Option Int → Hp → Prop} (h : R (some m) H) : PartE R (.int m) H := ⟨m, rfl, h⟩
theorem w_slI {lo hi : Option Int} (h : SqL K H a (ns.map V.int)) (q : ∀ p, H p = none → Q (.ref p) (upd H p (.lst ((cutI ns lo hi).map V.int)))) : rSlL K (.ref a) lo hi H Q := ⟨a, _, rfl, h, fun p hp => by rw [cutV_ints]; exact q p hp⟩
theorem w_lcount (h : SqL K H a (ns.map V.int)) (q : Q (.int (ns.count m : Nat)) H) : rCntI K (.ref a) [.int m] H Q := ⟨a, ns, m, rfl, rfl, h, q⟩
theorem w_popAt (h : H a = some (.lst (ns.map V.int))) (h0 : 0 ≤ m) (h1 : m < ns.length) (hz : ns.length ≤ 16777216) (q : ∀ n, ns[m.toNat]? = some n → Q (.int n) (upd H a (.lst ((ns.eraseIdx m.toNat).map V.int)))) : rPopAt (.ref a) [.int m] H Q := by
  obtain ⟨n, hn, e2, e3⟩ := atI_ints h0 h1
  refine ⟨a, _, m, m.toNat, .int n, rfl, rfl, h, by omega, by omega, ?_, by rw [List.getElem?_map, e3]; rfl, by rw [erase_mapI]; exact q n e3⟩
  have hneg : ¬ m < 0 := by omega
  simp only [seqIndex?, List.length_map, hneg, if_false]
  rw [if_pos]
  simp only [Bool.and_eq_true, decide_eq_true_eq]
  omega
theorem w_setLI {Q : Hp → Prop} (h : H p = some (.lst (ns.map V.int))) (h0 : 0 ≤ m) (h1 : m < ns.length) (q : Q (upd H p (.lst ((ns.set m.toNat n).map V.int)))) : rSetL (.ref p) (.int m) (.int n) H Q := by
  refine ⟨p, _, m, m.toNat, rfl, rfl, h, ?_, by rw [← List.map_set]; exact q⟩
  rw [List.length_map]
  have z : ((m.toNat : Nat) : Int) = m := Int.toNat_of_nonneg h0
  unfold ixN
  rw [if_pos h0, if_pos h1]
theorem w_catLL {q : Addr} (h1 : H p = some (.lst xs)) (h2 : H q = some (.lst ys)) (e : xs = (unV xs).map V.int) (e2 : ys = (unV ys).map V.int) (hz : (unV xs).length + (unV ys).length ≤ 16777216) (k : ∀ r, H r = none → Q (.ref r) (upd H r (.lst ((unV xs ++ unV ys).map V.int)))) : rCat (.ref p) (.ref q) H Q :=
  w_catI (by rw [← e]; exact h1) (by rw [← e2]; exact h2) hz k
theorem w_isN (q : Q (.bl (decide (x = .non))) H) : rIsN x .non H Q := ⟨rfl, q⟩
theorem w_notN (q : Q (.bl (!decide (x = .non))) H) : rNotN x .non H Q := ⟨rfl, q⟩
theorem w_isNN (q : Q (.bl true) H) : rIsN .non .non H Q := ⟨rfl, q⟩
theorem w_isNI (q : Q (.bl false) H) : rIsN (.int m) .non H Q := ⟨rfl, q⟩
theorem w_isNR (q : Q (.bl false) H) : rIsN (.ref a) .non H Q := ⟨rfl, q⟩
theorem w_notNN (q : Q (.bl false) H) : rNotN .non .non H Q := ⟨rfl, q⟩
theorem w_notNI (q : Q (.bl true) H) : rNotN (.int m) .non H Q := ⟨rfl, q⟩
theorem w_notNR (q : Q (.bl true) H) : rNotN (.ref a) .non H Q := ⟨rfl, q⟩
def OrE (K : PySem.W.Frag) (tb : TE) (σ : L2.St) (Q : VK) : V → Hp → Prop := fun x H1 => ∃ k, TruV K x H1 k ∧ if k = true then Q x H1 else tb σ H1 Q
theorem w_orT (h : ta σ H (OrE K tb σ Q)) : tOrT K ta tb σ H Q := h
theorem w_orN (h : tb σ H Q) : OrE K tb σ Q .non H := ⟨false, rfl, w_iteF h⟩
theorem w_orI (h0 : m ≠ 0) (h : Q (.int m) H) : OrE K tb σ Q (.int m) H := ⟨true, by show true = _; simp [h0], w_iteT h⟩
theorem w_appV (h : H p = some (.lst xs)) (hz : xs.length < 16777216) (q : Q .non (upd H p (.lst (xs ++ [y])))) : rAppend (.ref p) [y] H Q := w_append h (szlt hz) q
theorem w_rep3 (h : H a = some (.lst [v])) (q : ∀ r, H r = none → Q (.ref r) (upd H r (.lst [v, v, v]))) : rRep (.ref a) (.int 3) H Q :=
  ⟨a, 3, _, rfl, rfl, h, by decide, by decide, szle rfl, fun r hr => q r hr⟩
end
theorem cmulW {i j : Int} {a b : Nat} (ha : i.natAbs < 2 ^ a) (hb : j.natAbs < 2 ^ b) (h : a + b < 1000000) (ha0 : 0 < a) (hb0 : 0 < b) : CMulW i j := by
  have h1 := PySem.Flt.log2_lt_of ha0 ha
  have h2 := PySem.Flt.log2_lt_of hb0 hb
  show i.natAbs.log2 + j.natAbs.log2 < 1000000
  omega
section
variable {σ : L2.St} {H : Hp} {ta tb : TE} {Q : VK} {b : Bool}
theorem w_andV (h : ta σ H fun x H1 => ∃ c, x = .bl c ∧ if c = true then tb σ H1 Q else Q (.bl false) H1) : tAndV ta tb σ H Q := h
theorem w_orV (h : ta σ H fun x H1 => ∃ c, x = .bl c ∧ if c = true then Q (.bl true) H1 else tb σ H1 Q) : tOrV ta tb σ H Q := h
theorem w_notV (h : ta σ H fun x H1 => ∃ c, x = .bl c ∧ Q (.bl (!c)) H1) : tNotV ta σ H Q := h
end
/-! ### range(i, j, -1), slices with a step -/
def Rng3E (R : It → Hp → Prop) : List V → Hp → Prop := fun vs H1 => ∃ (i j c : Int) (n : Nat), vs = [.int i, .int j, .int c] ∧ RgC i j c n ∧ R (Itc i c n) H1
section
variable {K : PySem.W.Frag} {σ : L2.St} {H : Hp} {D : Ends} {ta : TA} {R : It → Hp → Prop} {g : TG} {tb : TS} {te : TE} {tl ts : TO} {Q : VK} {a : Addr} {ns : List Int} {n : Nat} {i c : Int} {lo st : Option Int} {x : V}
theorem w_rng3 (h : ta σ H (Rng3E R)) : iRng3 ta σ H R := h
theorem f_rangeC (Pv : Nat → L2.St → Hp → Prop) (h0 : Pv 0 σ H) (hs : ∀ k σ H, k < n → Pv k σ H → g (.int (i + (k : Nat) * c)) σ H fun σ2 H2 => tb { D with nx := Pv (k + 1), ct := Pv (k + 1), bk := D.nx } σ2 H2) (hd : ∀ σ H, Pv n σ H → D.nx σ H) :
    ForB g tb D σ (Itc i c n) H := for_rangeC Pv h0 hs hd
def SlsE (K : PySem.W.Frag) (Q : VK) (x : V) (lo : Option Int) : Option Int → Hp → Prop := fun st H3 => ∃ a xs, x = .ref a ∧ SqL K H3 a xs ∧ st ≠ some 0 ∧ (pickSl xs lo st).length ≤ sizeLine ∧ ∀ p, H3 p = none → Q (.ref p) (upd H3 p (.lst (pickSl xs lo st)))
theorem w_sls (h : te σ H fun x H1 => tl σ H1 fun lo H2 => ts σ H2 (SlsE K Q x lo)) : tSlStep K te tl ts σ H Q := h
theorem pickSl_map (ns : List Int) : pickSl (ns.map V.int) lo st = (pickSl ns lo st).map V.int := by
  unfold pickSl
  rw [List.length_map, List.map_filterMap]
  congr 1
  funext k
  rw [List.getElem?_map]
theorem w_slsE (h : SqL K H a (ns.map V.int)) (h0 : st ≠ some 0) (hz : (pickSl ns lo st).length ≤ 16777216) (q : ∀ p, H p = none → Q (.ref p) (upd H p (.lst ((pickSl ns lo st).map V.int)))) : SlsE K Q (.ref a) lo st H :=
  ⟨a, _, rfl, h, h0, by rw [pickSl_map, List.length_map]; exact szle' hz, fun p hp => by rw [pickSl_map]; exact q p hp⟩
end
theorem w_rng3N {H : Hp} {R : It → Hp → Prop} {i j : Int} (h : -(2 ^ 62) ≤ i ∧ i < 2 ^ 62 ∧ -(2 ^ 62) ≤ j ∧ j < 2 ^ 62) (q : R (Itc i (-1) (i - j).toNat) H) : Rng3E R [.int i, .int j, .int (-1)] H :=
  ⟨i, j, -1, _, rfl, RgC.neg h.1 h.2.1 h.2.2.1 h.2.2.2, q⟩
theorem w_appendR {H : Hp} {Q : VK} {p y : Addr} {ps : List Addr} (h : H p = some (.lst (ps.map V.ref))) (hz : ps.length < 16777216) (q : Q .non (upd H p (.lst ((ps ++ [y]).map V.ref)))) : rAppend (.ref p) [.ref y] H Q :=
  w_append h (by rw [List.length_map]; exact szlt hz) (by rw [show ps.map V.ref ++ [V.ref y] = (ps ++ [y]).map V.ref by simp]; exact q)
section
variable {K : PySem.W.Frag} {σ : L2.St} {H : Hp} {te : TE} {Q : VK} {a : Addr} {ns : List Int}
def RevE (K : PySem.W.Frag) (Q : VK) : V → Hp → Prop := fun x H1 => ∃ a xs, x = .ref a ∧ SqL K H1 a xs ∧ ∀ p, H1 p = none → Q (.ref p) (upd H1 p (.lst xs.reverse))
theorem w_revL (h : te σ H (RevE K Q)) : tRevL K te σ H Q := h
theorem w_revE (h : SqL K H a (ns.map V.int)) (q : ∀ p, H p = none → Q (.ref p) (upd H p (.lst (ns.reverse.map V.int)))) : RevE K Q (.ref a) H := ⟨a, _, rfl, h, fun p hp => by rw [← List.map_reverse]; exact q p hp⟩
end
theorem w_whileJ {c : TT} {tb : TS} {D : Ends} {σ : L2.St} {H : Hp} (I : L2.St → Hp → Prop) (h : ∀ N : L2.St → Hp → Prop, (∀ σ H, I σ H → N σ H) → tWhile c tb { D with nx := N } σ H) (k : ∀ σ H, I σ H → D.nx σ H) : tWhile c tb D σ H := h D.nx k
theorem w_appER {L R : Addr} {N : Hp → Prop} {rs : List Addr} {H : Hp} (h : H L = some (.lst (rs.map V.ref))) (hz : rs.length < 16777216) (q : N (upd H L (.lst ((rs ++ [R]).map V.ref)))) : AppE L N (.ref R) H := ⟨_, h, by rw [List.length_map]; exact szlt hz, by rw [show rs.map V.ref ++ [V.ref R] = (rs ++ [R]).map V.ref by simp]; exact q⟩
end Pg

namespace Pg
open PySem PySem.Spec PyProof.Rows L2
/-! ### defs that are run where no repr is under way -/
structure FnG (P : Program) (w : World) (K : PySem.W.Frag) (mg : Str → Option Value) (base : Heap) (k : Nat) (f : Addr) (fd : FuncData) (ps : List Str) (sp : Sp) : Prop where
  len : ∀ vs H Q E, sp vs H Q E → vs.length = ps.length
  run : ∀ (A : Around) (outer : List Env) (s : Shared) (H : Hp) (args : Args) (us : List Value) (vs : List V) (Q : VK) (E : XK), Room k A → A.guards = some [] → Env0 P w K mg base A outer s H →
    BindsTo s fd args (ps.zip us) → Vals vs us → sp vs H Q E → codeAny (model P w) A (.call (.ref f) args) (CR CX0 outer P w H s Q E) s
structure GefAt (P : Program) (w : World) (K : PySem.W.Frag) (mg : Str → Option Value) (base : Heap) (x : Str) (st : Stmt) (k : Nat) (ps : List Str) (sp : Sp) : Prop where
  ex : ∃ f fd, mg x = some (.ref f) ∧ Fun K x x st f fd ∧ FnG P w K mg base k f fd ps sp ∧ Binds K fd ps []
section
variable {P : Program} {w : World} {K : PySem.W.Frag} {mg : Str → Option Value} {base : Heap} {x : Str} {st : Stmt} {k : Nat} {ps N : List Str} {sp : Sp}
theorem CE.of_inv {qual : Str} {scope : Scope} {f : Addr} {cd : Value} {A : Around} {outer : List Env} {s s' : Shared} {H H' : Hp} {E : XK} {σ : L2.St} {v : V} {u : Value} {Q : VK}
    (J : Inv (cxOf CX0 P w K mg base N qual scope f cd A outer s H E) [] σ H' s') (r : RelV v u) (q : Q v H') : CE outer P w H s Q u s' := ⟨v, H', J.os, J.bare, J.base, J.hok, r, q⟩
/-- a def by its body, which may look at what is under way -/
theorem FunAt.okG (F : FunAt K mg x st) (S : FnScope N ps (defScope st)) (len : ∀ vs H Q E, sp vs H Q E → vs.length = ps.length)
    (hb : ∀ (kV doc pm : Value) (an : Option Addr) (cdv ct : Value) (us : List Value), us.length = ps.length → bindArgs (PySem.W.fnOf x x (defArgs st) (defBody st) (defScope st) .none kV doc pm an cdv ct) ⟨us, []⟩ = pure (ps.zip us))
    (hbody : ∀ (f : Addr) (cdv : Value) (A : Around) (outer : List Env) (s : Shared) (H : Hp) (vs : List V) (Q : VK) (E : XK), Room k (A.deeper (envOfC x (defScope st) s.heap.objs.size f cdv)) → (A.deeper (envOfC x (defScope st) s.heap.objs.size f cdv)).guards = some [] → sp vs H Q E →
      ∃ t, PSs (cxOf CX0 P w K mg base N x (defScope st) f cdv A outer s H E).nox (defBody st) t ∧ t { nx := fun _ H' => Q .non H', rt := Q } (start N vs) H) : GefAt P w K mg base x st (k + 1) ps sp := by
  obtain ⟨f, fd, hm, F⟩ := F.ex
  refine ⟨f, fd, hm, F, ⟨len, ?_⟩, F.binds hb⟩
  obtain ⟨oc, od, kV, doc, pm, an, cdv, ct, osl, rfl, lk, hcd⟩ := F.ex
  intro A outer s H args us vs Q E hr hg e0 bt rv hsp
  have there : ∀ b o, base.get? b = some o → s.heap.get? b = some o := fun b o e => (e0.bs b o e).1
  have hK := e0.mod.kin.keeps there
  have hlim := e0.mod.nolimit.keeps there
  have kinds : ∀ y ∈ ps.zip us, (defScope st).names.lookup y.1 = some .local ∨ ((defScope st).names.lookup y.1 = some .cell ∧ ((cellsFrom (s.heap.objs.size + 1) (defScope st).names []).lookup y.1).isSome = true) := by
    rintro ⟨n, v⟩ hy
    cases S.par n (List.of_mem_zip hy).1 with
    | inl q => exact .inl q
    | inr q => exact .inr ⟨q, PySem.W.cellsFrom_some _ _ _ (.inl q)⟩
  obtain ⟨t, ht, hq⟩ := hbody f cdv A outer s H vs Q E (hr.deeper _) hg hsp
  have ht := ht.nox
  apply codeAny_call_function hr.depth (hK _ _ lk) rfl S.co S.gen rfl (PySem.W.codeRec_of hK hcd)
  apply bt
  apply wpAny_newFunctionEnv_cells S.kind kinds
  rintro env rfl s1 ic
  refine ⟨hlim.keeps ic.toInCall.keep, codeAny_func ?_⟩
  have I := inv_start (CX := CX0) (P := P) (w := w) (K := K) (mg := mg) (base := base) (E := E) S hr.hd e0 (len _ _ _ _ hsp) rv ic
  refine wpAny_mono (ht.run [] s1 (start N vs) H _ I hq) ?_ (fun _ _ z => z)
  intro fl s' hs
  match fl, hs with
  | .ret u, ⟨v, σ', H', J, r, q⟩ => exact CE.of_inv J r q
  | .next, ⟨σ', H', J, q⟩ => exact CE.of_inv (v := V.non) (u := Value.none) J rfl q
  | .brk, ⟨_, _, _, q⟩ => exact q.elim
  | .cont, ⟨_, _, _, q⟩ => exact q.elim
end
section
variable {X : Cx} {x : Str} {st : Stmt} {k : Nat} {ps : List Str} {sp : Sp} {e : Expr} {es : List Expr} {t : TA} {p pos : Pos}
theorem pe_callG (D : GefAt X.prog X.w X.K X.mg X.base x st k ps sp) (hr : Room k X.A) (gu : X.A.guards = some []) (ha : PA X (e :: es) t) (hg : Gl X x := by rfl)
    (hdb : (x == ("__debug__" : Str)) = false := by decide) (he : starEach (e :: es) X.env = (false, eval e X.env) :: starEach es X.env := by rfl) (hpl : (backTo pos (starEach es X.env)).any (·.1) = false := by rfl) :
    PE X (.Call (.Name x p) (e :: es) [] pos) (tCall sp [] E0 t) := by
  obtain ⟨f, fd, hm, F, G, b⟩ := D.ex
  constructor
  intro pins s σ H Q I h
  apply wpAny_Call_Name_kw (ld_glob I hg hm ?_ hdb)
  apply PySem.W.callWith_K (h₀ := X.base) I.ok.mod.kin F.kp ?_ he hpl
  refine thn (ha.run pos pins s σ H _ I h) ?_
  rintro us s1 ⟨vs, H1, I1, r, q⟩
  refine ⟨I1.kIn, wpAny_call (codeAny_mono (G.run X.A X.stack s1 H1 ⟨us, []⟩ (us ++ []) (vs ++ []) Q E0 hr gu I1.env0 (b s1 us I1.kIn ?_) (r.append .nil) q) ?_)⟩
  · rw [← (r.append (Paired.nil : Vals [] [])).length]
    exact G.len _ _ _ _ q
  · intro rr s' hq
    match rr, hq with
    | .error e, hq => exact (pass0 (X := X) pins σ H1 s1 e s' I1 hq)
    | .ok (.ret u), hq => exact I1.after hq
    | .ok .next, hq => exact hq.elim
    | .ok .brk, hq => exact hq.elim
    | .ok .cont, hq => exact hq.elim
end
/-! ### repr of data -/
def rReprD (K : PySem.W.Frag) : List V → Hp → VK → Prop := fun xs H Q => ∃ (a : Addr) (d : PyData), xs = [.ref a] ∧ Dp K H (.ref a) d ∧ d.showable = true ∧ SeqAt.shaped d = true ∧ d.shown.length ≤ sizeLine ∧ Q (.str d.shown) H
theorem call_reprD {X : Cx} (hg : X.A.guards = some []) (hu : X.A.units + 100 < cLine) : CallR X (.builtin "repr") (rReprD X.K) := by
  intro pins s σ H xs us Q I r h
  obtain ⟨a, d, rfl, hd, hs, hsh, hz, q⟩ := h
  obtain ⟨u, rfl, ru⟩ := vals1 r
  obtain ⟨as, r1⟩ := Dp.reads I d _ u hd ru
  cases ru
  have hsh' : (PyData.canLay0 d && decide (PyData.depth d ≤ 64)) = true := hsh
  obtain ⟨c1, c2⟩ := Bool.and_eq_true_iff.mp hsh'
  have c3 := of_decide_eq_true c2
  refine repr_of_reads' r1 hs (PyData.noDict_hsm (PyData.hasDict_of_canLay d c1)) hg (by omega) (fun _ _ e => e) (fun h' u tk hk => ?_) hz
  exact ⟨.str _, H, I.kept (t' := tk) fun b o e => hk b o e, ⟨_, rfl⟩, q⟩
theorem gu_of {k : Nat} {A : Around} (r : Room k A) : A.units + 100 < cLine := by have := r.un; omega
/-! ### the end -/
def scr (K : PySem.W.Frag) (a : Addr) (ob : Obj) (xs : List V) : Hp := fun b => if b = a ∧ K.lookup a = none then some (.frz ob (.lst xs)) else none
theorem scr_cases (K : PySem.W.Frag) (a : Addr) (ob : Obj) (xs : List V) (b : Addr) : scr K a ob xs b = none ∨ (b = a ∧ K.lookup a = none ∧ scr K a ob xs b = some (.frz ob (.lst xs))) := by
  by_cases h : b = a ∧ K.lookup a = none
  · exact .inr ⟨h.1, h.2, if_pos h⟩
  · exact .inl (if_neg h)
theorem law_callG {P : Program} {w : World} {K : PySem.W.Frag} {mg mb : Str → Option Value} {k : Nat} {fa a : Addr} {fd : FuncData} {x : Str} {sp : Sp} {s₁ : Shared} {vs : List Value} {ns : List Int}
    (KX : K.In s₁.heap) (hns : s₁.heap.Ns mainGlobals mg) (hb : s₁.heap.Ns builtinsNs mb) (hbb : ∀ x : Str, x ≠ "__name__" → mb x = bootBuiltins x) (hlim : s₁.heap.NoLimit) (hg : s₁.gens = #[])
    (ha : s₁.heap.get? a = some { cls := .type "list", data := .seq vs.toArray }) (hi : IntsAre vs ns) (hl : ns.length ≤ sizeLine) (hr : Room k callerA)
    (F : ∀ base : Heap, K.In base → base.Ns mainGlobals mg → FnG P w K mg base k fa fd [x] sp) (hbind : ∀ (s : Shared) (u : Value), BindsTo s fd ⟨[u], []⟩ [(x, u)])
    (hsp : ∀ H : Hp, SqL K H a (ns.map V.int) → sp [.ref a] H (fun v _ => v = .bl true) fun _ _ _ => False) :
    codeAny (model P w) callerA (.call (.ref fa) ⟨[.ref a], []⟩) (fun r s' => r = .ok (.ret (.bool true)) ∧ OldK s₁.heap s'.heap ∧ s'.os = s₁.os ∧ AllBare s'.gens) s₁ := by
  have rv := vals_ints hi
  let ob : Obj := { cls := .type "list", data := .seq vs.toArray }
  let H : Hp := scr K a ob (ns.map V.int)
  have cs := scr_cases K a ob (ns.map V.int)
  have hok : HOk P w H s₁.heap := by
    intro b u z
    rcases cs b with q | ⟨rfl, _, q⟩
    · rw [show H b = none from q] at z
      cases z
    · rw [show H b = _ from q] at z
      cases z
      exact ⟨ha, by rw [List.length_map]; exact hl, vs, _, rv, ha⟩
  have hS : SqL K H a (ns.map V.int) := by
    cases hk : K.lookup a with
    | none => exact .inl (.inr ⟨ob, if_pos ⟨rfl, hk⟩⟩)
    | some o =>
      have e := (KX a o hk).symm.trans ha
      cases e
      exact .inr ⟨_, vs.toArray, _, hk, rfl, rfl, rfl, by rw [List.size_toArray, hi.length]; exact hl, by simpa using rv⟩
  have free : ∀ {b : Addr} {o : Obj}, s₁.heap.get? b = some o → (∀ q n, o.data ≠ .seq q n) → H b = none := by
    intro b o e n
    rcases cs b with q | ⟨rfl, _, _⟩
    · exact q
    · rw [ha] at e
      cases e
      exact absurd rfl (n _ _)
  have nsB : ∀ {b : Addr} {m : Str → Option Value}, s₁.heap.Ns b m → (hidT s₁.heap H).Ns b m := by
    rintro b m ⟨o, es, ep, e, d, r⟩
    exact ⟨o, es, ep, hidT_get e (free e fun q n z => by rw [d] at z; cases z), d, r⟩
  have kB : K.In (hidT s₁.heap H) := by
    intro b o e
    refine hidT_get (KX b o e) ?_
    rcases cs b with q | ⟨rfl, z, _⟩
    · exact q
    · rw [z] at e
      cases e
  obtain ⟨mc, l1, l2⟩ := hlim
  have e0 : Env0 P w K mg (hidT s₁.heap H) callerA [] s₁ H :=
    { frames := rfl, mod := ⟨kB, nsB hns, ⟨mb, nsB hb, hbb⟩, ⟨mc, nsB l1, l2⟩⟩, bs := fun b o e => of_hidT e, bsz := Nat.le_of_eq (hidT_size _ _), funs := trivial, frf := (fun b z => by cases z), hok := hok, bare := .of_eq hg }
  refine codeAny_mono ((F _ kB (nsB hns)).run callerA [] s₁ H ⟨[.ref a], []⟩ [.ref a] [.ref a] _ _ hr rfl e0 (hbind s₁ (.ref a)) (.cons rfl .nil) (hsp H hS)) ?_
  intro r s' h
  match r, h with
  | .error e, h => exact (show False from h).elim
  | .ok .next, h => exact h.elim
  | .ok .brk, h => exact h.elim
  | .ok .cont, h => exact h.elim
  | .ok (.ret u), ⟨v, H', os, bare, un, hok', r', q⟩ =>
    have q : v = .bl true := q
    subst q
    have r' : u = Value.bool true := r'
    subst r'
    refine ⟨rfl, OldK.of_keep ?_, os, bare⟩
    intro b o e
    rcases cs b with q | ⟨rfl, z, q⟩
    · exact un.keep b o e q (fun z => by cases z) (by simp)
    · obtain ⟨e2, _⟩ := hok' b _ (un.frzs b ob _ q)
      rw [ha] at e
      cases e
      exact e2
theorem walk_G {l : PySem.W.OpenLaw} {n k : Nat} {q : Program} {loose : List Str} {XP : (Str → Option Value) → Heap → Prop} {YP : World → Heap → Prop} {d : DefRec} {K : Params → PySem.W.Frag} {x : Str} {sp : World → Sp}
    (hn : l.most = some n) (hn2 : n ≤ sizeLine) (hdf : d.params.defaults = []) (hr : Room k callerA) (hY : ∀ (w : World) (h : Heap), YP w h → (K w.params).In h)
    (F : ∀ (w : World) (mg : Str → Option Value) (fa : Addr) (h : Heap), (K w.params).In h → h.Ns mainGlobals mg → mg d.name = some (.ref fa) →
      ∃ fd : FuncData, (∀ (s : Shared) (u : Value), BindsTo s fd ⟨[u], []⟩ [(x, u)]) ∧ ∀ base : Heap, (K w.params).In base → base.Ns mainGlobals mg → FnG l.prog w (K w.params) mg base k fa fd [x] (sp w))
    (hsp : ∀ (w : World) (H : Hp) (a : Addr) (ns : List Int), ns.length ≤ n → (∀ z ∈ ns, Builtin.Int.intBits z ≤ 1048576) → SqL (K w.params) H a (ns.map V.int) → sp w [.ref a] H (fun v _ => v = .bl true) fun _ _ _ => False) :
    PySem.W.WalkO q loose XP YP l.row.toRowW d [] (fun f vs => PySem.call f vs) := by
  refine Att.attach_callB hn hdf ?_
  intro w s₀ s₁ mg mb fa o pm cd doc a vs ns G Y ho hd hcd hmg hobj hints hlen hbits hg
  obtain ⟨fd, hb, hF⟩ := F w mg fa _ (hY w _ Y) G.T.g hmg
  exact law_callG (hY w _ Y) G.T.g G.T.b G.T.builtins G.T.nolimit hg hobj hints (Nat.le_trans hlen hn2) hr hF hb (fun H hS => hsp w H a ns hlen hbits hS)
/-! ### data that can be shown -/
structure Fine (d : PyData) : Prop where
  s : d.showable = true
  p : SeqAt.shaped d = true
  l : d.leavesShort 50 = true
  b : d.bulk ≤ 100000
theorem w_reprD {K : PySem.W.Frag} {H : Hp} {Q : VK} {a : Addr} {d : PyData} (h : Dp K H (.ref a) d) (f : Fine d) (q : Q (.str d.shown) H) : rReprD K [.ref a] H Q := by
  refine ⟨a, d, rfl, h, f.s, f.p, ?_, q⟩
  have h1 := PyData.shown_le_bulk 50 (by decide) d f.l
  have h2 := f.b
  rw [sizeLine_eq]
  omega
theorem showable_int {i : Int} (h : i.natAbs < 10 ^ 40) : (PyData.int i).showable = true := by
  have := log_lt (i := i) (Nat.lt_of_lt_of_le h (by decide))
  simp only [PyData.showable, this, decide_true]
theorem short_int {i : Int} (h : i.natAbs < 10 ^ 40) : (PyData.int i).leavesShort 50 = true := by
  have e := int_text_length_le10 (k := 40) (by decide) h
  have e2 : (PyData.shown (.int i)).length = (toString i).length := by
    simp only [PyData.shown]
    exact PySem.ofString_length (toString i)
  simp only [PyData.leavesShort, e2]
  exact decide_eq_true (by omega)
theorem showable_ints : ∀ {ns : List Int}, (∀ x ∈ ns, x.natAbs < 10 ^ 40) → PyData.showableAll (ns.map PyData.int) = true
  | [], _ => rfl
  | n :: ns, h => by
    have ih := showable_ints (ns := ns) fun x hx => h x (List.mem_cons_of_mem _ hx)
    have h1 := showable_int (h n List.mem_cons_self)
    simp only [List.map_cons, PyData.showableAll, ih, h1, Bool.and_self]
theorem short_ints : ∀ {ns : List Int}, (∀ x ∈ ns, x.natAbs < 10 ^ 40) → PyData.leavesShortAll 50 (ns.map PyData.int) = true
  | [], _ => rfl
  | n :: ns, h => by
    have ih := short_ints (ns := ns) fun x hx => h x (List.mem_cons_of_mem _ hx)
    have h1 := short_int (h n List.mem_cons_self)
    simp only [List.map_cons, PyData.leavesShortAll, ih, h1, Bool.and_self]
theorem bulk_ints : ∀ ns : List Int, PyData.bulkAll (ns.map PyData.int) = ns.length
  | [] => rfl
  | n :: ns => by
    have ih := bulk_ints ns
    simp only [List.map_cons, PyData.bulkAll, PyData.bulk, ih, List.length_cons]
    omega
def dI (ns : List Int) : PyData := .list (ns.map PyData.int)
theorem fine_ints {ns : List Int} (h : ∀ x ∈ ns, x.natAbs < 10 ^ 40) (hl : ns.length ≤ 10000) : Fine (dI ns) :=
  ⟨by simp only [dI, PyData.showable]; exact showable_ints h, shaped_ints ns, by simp only [dI, PyData.leavesShort]; exact short_ints h, by simp only [dI, PyData.bulk]; rw [bulk_ints]; omega⟩
structure FineAll (ds : List PyData) : Prop where
  s : PyData.showableAll ds = true
  c : PyData.canLayAll0 ds = true
  d : PyData.depthAll ds ≤ 40
  l : PyData.leavesShortAll 50 ds = true
theorem FineAll.nil : FineAll [] := ⟨rfl, rfl, by simp [PyData.depthAll], rfl⟩
theorem FineAll.cons {d : PyData} {ds : List PyData} (f : d.showable = true) (c : d.canLay0 = true) (dp : d.depth ≤ 40) (l : d.leavesShort 50 = true) (r : FineAll ds) : FineAll (d :: ds) :=
  ⟨by simp only [PyData.showableAll, f, r.s, Bool.and_self], by simp only [PyData.canLayAll0, c, r.c, Bool.and_self], by have := r.d; simp only [PyData.depthAll]; omega, by simp only [PyData.leavesShortAll, l, r.l, Bool.and_self]⟩
theorem FineAll.cons_ints {ns : List Int} {ds : List PyData} (h : ∀ x ∈ ns, x.natAbs < 10 ^ 40) (r : FineAll ds) : FineAll (dI ns :: ds) :=
  .cons (by simp only [dI, PyData.showable]; exact showable_ints h) (by simp only [dI, PyData.canLay0]; exact canLay_ints ns) (by have := depth_ints ns; simp only [dI, PyData.depth]; omega) (by simp only [dI, PyData.leavesShort]; exact short_ints h) r
theorem FineAll.cons_lst {xs ds : List PyData} (f : FineAll xs) (dp : PyData.depthAll xs ≤ 30) (r : FineAll ds) : FineAll (.list xs :: ds) :=
  .cons (by simp only [PyData.showable]; exact f.s) (by simp only [PyData.canLay0]; exact f.c) (by simp only [PyData.depth]; omega) (by simp only [PyData.leavesShort]; exact f.l) r
theorem FineAll.fine {ds : List PyData} (r : FineAll ds) (b : PyData.bulkAll ds ≤ 100000) : Fine (.list ds) :=
  ⟨by simp only [PyData.showable]; exact r.s, by
    unfold SeqAt.shaped
    have h1 : PyData.canLay0 (.list ds) = true := by simp only [PyData.canLay0]; exact r.c
    have h2 : PyData.depth (.list ds) ≤ 64 := by
      have := r.d
      simp only [PyData.depth]
      omega
    rw [h1, decide_eq_true h2]
    rfl, by simp only [PyData.leavesShort]; exact r.l, by simp only [PyData.bulk]; exact b⟩
/-! ### generators -/
structure GnAt (P : Program) (w : World) (K : PySem.W.Frag) (mg : Str → Option Value) (base : Heap) (x : Str) (st : Stmt) (k : Nat) (ps : List Str) (sp : SpG) : Prop where
  ex : ∃ f fd, mg x = some (.ref f) ∧ Fun K x x st f fd ∧ GFn P w K mg base k f fd ps sp ∧ Binds K fd ps []
theorem FunAt.okGn {P : Program} {w : World} {K : PySem.W.Frag} {mg : Str → Option Value} {base : Heap} {x : Str} {st : Stmt} {k : Nat} {ps N : List Str} {sp : SpG} (F : FunAt K mg x st) (S : GScope N ps (defScope st)) (len : ∀ vs H Q E, sp vs H Q E → vs.length = ps.length)
    (hb : ∀ (kV doc pm : Value) (an : Option Addr) (cdv ct : Value) (us : List Value), us.length = ps.length → bindArgs (PySem.W.fnOf x x (defArgs st) (defBody st) (defScope st) .none kV doc pm an cdv ct) ⟨us, []⟩ = pure (ps.zip us))
    (hbody : ∀ (f : Addr) (cdv : Value) (A : Around) (outer : List Env) (s : Shared) (H : Hp) (vs : List V) (Q : List V → Hp → Prop) (E : XK) (pn : List (Addr × Obj)), Room k (A.deeper (envOfC x (defScope st) s.heap.objs.size f cdv)) → sp vs H Q E →
      ∃ t, GSs (gcxOf P w K mg base N x (defScope st) f cdv A outer s H E pn) (defBody st) t ∧ t { nx := fun ys _ H' => Q ys H', rt := fun ys v H' => v = .non ∧ Q ys H' } [] (start N vs) H) : GnAt P w K mg base x st (k + 1) ps sp := by
  obtain ⟨f, fd, hm, F⟩ := F.ex
  refine ⟨f, fd, hm, F, ?_, F.binds hb⟩
  obtain ⟨oc, od, kV, doc, pm, an, cdv, ct, osl, rfl, lk, hcd⟩ := F.ex
  exact gfn_of lk hcd S len fun A outer s H vs Q E pn hr h => hbody f cdv A outer s H vs Q E pn hr h
theorem pe_listGD {X : Cx} {x : Str} {st : Stmt} {k : Nat} {ps : List Str} {sp : SpG} {e : Expr} {es : List Expr} {t : TA} {p p0 p1 pos : Pos} (D : GnAt X.prog X.w X.K X.mg X.base x st k ps sp) (hr : Room (k + 3) X.A) (hgl : Gl X "list") (hml : X.mg "list" = none) (ha : PA X (e :: es) t) (hg : Gl X x := by rfl)
    (hdb : (x == ("__debug__" : Str)) = false := by decide) (he : starEach (e :: es) X.env = (false, eval e X.env) :: starEach es X.env := by rfl) (hpl : (backTo p1 (starEach es X.env)).any (·.1) = false := by rfl)
    (he2 : starEach [.Call (.Name x p) (e :: es) [] p1] X.env = (false, eval (.Call (.Name x p) (e :: es) [] p1) X.env) :: starEach [] X.env := by rfl) :
    PE X (.Call (.Name "list" p0) [.Call (.Name x p) (e :: es) [] p1] [] pos) (tListG (tCallG sp [] E0 t)) := by
  obtain ⟨f, fd, hm, F, G, b⟩ := D.ex
  exact pe_listG (pgen_call G (hr.mono (by omega)) hg hm F.kp b .nil ha hdb he hpl) (fun _ _ _ _ _ _ _ z => by
    obtain ⟨_, _, _, _, _, _, _, _, _, _, _, _, q⟩ := z
    exact q.elim) (fun _ _ _ z => z.elim) hr hgl hml boot_list (by decide) (by decide) he2
section
variable {D : GEnds} {ys : List V} {σ : L2.St} {H : Hp} {t u : TGn} {te : TE} {c : TT} {tb : TGn} {ts : TS}
theorem w_gStart {N : List Str} {vs : List V} {σ' : L2.St} (e : L2.start N vs = σ') (h : t D ys σ' H) : t D ys (L2.start N vs) H := e ▸ h
theorem w_gThen (h : t { D with nx := fun ys' σ' H' => u D ys' σ' H' } ys σ H) : tGThen t u D ys σ H := h
theorem w_gPlain (h : ts (D.at ys) σ H) : tPlain ts D ys σ H := h
theorem w_gYield (hz : ys.length < 16777216) (h : te σ H fun x H1 => D.nx (ys ++ [x]) σ H1) : tGYield te D ys σ H := ⟨szlt hz, h⟩
theorem w_g0 (h : D.nx ys σ H) : tG0 D ys σ H := h
theorem w_at (h : D.nx ys σ H) : (D.at ys).nx σ H := h
end
section
variable {D : GEnds} {ys : List V} {σ : L2.St} {H : Hp} {c : TT} {tb : TGn}
def GWh (W : Nat → List V → L2.St → Hp → Prop) (m : Nat) (tb : TGn) (D : GEnds) (ys : List V) (σ : L2.St) (H1 : Hp) : Prop := ∃ N : List V → L2.St → Hp → Prop, (∀ ys' σ' H', N ys' σ' H' → ∃ m', m' < m ∧ W m' ys' σ' H') ∧ tb { D with nx := N, ct := N, bk := D.nx } ys σ H1
theorem w_gWhile (W : Nat → List V → L2.St → Hp → Prop) (m0 : Nat) (h0 : W m0 ys σ H) (hs : ∀ m ys σ H, W m ys σ H → c σ H fun b H1 => if b = true then GWh W m tb D ys σ H1 else D.nx ys σ H1) : tGWhile c tb D ys σ H := ⟨W, ⟨m0, h0⟩, hs⟩
theorem w_gWh {W : Nat → List V → L2.St → Hp → Prop} {m : Nat} (q : tb { D with nx := fun ys' σ' H' => ∃ m', m' < m ∧ W m' ys' σ' H', ct := fun ys' σ' H' => ∃ m', m' < m ∧ W m' ys' σ' H', bk := D.nx } ys σ H) : GWh W m tb D ys σ H := ⟨_, fun _ _ _ h => h, q⟩
def ListGE (Q : VK) : List V → Hp → Prop := fun out H2 => ∀ p, H2 p = none → Q (.ref p) (upd H2 p (.lst out))
theorem w_listG {tg : TGen} {Q : VK} (h : tg σ H (ListGE Q)) : tListG tg σ H Q := h
theorem w_callG {sp : SpG} {dvs : List V} {E : XK} {t : TA} {cont : List V → Hp → Prop} (h : t σ H fun vs H1 => sp (vs ++ dvs) H1 cont E) : tCallG sp dvs E t σ H cont := h
theorem w_listGE {Q : VK} {out : List V} (h : ∀ p, H p = none → Q (.ref p) (upd H p (.lst out))) : ListGE Q out H := h
end
end Pg

namespace Pg
open PySem PySem.Spec PyProof.Rows L2
/-! ### truths compared; None or a number compared -/
theorem dec_bl {a b : Bool} : decide (V.bl a = V.bl b) = (a == b) := by
  cases a <;> cases b <;> rfl
theorem w_eqB {a b : Bool} {H : Hp} {Q : VK} (q : Q (.bl (a == b)) H) : rEq (.bl a) (.bl b) H Q := ⟨rfl, by rw [dec_bl]; exact q⟩
theorem w_neB {a b : Bool} {H : Hp} {Q : VK} (q : Q (.bl (a != b)) H) : rNe (.bl a) (.bl b) H Q := ⟨rfl, by rw [dec_bl]; exact q⟩
theorem beq_iff {p q : Prop} [Decidable p] [Decidable q] (h : p ↔ q) : (decide p == decide q) = true := by
  by_cases z : p
  · rw [decide_eq_true z, decide_eq_true (h.mp z)]; rfl
  · rw [decide_eq_false z, decide_eq_false fun y => z (h.mpr y)]; rfl
theorem bne_iff {p q : Prop} [Decidable p] [Decidable q] (h : p ↔ q) : (decide p != decide q) = false := by
  by_cases z : p
  · rw [decide_eq_true z, decide_eq_true (h.mp z)]; rfl
  · rw [decide_eq_false z, decide_eq_false fun y => z (h.mpr y)]; rfl
theorem w_iteV {b : Bool} {A B : Prop} (e : b = true) (h : A) : if b = true then A else B := by rw [if_pos e]; exact h
theorem w_iteW {b : Bool} {A B : Prop} (e : b = false) (h : B) : if b = true then A else B := by rw [e]; exact h
/-- None or a number -/
def NonInt (v : V) : Prop := v = .non ∨ ∃ i, v = .int i
theorem NonInt.dp {K : PySem.W.Frag} {H : Hp} {v : V} (h : NonInt v) : ∃ d, Dp K H v d ∧ SeqAt.shaped d = true ∧ PyData.eqv d d = true := by
  rcases h with rfl | ⟨i, rfl⟩
  · exact ⟨.none, .non, by decide, by simp [PyData.eqv]⟩
  · exact ⟨.int i, .int i, by rfl, by simp [PyData.eqv]⟩
theorem w_eqSame {K : PySem.W.Frag} {H : Hp} {Q : VK} {v : V} (h : NonInt v) (q : Q (.bl true) H) : rEqD K v v H Q := by
  obtain ⟨d, h1, h2, h3⟩ := h.dp (K := K) (H := H)
  exact ⟨d, d, h1, h1, h2, h2, by rw [h3]; exact q⟩
theorem w_neSame {K : PySem.W.Frag} {H : Hp} {Q : VK} {v : V} (h : NonInt v) (q : Q (.bl false) H) : rNeD K v v H Q := by
  obtain ⟨d, h1, h2, h3⟩ := h.dp (K := K) (H := H)
  exact ⟨d, d, h1, h1, h2, h2, by rw [h3]; exact q⟩
/-! ### steps that go up, comprehensions over any walk -/
section
variable {σ : L2.St} {H : Hp} {g : TG} {tt : TT} {te : TE} {vs : List Nat} {Q : VK}
theorem l_it {J : It} {n : Nat} {G : Hp → Prop} {Y : Nat → Hp → V → Hp → Prop} (w : Walk J n G Y) (Pv : Addr → Nat → Hp → Prop) (h0 : ∀ L, H L = none → Pv L 0 (upd H L (.lst []))) (hG : ∀ L i H', H L = none → i ≤ n → Pv L i H' → G H')
    (hs : ∀ L i x H' H'', H L = none → i < n → Pv L i H' → Y i H' x H'' → g x (wipe σ vs) H'' fun σ2 H2 => wipe σ2 vs = wipe σ vs ∧ tt σ2 H2 fun b H3 => if b = true then te σ2 H3 (AppE L (Pv L (i + 1))) else Pv L (i + 1) H3)
    (hd : ∀ L H', H L = none → Pv L n H' → Q (.ref L) H') : LcB g tt te vs σ Q J H := fun L hL => lc_it w (Pv L) (h0 L hL) (fun i H' => hG L i H' hL) (fun i x H' H'' => hs L i x H' H'' hL) (fun H' => hd L H' hL)
theorem l_rangeC {lo c : Int} {n : Nat} (Pv : Addr → Nat → Hp → Prop) (h0 : ∀ L, H L = none → Pv L 0 (upd H L (.lst [])))
    (hs : ∀ L i H', H L = none → i < n → Pv L i H' → g (.int (lo + (i : Nat) * c)) (wipe σ vs) H' fun σ2 H2 => wipe σ2 vs = wipe σ vs ∧ tt σ2 H2 fun b H3 => if b = true then te σ2 H3 (AppE L (Pv L (i + 1))) else Pv L (i + 1) H3)
    (hd : ∀ L H', H L = none → Pv L n H' → Q (.ref L) H') : LcB g tt te vs σ Q (Itc lo c n) H :=
  l_it walk_rangeC Pv h0 (fun _ _ _ _ _ _ => trivial) (fun L i x H' H'' hL hi p y => by
    obtain ⟨e1, e2⟩ := y
    subst e1 e2
    exact hs L i _ hL hi p) hd
theorem l_enum {K : PySem.W.Frag} {a : Addr} (xs : List V) (Pv : Addr → Nat → Hp → Prop) (h0 : ∀ L, H L = none → Pv L 0 (upd H L (.lst []))) (hl : ∀ L i H', H L = none → i ≤ xs.length → Pv L i H' → SqL K H' a xs)
    (hs : ∀ L i x T H', H L = none → xs[i]? = some x → Pv L i H' → H' T = none → g (.ref T) (wipe σ vs) (upd H' T (.tup [.int (i : Nat), x])) fun σ2 H2 => wipe σ2 vs = wipe σ vs ∧ tt σ2 H2 fun b H3 => if b = true then te σ2 H3 (AppE L (Pv L (i + 1))) else Pv L (i + 1) H3)
    (hd : ∀ L H', H L = none → Pv L xs.length H' → Q (.ref L) H') : LcB g tt te vs σ Q (Ite K a) H :=
  l_it walk_enum Pv h0 hl (fun L i x H' H'' hL hi p y => by
    obtain ⟨T, u, v, h1, h2, h3, h4, h5⟩ := y
    subst h1 h3
    have h4 := Option.some.inj h4
    subst h4
    exact hs L i v T H' hL h5 p h2) hd
end
theorem RgC.pos {i j c : Int} (hi : 0 ≤ i) (hj : i ≤ j) (hj2 : j < 2 ^ 30) (hc : 1 ≤ c) (hc2 : c < 2 ^ 30) : RgC i j c ((j - i + c - 1) / c).toNat := by
  have e : Builtin.Range.rangeSize i j c = (((j - i + c - 1) / c).toNat : Int) := by
    unfold Builtin.Range.rangeSize
    rw [if_pos (by omega)]
    have h0 : 0 ≤ (j - i + c - 1) / c := Int.ediv_nonneg (by omega) (by omega)
    rw [Int.toNat_of_nonneg h0]
    by_cases h : i < j
    · rw [if_pos h, show j - i + c - 1 = (j - i - 1) + c by omega, Int.add_ediv_of_dvd_right (Int.dvd_refl c), Int.ediv_self (by omega)]
    · rw [if_neg h, show j - i + c - 1 = c - 1 by omega, Int.ediv_eq_zero_of_lt (by omega) (by omega)]
  have hb : ((j - i + c - 1) / c).toNat < 2 ^ 31 := by
    have h1 : (j - i + c - 1) / c ≤ j - i + c - 1 := Int.ediv_le_self _ (by omega)
    omega
  refine ⟨by omega, by omega, ?_, e⟩
  unfold Builtin.Range.small
  rw [e]
  simp only [Builtin.Range.rangeFitsLong, Bool.and_eq_true, Bool.or_eq_true, decide_eq_true_eq, beq_iff_eq]
  rw [if_pos (by omega)]
  simp only [Bool.and_eq_true, decide_eq_true_eq]
  omega
theorem w_rng3P {H : Hp} {R : It → Hp → Prop} {i j c : Int} (h : 0 ≤ i ∧ i ≤ j ∧ j < 2 ^ 30 ∧ 1 ≤ c ∧ c < 2 ^ 30) (q : R (Itc i c ((j - i + c - 1) / c).toNat) H) : Rng3E R [.int i, .int j, .int c] H :=
  ⟨i, j, c, _, rfl, RgC.pos h.1 h.2.1 h.2.2.1 h.2.2.2.1 h.2.2.2.2, q⟩
theorem kc_pi {X : Cx} {K : PySem.W.Frag} {tg e : Expr} {t : TE} (h : PI X tg e (iList X.K t)) (q : X.K = K) : PI X tg e (iList K t) := q ▸ h
theorem w_extendR {H : Hp} {Q : VK} {a q : Addr} {ps qs : List Addr} (h1 : H a = some (.lst (ps.map V.ref))) (h2 : H q = some (.lst (qs.map V.ref))) (hz : ps.length + qs.length ≤ 16777216) (k : Q .non (upd H a (.lst ((ps ++ qs).map V.ref)))) : rExtend (.ref a) [.ref q] H Q :=
  ⟨a, q, _, _, rfl, rfl, h1, h2, szle' (by rw [List.length_map, List.length_map]; exact hz), by rw [← List.map_append]; exact k⟩
/-! ### lists of pairs of numbers -/
def dP (l : Int × Int) : PyData := .tuple [.int l.1, .int l.2]
theorem canLay_pairs : ∀ ls : List (Int × Int), PyData.canLayAll0 (ls.map dP) = true
  | [] => rfl
  | l :: ls => by
    have ih := canLay_pairs ls
    simp only [List.map_cons, dP, PyData.canLayAll0, PyData.canLay0, Bool.and_self, Bool.true_and]
    exact ih
theorem depth_pairs : ∀ ls : List (Int × Int), PyData.depthAll (ls.map dP) ≤ 3
  | [] => by simp [PyData.depthAll]
  | l :: ls => by
    have ih := depth_pairs ls
    have e : PyData.depth (dP l) ≤ 2 := by simp [dP, PyData.depthAll, PyData.depth]
    simp only [List.map_cons, PyData.depthAll]
    omega
theorem shaped_pairs (ls : List (Int × Int)) : SeqAt.shaped (.list (ls.map dP)) = true := by
  unfold SeqAt.shaped
  have h1 : PyData.canLay0 (.list (ls.map dP)) = true := by simp only [PyData.canLay0]; exact canLay_pairs ls
  have h2 : PyData.depth (.list (ls.map dP)) ≤ 64 := by
    have := depth_pairs ls
    simp only [PyData.depth]
    omega
  rw [h1, decide_eq_true h2]
  rfl
theorem eqvAll_pairs : ∀ ls ms : List (Int × Int), PyData.eqvAll (ls.map dP) (ms.map dP) = decide (ls = ms)
  | [], [] => by simp [PyData.eqvAll]
  | [], m :: ms => by simp [PyData.eqvAll]
  | n :: ns, [] => by simp [PyData.eqvAll]
  | n :: ns, m :: ms => by
    have ih := eqvAll_pairs ns ms
    simp only [List.map_cons, PyData.eqvAll, ih]
    have e : PyData.eqv (dP n) (dP m) = decide (n = m) := by
      obtain ⟨n1, n2⟩ := n
      obtain ⟨m1, m2⟩ := m
      simp only [dP, PyData.eqv, PyData.eqvAll, Prod.mk.injEq]
      by_cases h : n1 = m1 <;> by_cases h2 : n2 = m2 <;> simp [h, h2]
    rw [e]
    by_cases h : n = m
    · subst h
      by_cases h2 : ns = ms <;> simp [h2]
    · simp [h]
/-! ### repr of None or of data -/
def rReprA (K : PySem.W.Frag) : List V → Hp → VK → Prop := fun xs H Q => (xs = [.non] ∧ Q (.str "None") H) ∨ rReprD K xs H Q
theorem call_reprA {X : Cx} (hg : X.A.guards = some []) (hu : X.A.units + 100 < cLine) : CallR X (.builtin "repr") (rReprA X.K) := by
  intro pins s σ H xs us Q I r h
  rcases h with ⟨rfl, q⟩ | h
  · obtain ⟨u, rfl, ru⟩ := vals1 r
    cases ru
    exact PySem.P.repr_of_none ⟨.str "None", H, I.tok _, ⟨_, rfl⟩, q⟩
  · exact call_reprD hg hu pins s σ H xs us Q I r h
theorem w_reprA0 {K : PySem.W.Frag} {H : Hp} {Q : VK} (q : Q (.str "None") H) : rReprA K [.non] H Q := .inl ⟨rfl, q⟩
theorem w_reprA {K : PySem.W.Frag} {H : Hp} {Q : VK} {a : Addr} {d : PyData} (h : Dp K H (.ref a) d) (f : Fine d) (q : Q (.str d.shown) H) : rReprA K [.ref a] H Q := .inr (w_reprD h f q)
theorem w_all {K : PySem.W.Frag} {H : Hp} {Q : VK} {a : Addr} {bs : List Bool} (h : H a = some (.lst (bs.map V.bl))) (q : Q (.bl (bs.all id)) H) : rAll K [.ref a] H Q := ⟨a, bs, rfl, SqL.of h, q⟩
/-! ### slices of lists of objects, loops over tuples -/
theorem cutV_take (xs : List V) (n : Nat) : cutV xs none (some (n : Int)) = xs.take n := by
  show (xs.drop (HT.sIx xs.length 0 none)).take (HT.sIx xs.length xs.length (some (n : Int)) - HT.sIx xs.length 0 none) = xs.take n
  have e1 : HT.sIx xs.length 0 none = 0 := rfl
  have e2 : HT.sIx xs.length xs.length (some (n : Int)) = min n xs.length := by
    simp only [HT.sIx]
    rw [if_neg (by omega)]
    omega
  rw [e1, e2, List.drop_zero, Nat.sub_zero]
  by_cases h : n ≤ xs.length
  · rw [Nat.min_eq_left h]
  · rw [Nat.min_eq_right (by omega), List.take_length, List.take_of_length_le (by omega)]
theorem w_slTake {K : PySem.W.Frag} {H : Hp} {Q : VK} {a : Addr} {ps : List Addr} {n : Nat} (h : H a = some (.lst (ps.map V.ref))) (q : ∀ p, H p = none → Q (.ref p) (upd H p (.lst ((ps.take n).map V.ref)))) : rSlL K (.ref a) none (some (n : Int)) H Q :=
  ⟨a, _, rfl, SqL.of h, fun p hp => by rw [cutV_take, ← List.map_take]; exact q p hp⟩
def TupE (K : PySem.W.Frag) (R : It → Hp → Prop) : V → Hp → Prop := fun x H1 => ∃ a, x = .ref a ∧ (∃ xs, SqT K H1 a xs) ∧ R (Itt K a) H1
theorem w_iTup {K : PySem.W.Frag} {tl : TE} {σ : L2.St} {H : Hp} {R : It → Hp → Prop} (h : tl σ H (TupE K R)) : iTup K tl σ H R := h
theorem w_iTupE {K : PySem.W.Frag} {a : Addr} {xs : List V} {H : Hp} {R : It → Hp → Prop} (h : SqT K H a xs) (q : R (Itt K a) H) : TupE K R (.ref a) H := ⟨a, rfl, ⟨xs, h⟩, q⟩
theorem kc_pg {X : Cx} {K : PySem.W.Frag} {tg : Expr} {k : Nat} {t : TGs} (h : PG X tg (gTup X.K k t)) (q : X.K = K) : PG X tg (gTup K k t) := q ▸ h
/-! ### x *= y -/
def ipM : TIp := fun x y H Q => ∃ i j, x = .int i ∧ y = .int j ∧ CMulW i j ∧ Q (.int (i * j)) H
theorem ip_mul {X : Cx} : PIp X .Mult ipM := by
  intro pins s σ H x y v u Q I r1 r2 h
  obtain ⟨i, j, e1, e2, c, q⟩ := h
  subst e1; subst e2
  obtain ⟨t, rfl⟩ := r1
  obtain ⟨t', rfl⟩ := r2
  exact imul_int ⟨.int _, H, I.tok _, ⟨_, rfl⟩, q⟩ c.ok
theorem w_ipM {m n : Int} {H : Hp} {Q : VK} (c : CMulW m n) (q : Q (.int (m * n)) H) : ipM (.int m) (.int n) H Q := ⟨m, n, rfl, rfl, c, q⟩
theorem FineAll.tup {ds : List PyData} (r : FineAll ds) (b : PyData.bulkAll ds ≤ 100000) : Fine (.tuple ds) :=
  ⟨by simp only [PyData.showable]; exact r.s, by
    unfold SeqAt.shaped
    have h1 : PyData.canLay0 (.tuple ds) = true := by simp only [PyData.canLay0]; exact r.c
    have h2 : PyData.depth (.tuple ds) ≤ 64 := by
      have := r.d
      simp only [PyData.depth]
      omega
    rw [h1, decide_eq_true h2]
    rfl, by simp only [PyData.leavesShort]; exact r.l, by simp only [PyData.bulk]; exact b⟩
theorem FineAll.cons_int {i : Int} {ds : List PyData} (h : i.natAbs < 10 ^ 40) (r : FineAll ds) : FineAll (.int i :: ds) :=
  .cons (showable_int h) (by simp only [PyData.canLay0]) (by simp [PyData.depth]) (short_int h) r
theorem fine_pair {i j : Int} (hi : i.natAbs < 10 ^ 40) (hj : j.natAbs < 10 ^ 40) : Fine (dP (i, j)) := (FineAll.cons_int hi (.cons_int hj .nil)).tup (by simp [PyData.bulkAll, PyData.bulk])
theorem w_ixLR {K : PySem.W.Frag} {H : Hp} {Q : VK} {p : Addr} {ps : List Addr} {m : Int} (h : H p = some (.lst (ps.map V.ref))) (h0 : 0 ≤ m) (h1 : m < ps.length) (q : ∀ t, ps[m.toNat]? = some t → Q (.ref t) H) : rIxL K (.ref p) (.int m) H Q := by
  obtain ⟨v, hv, e, e2⟩ := atI_lt (xs := ps.map V.ref) h0 (by rw [List.length_map]; exact h1)
  rw [List.getElem?_map] at e2
  cases z : ps[m.toNat]? with
  | none =>
    rw [z] at e2
    cases e2
  | some t =>
    rw [z] at e2
    have e3 : v = .ref t := (Option.some.inj e2).symm
    subst e3
    exact w_ixL (SqL.of h) e (q t z)
theorem w_setLR {H : Hp} {p t : Addr} {ps : List Addr} {m : Int} {Q : Hp → Prop} (h : H p = some (.lst (ps.map V.ref))) (h0 : 0 ≤ m) (h1 : m < ps.length) (q : Q (upd H p (.lst ((ps.set m.toNat t).map V.ref)))) : rSetL (.ref p) (.int m) (.ref t) H Q := by
  refine ⟨p, _, m, m.toNat, rfl, rfl, h, ?_, by rw [← List.map_set]; exact q⟩
  rw [List.length_map]
  have z : ((m.toNat : Nat) : Int) = m := Int.toNat_of_nonneg h0
  unfold ixN
  rw [if_pos h0, if_pos h1]
theorem w_catR {H : Hp} {Q : VK} {p q : Addr} {ps qs : List Addr} (h1 : H p = some (.lst (ps.map V.ref))) (h2 : H q = some (.lst (qs.map V.ref))) (hz : ps.length + qs.length ≤ 16777216) (k : ∀ r, H r = none → Q (.ref r) (upd H r (.lst ((ps ++ qs).map V.ref)))) : rCat (.ref p) (.ref q) H Q :=
  ⟨p, q, _, _, rfl, rfl, h1, h2, szle' (by rw [List.length_map, List.length_map]; exact hz), fun r hr => by rw [← List.map_append]; exact k r hr⟩
def Par3E (i j l : Nat) (R : L2.St → Hp → Prop) (σ : L2.St) : List V → Hp → Prop := fun vs H1 => ∃ u v w, vs = [u, v, w] ∧ R (((σ.set i (some u)).set j (some v)).set l (some w)) H1
theorem w_par3 {i j l : Nat} {tA : TA} {D : Ends} {σ : L2.St} {H : Hp} (h : tA σ H (Par3E i j l (D.nx) σ)) : tPar3 i j l tA D σ H := h
theorem w_par3E {i j l : Nat} {R : L2.St → Hp → Prop} {σ : L2.St} {H : Hp} {x y z : V} (q : R (((σ.set i (some x)).set j (some y)).set l (some z)) H) : Par3E i j l R σ [x, y, z] H := ⟨x, y, z, rfl, q⟩
/-! ### defs that call themselves -/
def spNo : Sp := fun _ _ _ _ => False
theorem FunAt.never {P : Program} {w : World} {K : PySem.W.Frag} {mg : Str → Option Value} {base : Heap} {x : Str} {st : Stmt} {k : Nat} {ps : List Str} (F : FunAt K mg x st)
    (hb : ∀ (kV doc pm : Value) (an : Option Addr) (cdv ct : Value) (us : List Value), us.length = ps.length → bindArgs (PySem.W.fnOf x x (defArgs st) (defBody st) (defScope st) .none kV doc pm an cdv ct) ⟨us, []⟩ = pure (ps.zip us)) : DefAt P w K mg base x st k ps spNo := by
  obtain ⟨f, fd, hm, F⟩ := F.ex
  exact ⟨f, fd, hm, F, ⟨fun _ _ _ _ h => h.elim, fun _ _ _ _ _ _ _ _ _ _ _ _ _ h => h.elim⟩, F.binds hb⟩
/-! ### lists of lists of numbers -/
structure ListsAt (H : Hp) (ps : List Addr) (xss : List (List Int)) : Prop where
  len : ps.length = xss.length
  at_ : ∀ (i : Nat) (p : Addr) (xs : List Int), ps[i]? = some p → xss[i]? = some xs → H p = some (.lst (xs.map V.int))
theorem ListsAt.nil {H : Hp} : ListsAt H [] [] := ⟨rfl, by simp⟩
theorem ListsAt.fr {H H' : Hp} {ps : List Addr} {xss : List (List Int)} (h : ListsAt H ps xss) (f : Fr [] H H') : ListsAt H' ps xss := ⟨h.len, fun i p l h1 h2 => f.at0 (h.at_ i p l h1 h2)⟩
theorem ListsAt.app {H : Hp} {ps qs : List Addr} {xss yss : List (List Int)} (h : ListsAt H ps xss) (k : ListsAt H qs yss) : ListsAt H (ps ++ qs) (xss ++ yss) := by
  refine ⟨by simp [h.len, k.len], fun i q m h1 h2 => ?_⟩
  have hl := h.len
  by_cases hi : i < ps.length
  · rw [List.getElem?_append_left hi] at h1
    rw [List.getElem?_append_left (by omega)] at h2
    exact h.at_ i q m h1 h2
  · rw [List.getElem?_append_right (by omega)] at h1
    rw [List.getElem?_append_right (by omega), ← hl] at h2
    exact k.at_ _ q m h1 h2
theorem ListsAt.one {H : Hp} {p : Addr} {xs : List Int} (h : H p = some (.lst (xs.map V.int))) : ListsAt H [p] [xs] := ⟨rfl, fun i q m h1 h2 => by
  match i, h1, h2 with
  | 0, h1, h2 =>
    have e1 : p = q := by simpa using h1
    have e2 : xs = m := by simpa using h2
    subst e1 e2
    exact h
  | i + 1, h1, h2 => simp at h1⟩
theorem ListsAt.put {H : Hp} {a : Addr} {o : HO} {ps : List Addr} {xss : List (List Int)} (h : ListsAt H ps xss) (ha : a ∉ ps) : ListsAt (upd H a o) ps xss :=
  ⟨h.len, fun i q m h1 h2 => by
    have hne : q ≠ a := fun e => ha (e ▸ List.mem_of_getElem? h1)
    rw [upd_ne hne]
    exact h.at_ i q m h1 h2⟩
theorem dpAll_lists {K : PySem.W.Frag} {H : Hp} : ∀ {ps : List Addr} {xss : List (List Int)}, ListsAt H ps xss → DpAll K H (ps.map V.ref) (xss.map dI)
  | [], [], _ => .nil
  | [], _ :: _, h => by cases h.len
  | _ :: _, [], h => by cases h.len
  | p :: ps, l :: ls, h => .cons (dp_ints (SqL.of (h.at_ 0 p l rfl rfl))) (dpAll_lists ⟨by simpa using h.len, fun i q m h1 h2 => h.at_ (i + 1) q m (by simpa using h1) (by simpa using h2)⟩)
theorem canLay_lists : ∀ ls : List (List Int), PyData.canLayAll0 (ls.map dI) = true
  | [] => rfl
  | l :: ls => by
    have ih := canLay_lists ls
    have h1 : PyData.canLay0 (dI l) = true := by simp only [dI, PyData.canLay0]; exact canLay_ints l
    simp only [List.map_cons, PyData.canLayAll0, h1, ih, Bool.and_self]
theorem depth_lists : ∀ ls : List (List Int), PyData.depthAll (ls.map dI) ≤ 3
  | [] => by simp [PyData.depthAll]
  | l :: ls => by
    have ih := depth_lists ls
    have h1 : PyData.depth (dI l) ≤ 2 := by
      have := depth_ints l
      simp only [dI, PyData.depth]
      omega
    simp only [List.map_cons, PyData.depthAll]
    omega
theorem shaped_lists (ls : List (List Int)) : SeqAt.shaped (.list (ls.map dI)) = true := by
  unfold SeqAt.shaped
  have h1 : PyData.canLay0 (.list (ls.map dI)) = true := by simp only [PyData.canLay0]; exact canLay_lists ls
  have h2 : PyData.depth (.list (ls.map dI)) ≤ 64 := by
    have := depth_lists ls
    simp only [PyData.depth]
    omega
  rw [h1, decide_eq_true h2]
  rfl
theorem w_neNilL {K : PySem.W.Frag} {H : Hp} {Q : VK} {a b : Addr} {ps : List Addr} {xss : List (List Int)} (ha : H a = some (.lst (ps.map V.ref))) (hb : H b = some (.lst [])) (h1 : ListsAt H ps xss) (k : Q (.bl (!decide (xss = []))) H) : rNeD K (.ref a) (.ref b) H Q :=
  ⟨_, _, .lst (SqL.of ha) (dpAll_lists h1), .lst (SqL.of hb) (dpAll_lists (ps := []) (xss := []) .nil), shaped_lists _, shaped_lists _, by
    have e : PyData.eqv (.list (xss.map dI)) (.list (([] : List (List Int)).map dI)) = decide (xss = []) := by
      simp only [PyData.eqv]
      cases xss with
      | nil => simp [PyData.eqvAll]
      | cons x xs => simp [PyData.eqvAll]
    rw [e]
    exact k⟩
theorem FineAll.cons_pair {l : Int × Int} {ds : List PyData} (hi : l.1.natAbs < 10 ^ 40) (hj : l.2.natAbs < 10 ^ 40) (r : FineAll ds) : FineAll (dP l :: ds) := by
  have f : FineAll [PyData.int l.1, PyData.int l.2] := FineAll.cons_int hi (.cons_int hj .nil)
  exact .cons (by simp only [dP, PyData.showable]; exact f.s) (by simp only [dP, PyData.canLay0]; exact f.c) (by simp [dP, PyData.depth, PyData.depthAll]) (by simp only [dP, PyData.leavesShort]; exact f.l) r
theorem fineAll_pairs : ∀ {ls : List (Int × Int)}, (∀ l ∈ ls, l.1.natAbs < 10 ^ 40 ∧ l.2.natAbs < 10 ^ 40) → FineAll (ls.map dP)
  | [], _ => .nil
  | l :: ls, h => .cons_pair (h l List.mem_cons_self).1 (h l List.mem_cons_self).2 (fineAll_pairs fun m hm => h m (List.mem_cons_of_mem _ hm))
theorem bulk_pairs : ∀ ls : List (Int × Int), PyData.bulkAll (ls.map dP) ≤ 10 * ls.length
  | [] => by simp [PyData.bulkAll]
  | l :: ls => by
    have ih := bulk_pairs ls
    have h1 : PyData.bulk (dP l) ≤ 5 := by simp [dP, PyData.bulk, PyData.bulkAll]
    simp only [List.map_cons, PyData.bulkAll, List.length_cons]
    omega
theorem fine_pairs {ls : List (Int × Int)} (h : ∀ l ∈ ls, l.1.natAbs < 10 ^ 40 ∧ l.2.natAbs < 10 ^ 40) (hl : ls.length ≤ 1000) : Fine (.list (ls.map dP)) :=
  (fineAll_pairs h).fine (by have := bulk_pairs ls; omega)
/-! ### repr of a great number, where no limit of digits was set -/
def rReprBig : List V → Hp → VK → Prop := fun xs H Q => ∃ i : Int, xs = [.int i] ∧ i.natAbs < 10 ^ 4300 ∧ Q (.str (toString i)) H
theorem nodigits_of {K : PySem.W.Frag} {h : Heap} (X : K.In h) (hl : h.NoLimit) (nd : PySem.W.nsIn K cStatics "sys.int_max_str_digits" = some none) : h.NoDigits := by
  obtain ⟨mc, hn, _⟩ := hl
  exact ⟨mc, hn, PySem.W.ns_none_of X hn nd⟩
theorem call_reprBig {X : Cx} (nd : PySem.W.nsIn X.K cStatics "sys.int_max_str_digits" = some none) (hu : X.A.units + 100 < cLine) (hc : X.calm = true := by rfl) : CallR X (.builtin "repr") rReprBig := by
  intro pins s σ H xs us Q I r h
  obtain ⟨i, rfl, hz, q⟩ := h
  obtain ⟨u, rfl, t, rfl⟩ := vals1 r
  exact call_repr_slot (by omega) (typeIs_int s i t) PySem.F.slot_int_repr.toG (PyProof.Rows.call_int_repr_or (A := X.A.in1) (I.ok.hd hc) (nodigits_of I.kIn I.nolimit nd) (fun _ => ⟨_, _, rfl, .str _, H, I.tok _, ⟨_, rfl⟩, q⟩) fun hge => absurd hz (Nat.not_lt.mpr hge))
theorem w_reprBig {i : Int} {H : Hp} {Q : VK} (h : i.natAbs < 10 ^ 4300) (q : Q (.str (toString i)) H) : rReprBig [.int i] H Q := ⟨i, rfl, h, q⟩
/-! ### dicts with int keys -/
section
variable {K : PySem.W.Frag} {σ : L2.St} {H : Hp} {td ty : TE} {Q : VK} {a : Addr} {kvs kvs' : List (Key × V)} {k : Int} {v x : V} {R : Hp → Prop}
theorem w_dnewK (q : ∀ p, H p = none → Q (.ref p) (upd H p (.dK []))) : tDNewK σ H Q := q
theorem w_dgetI (h : H a = some (.dK kvs)) (e : valV kvs (.inl k) = some v) (q : Q v H) : DGE (.ref a) Q (.int k) H := ⟨a, v, rfl, by rw [← e]; exact DGet.k (k := .inl k) h, q⟩
theorem w_dputI (h : H a = some (.dK kvs)) (hl : kvs.length < 16777216) (q : R (upd H a (.dK (putK kvs (.inl k) v)))) : DPE (.ref a) v R (.int k) H := ⟨a, _, rfl, DPut.k (k := .inl k) h (szlt hl), q⟩
def DNE (Q : VK) (y : V) : V → Hp → Prop := fun x H2 => ∃ a o, x = .ref a ∧ DGet H2 a y o ∧ Q (.bl (!o.isSome)) H2
theorem w_dnotIn (h : ty σ H fun y H1 => td σ H1 (DNE Q y)) : tDNotIn ty td σ H Q := h
theorem w_dnotInE (h : H a = some (.dK kvs)) (q : Q (.bl (!(valV kvs (.inl k)).isSome)) H) : DNE Q (.int k) (.ref a) H := ⟨a, _, rfl, DGet.k (k := .inl k) h, q⟩
end
end Pg

namespace Pg
open PySem PySem.Spec PyProof.Rows L2
/-! ### an exception that was caught, as a thing of the heap -/
def exh (a : Addr) (cls : Value) (d : Option Addr) : HO := .ext fun h => ∃ oe vs, h.get? a = some oe ∧ Zc cls d oe ∧ oe.data = .fields vs
theorem exh_ok {P : Program} {w : World} {H : Hp} {h : Heap} {a : Addr} {cls : Value} {d : Option Addr} {oe : Obj} {vs : Array Value} (e : h.get? a = some oe) (z : Zc cls d oe) (f : oe.data = .fields vs) : ObjOk P w H h a (exh a cls d) :=
  ⟨⟨oe, vs, e, z, f⟩, ⟨oe, e⟩, fun h1 h2 ⟨o, v, e1, z1, f1⟩ k => ⟨o, v, k _ e1, z1, f1⟩⟩
theorem exh_at {P : Program} {w : World} {H : Hp} {h : Heap} {a : Addr} {cls : Value} {d : Option Addr} (hok : HOk P w H h) (e : H a = some (exh a cls d)) : ∃ oe vs, h.get? a = some oe ∧ Zc cls d oe ∧ oe.data = .fields vs := by
  have x : ObjOk P w H h a (.ext fun h => ∃ oe vs, h.get? a = some oe ∧ Zc cls d oe ∧ oe.data = .fields vs) := hok a _ e
  exact x.1
section
variable {X : Cx} {pins : List (Addr × Obj)} {σ : L2.St} {H : Hp} {s : Shared} {a : Addr} {oe : Obj} {vs : Array Value} {cls : Value} {d : Option Addr}
/-- the exception is tracked from here on -/
theorem Inv.hold (I : Inv X pins σ H s) (ha : s.heap.get? a = some oe) (hz : Zc cls d oe) (hd : oe.data = .fields vs) (na : H a = none) (n0 : X.s_0.heap.get? a = none) (nL : a ≠ X.env.locals) (np : ∀ p ∈ X.pn ++ pins, p.1 ≠ a) :
    Inv X pins σ (upd H a (exh a cls d)) s := by
  have ne : ∀ {b : Addr} {o : HO}, H b = some o → b ≠ a := fun {b o} e z => by
    rw [z, na] at e
    cases e
  have n0' : ∀ b o, X.s_0.heap.get? b = some o → b ≠ a := fun b o e z => by
    rw [z, n0] at e
    cases e
  refine ⟨I.ok, I.os, I.bare, ⟨I.base.keep, I.base.slot, fun b o e n hx => ?_, I.base.there, fun b xs e => ?_, fun b o u e => ?_, fun b ps e => ?_⟩, I.loc, I.cell, ?_, fun x c e => ?_, fun p hp => ?_, fun b o e => ?_, I.len⟩
  · rw [upd_ne (n0' b o e)]
    exact I.base.free b o e n hx
  · have z := I.base.tups b xs e
    rw [upd_ne (ne z)]
    exact z
  · have z := I.base.frzs b o u e
    rw [upd_ne (ne z)]
    exact z
  · obtain ⟨more, z⟩ := I.base.tbls b ps e
    exact ⟨more, by rw [upd_ne (ne z)]; exact z⟩
  · rw [upd_ne nL.symm]
    exact I.free
  · have hc : c ≠ a := fun z => by
      obtain ⟨v, o, e1, e2⟩ := I.cell x c e
      rw [z, ha] at e1
      cases e1
      rw [hd] at e2
      cases e2
    rw [upd_ne hc]
    exact I.freeC x c e
  · obtain ⟨z1, z2, z3⟩ := I.pin p hp
    exact ⟨z1, by rw [upd_ne (np p hp)]; exact z2, z3⟩
  · by_cases hb : b = a
    · subst hb
      rw [upd_same] at e
      cases e
      exact exh_ok ha hz hd
    · rw [upd_ne hb] at e
      exact (I.hok b o e).stay (fun _ _ _ q => q) (fun c hc => by rw [upd_ne (ne hc)]; exact hc) (fun c xs hc => by rw [upd_ne (ne hc)]; exact hc)
theorem Inv.toSuite (I : Inv X pins σ H s) (a : Addr) : Inv (X.suite a (X.pn ++ pins)) [] σ H s :=
  ⟨I.ok.suite _ _, I.os, I.bare, I.base, I.loc, I.cell, I.free, I.freeC, fun p hp => I.pin p (by rw [List.append_nil] at hp; exact hp), I.hok, I.len⟩
theorem Inv.ofSuite {pn' : List (Addr × Obj)} (I : Inv (X.suite a (X.pn ++ pins)) pn' σ H s) (ok : X.Ok) : Inv X pins σ H s :=
  ⟨ok, I.os, I.bare, I.base, I.loc, I.cell, I.free, I.freeC, fun p hp => I.pin p (List.mem_append_left _ hp), I.hok, I.len⟩
end
/-- what 'except x as n' wishes of an exception of the body: slot i is n's; the suite finds the exception in the heap -/
def wCau (K : PySem.W.Frag) (c : Value) (i : Nat) (ts : TS) (Wout : WX) (D : Ends) : WX := fun cls d σ H =>
  ∃ b, PySem.W.exmOne K cls c = some b ∧ (b = true → ∀ a, H a = none → ts { nx := fun σ' H' => D.nx (σ'.set i none) H', rt := D.rt, bk := fun σ' H' => D.bk (σ'.set i none) H', ct := fun σ' H' => D.ct (σ'.set i none) H' } (σ.set i (some (.ref a))) (upd H a (exh a cls d))) ∧
    (b = false → Wout cls d σ H)
/-- its reading -/
def tTryH (K : PySem.W.Frag) (c : Value) (i : Nat) (tb : WX → TS) (ts : TS) (Wout : WX) : TS := fun D σ H => tb (wCau K c i ts Wout D) D σ H
section
variable {X : Cx} {x n : Str} {c : Value} {i : Nat} {body suite : List Stmt} {b₀ : Stmt} {np pos pos' : Pos} {tb : WX → TS} {ts : TS} {Wout : WX}
theorem ps_tryH (hs : X.stack = X.env :: X.outer) (hf : X.env.frame = some X.env.locals) (hex : X.ex = []) (hN : X.N.Nodup) (hi : X.N[i]? = some n) (hln : X.env.kindOf n = some .local) (hc : Names X x c) (tk : Takes X Wout)
    (hb : ∀ (W : WX) (pn : List (Addr × Obj)) (xe : Value → Shared → Prop), Takes (X.tr pn xe) W → PassesOwn (model X.prog X.w) X.A X.env xe → PSs (X.tr pn xe) body (tb W))
    (hsu : ∀ (a : Addr) (pn : List (Addr × Obj)), PSs (X.suite a pn) (b₀ :: suite) ts) :
    PS X (.Try body [.ExceptHandler (some (.Name x np)) (some n) (b₀ :: suite) pos'] [] [] pos) (tTryH X.K c i tb ts Wout) := by
  refine ⟨fun pins s σ H D I h => ?_⟩
  have ok := I.ok
  have hfr : X.A.frames = some (X.env :: X.outer) := by rw [ok.frames, hs]
  refine wpAny_Try_except (wpAny_mono ((hb (wCau X.K c i ts Wout D) (X.pn ++ pins) _ (fun u s' xx => ?_) PassesOwn.looking).run [] s σ H D (I.toTry _) h) (fun f s1 hsp => ?_) (fun e s1 he => he))
  · obtain ⟨a, B, sI, pins', σ', H', cls, d, rfl, J', nb, up, sky, na, os, ag, b, hb1, hyes, hno⟩ := xx
    have J : Inv X pins σ' H' sI := J'.ofTry ok
    have sky' : Sky B (X.env :: X.outer) a (Zc cls d) X.env.locals s'.heap := by rw [← hs]; exact sky
    show wpAny (model X.prog X.w) X.A (noteFrame (.ref a) X.env) _ _ _
    refine Sky.land Zc.steady hfr hf sky' fun h3 fl3 up3 => ?_
    have J3 : Inv X pins σ' H' { s' with heap := h3 } := J.landed nb fl3.1 (up.trans up3) os ag
    obtain ⟨oe3, vs3, he3, hz3, hd3⟩ := fl3.there
    have nfr : a ∉ frs (X.env :: X.outer) := fun hm => by
      obtain ⟨_, o', e', hnf⟩ := fl3.2.2.1.mem hm
      rw [he3] at e'
      cases e'
      exact hnf _ hd3
    have nL : a ≠ X.env.locals := fun z => nfr (List.mem_filterMap.mpr ⟨X.env, List.mem_cons_self, by rw [hf, z]⟩)
    -- where the exception stands nothing stood
    have nI : sI.heap.get? a = none := by
      cases q : sI.heap.get? a with
      | none => rfl
      | some o =>
        have z := nb a o q (by rw [hs]; exact nfr)
        have z2 := fl3.2.1
        rw [z] at z2
        cases z2
    have n0 : X.s_0.heap.get? a = none := by
      cases q : X.s_0.heap.get? a with
      | none => rfl
      | some o =>
        obtain ⟨o', z⟩ := J.base.there a o q (by rw [hex]; simp)
        rw [nI] at z
        cases z
    have npn : ∀ p ∈ X.pn ++ pins, p.1 ≠ a := fun p hp z => by
      have z1 := (J.pin p hp).1
      rw [z, nI] at z1
      cases z1
    refine wpAny_handleBy_cons (codeAny_handlers_test ?_) (by intro q; cases q)
    have S3 := Inv.toSuite J3 a
    have LT : PySem.W.Looks (model X.prog X.w) h3 (typeOf (.ref a)) cls := fun A Q E s k q => wpAny_typeOf_ref (k _ _ he3) (by rw [hz3.1]; exact q)
    have LM := PySem.W.exm_one (M := model X.prog X.w) (J3.kIn) LT hb1
    have test : ∀ {Q : Value → Shared → Prop} {E : Value → Shared → Prop}, Q c { s' with heap := h3 } → wpAny (model X.prog X.w) (X.A.mark (some (.ref a))) (eval (.Name x np) X.env) Q E { s' with heap := h3 } := fun {Q E} q => by
      obtain ⟨hg, hdbg, hm | ⟨hm, hv, hnn⟩⟩ := hc
      · exact ld_glob (X := X.suite a (X.pn ++ pins)) S3 hg hm q hdbg
      · exact ld_blt (X := X.suite a (X.pn ++ pins)) S3 hg hm hv q hnn hdbg
    refine test (LM.here ?_)
    cases b with
    | true =>
      refine codeAny_handlers_suite_as ?_
      refine HandSPX.lands_againZ fl3 fun h4 fl4 up4 => ?_
      have J4 : Inv X pins σ' H' { s' with heap := h4 } := J.landed nb fl4.1 ((up.trans up3).trans up4) os ag
      obtain ⟨oe4, vs4, he4, hz4, hd4⟩ := fl4.there
      have S4 := Inv.toSuite (Inv.hold J4 he4 hz4 hd4 na n0 nL npn) a
      refine store_ok (X := X.suite a (X.pn ++ pins)) (v := .ref a) S4 hN hi (.inl hln) rfl (fun s5 S5 => ?_) (.inr hln)
      refine wpAny_mono ((hsu a (X.pn ++ pins)).run [] s5 _ _ _ S5 (hyes rfl a na)) (fun f s6 hsp => ?_) (fun _ _ z => False.elim z)
      have end_ : ∀ {σ6 : L2.St} {H6 : Hp} {Q : Shared → Prop}, Inv (X.suite a (X.pn ++ pins)) [] σ6 H6 s6 → (∀ s7, Inv X pins (σ6.set i none) H6 s7 → Q s7) →
          wpAny (model X.prog X.w) X.A (do bindName X.env n .none; unbindBehindTheSuite X.env n pos') (fun _ s7 => Q s7) X.xe s6 := fun {σ6 H6 Q} S6 hq => gone_ok (Inv.ofSuite S6 ok) hN hi hln hq
      cases f with
      | next =>
        obtain ⟨σ6, H6, S6, q6⟩ := hsp
        exact end_ S6 fun s7 J7 => ⟨_, _, J7, q6⟩
      | brk =>
        obtain ⟨σ6, H6, S6, q6⟩ := hsp
        exact end_ S6 fun s7 J7 => ⟨_, _, J7, q6⟩
      | cont =>
        obtain ⟨σ6, H6, S6, q6⟩ := hsp
        exact end_ S6 fun s7 J7 => ⟨_, _, J7, q6⟩
      | ret u =>
        obtain ⟨v6, σ6, H6, S6, r6, q6⟩ := hsp
        exact end_ S6 fun s7 J7 => ⟨_, _, _, J7, r6, q6⟩
    | false =>
      show wpAny _ X.A (handleBy (.ref a) X.env []) _ _ _
      refine wpAny_handleBy_nil ?_
      obtain ⟨k1, k2, k3, oe, vs, T, oT, ts', he, hz, hd, h1, hr⟩ := id fl3
      unfold PySem.passOn
      refine wpAny_bind (wpAny_field he hd h1 ?_)
      rw [if_neg (show ¬ ((Value.ref T == Value.none) = true) from by simp)]
      have fin : wpAny (model X.prog X.w) X.A (setFlight (.ref a) X.env.frame) (fun _ s4 => wpAny (model X.prog X.w) X.A (throw (.ref a) : Sem Flow) (SP X pins D) X.xe s4) X.xe { s' with heap := h3 } := by
        rw [hf]
        refine HandSPX.setFlight_upZ fl3 fun h4 hh4 up4 => wpAny_throw (tk _ _ ?_)
        exact ⟨a, B, sI, pins, σ', H', cls, d, rfl, J, nb, (up.trans up3).trans up4, .inr (.inr (by rw [hs]; exact hh4)), na, os, ag, hno rfl⟩
      first
        | exact wpAny_bind (wpAny_pure (wpAny_bind fin))
        | exact wpAny_bind fin
  · cases f with
    | next =>
      obtain ⟨σ', H', J', q⟩ := hsp
      exact wpAny_execs_nil ⟨σ', H', J'.ofTry ok, q⟩
    | brk =>
      obtain ⟨σ', H', J', q⟩ := hsp
      exact ⟨σ', H', J'.ofTry ok, q⟩
    | cont =>
      obtain ⟨σ', H', J', q⟩ := hsp
      exact ⟨σ', H', J'.ofTry ok, q⟩
    | ret u =>
      obtain ⟨v, σ', H', J', r, q⟩ := hsp
      exact ⟨v, σ', H', J'.ofTry ok, r, q⟩
end
/-! ### defs that may raise -/
structure DefAtX (P : Program) (w : World) (K : PySem.W.Frag) (mg : Str → Option Value) (base : Heap) (x : Str) (st : Stmt) (k : Nat) (ps : List Str) (sp : Sp) : Prop where
  ex : ∃ f fd, mg x = some (.ref f) ∧ Fun K x x st f fd ∧ FnOk P w K mg base (L2.CX P w) k f fd ps sp ∧ Binds K fd ps []
structure MDefAtX (P : Program) (w : World) (K : PySem.W.Frag) (mg : Str → Option Value) (base : Heap) (C : Addr) (m qual : Str) (st : Stmt) (k : Nat) (ps : List Str) (sp : Sp) : Prop where
  ex : ∃ f fd, Meth K C m f ∧ Fun K m qual st f fd ∧ FnOk P w K mg base (L2.CX P w) k f fd ps sp ∧ Binds K fd ps []
section
variable {P : Program} {w : World} {K : PySem.W.Frag} {mg : Str → Option Value} {base : Heap} {x m qual : Str} {st : Stmt} {k : Nat} {ps N : List Str} {sp : Sp} {C : Addr}
theorem FunAt.okX (F : FunAt K mg x st) (S : FnScope N ps (defScope st)) (len : ∀ vs H Q E, sp vs H Q E → vs.length = ps.length)
    (hb : ∀ (kV doc pm : Value) (an : Option Addr) (cdv ct : Value) (us : List Value), us.length = ps.length → bindArgs (PySem.W.fnOf x x (defArgs st) (defBody st) (defScope st) .none kV doc pm an cdv ct) ⟨us, []⟩ = pure (ps.zip us))
    (hbody : ∀ (f : Addr) (cdv : Value) (A : Around) (outer : List Env) (s : Shared) (H : Hp) (vs : List V) (Q : VK) (E : XK), Room k (A.deeper (envOfC x (defScope st) s.heap.objs.size f cdv)) → sp vs H Q E →
      ∃ t, PSs (cxOf (L2.CX P w) P w K mg base N x (defScope st) f cdv A outer s H E) (defBody st) t ∧ t { nx := fun _ H' => Q .non H', rt := Q } (start N vs) H) : DefAtX P w K mg base x st (k + 1) ps sp := by
  obtain ⟨f, fd, hm, F⟩ := F.ex
  exact ⟨f, fd, hm, F, F.okX S len (fun cdv A outer s H vs Q E hr h => hbody f cdv A outer s H vs Q E hr h), F.binds hb⟩
theorem MethAt.okX (F : MethAt K C m qual st) (S : FnScope N ps (defScope st)) (len : ∀ vs H Q E, sp vs H Q E → vs.length = ps.length)
    (hb : ∀ (kV doc pm : Value) (an : Option Addr) (cdv ct : Value) (us : List Value), us.length = ps.length → bindArgs (PySem.W.fnOf m qual (defArgs st) (defBody st) (defScope st) .none kV doc pm an cdv ct) ⟨us, []⟩ = pure (ps.zip us))
    (hbody : ∀ (f : Addr) (cdv : Value) (A : Around) (outer : List Env) (s : Shared) (H : Hp) (vs : List V) (Q : VK) (E : XK), Room k (A.deeper (envOfC qual (defScope st) s.heap.objs.size f cdv)) → sp vs H Q E →
      ∃ t, PSs (cxOf (L2.CX P w) P w K mg base N qual (defScope st) f cdv A outer s H E) (defBody st) t ∧ t { nx := fun _ H' => Q .non H', rt := Q } (start N vs) H) : MDefAtX P w K mg base C m qual st (k + 1) ps sp := by
  obtain ⟨f, fd, hm, F⟩ := F.ex
  exact ⟨f, fd, hm, F, F.okX S len (fun cdv A outer s H vs Q E hr h => hbody f cdv A outer s H vs Q E hr h), F.binds hb⟩
end
/-! ### .. called -/
abbrev wAt (W : WX) (σ : L2.St) : XK := fun cls d H => W cls d σ H
def tCallX (sp : Sp) (W : WX) (t : TA) : TE := fun σ H Q => t σ H fun vs H1 => sp vs H1 Q (wAt W σ)
def tCallXK (n : Nat) (ix : List Nat) (sp : Sp) (W : WX) (tk : TA) : TE := fun σ H Q => tk σ H fun zs H2 => zs.length = n ∧ sp (pick ix zs) H2 Q (wAt W σ)
def tMethX (C : Addr) (m : Str) (sp : Sp) (W : WX) (ta : TE) (t : TA) : TE := fun σ H Q => ta σ H fun x H1 => ∃ a dx fs, x = .ref a ∧ H1 a = some (.ins C dx fs) ∧ fs.lookup m = none ∧ t σ H1 fun vs H2 => sp (x :: vs) H2 Q (wAt W σ)
def tMethXK (C : Addr) (m : Str) (n : Nat) (ix : List Nat) (sp : Sp) (W : WX) (ta : TE) (tk : TA) : TE := fun σ H Q => ta σ H fun x H1 => ∃ a dx fs, x = .ref a ∧ H1 a = some (.ins C dx fs) ∧ fs.lookup m = none ∧ tk σ H1 fun zs H2 => zs.length = n ∧ sp (x :: pick ix zs) H2 Q (wAt W σ)
def tMakeX (C : Addr) (sp : Sp) (W : WX) (t : TA) : TE := fun σ H Q => t σ H fun vs H1 => ∀ x dx, H1 x = none → H1 dx = none → dx ≠ x →
  sp (.ref x :: vs) (upd (upd H1 dx (.own x)) x (.ins C dx [])) (fun v H3 => v = .non ∧ Q (.ref x) H3) (wAt W σ)
def tMakeXK (C : Addr) (n : Nat) (ix : List Nat) (sp : Sp) (W : WX) (tk : TA) : TE := fun σ H Q => tk σ H fun zs H1 => zs.length = n ∧ ∀ x dx, H1 x = none → H1 dx = none → dx ≠ x →
  sp (.ref x :: pick ix zs) (upd (upd H1 dx (.own x)) x (.ins C dx [])) (fun v H3 => v = .non ∧ Q (.ref x) H3) (wAt W σ)
section
variable {X : Cx} {x m qual : Str} {st : Stmt} {k n : Nat} {ps ks : List Str} {sp : Sp} {C : Addr} {e o : Expr} {es : List Expr} {kws : List Keyword} {t tk : TA} {ta : TE} {p pos apos : Pos} {W : WX} {ix : List Nat} {CX : CXT} {f : Addr} {fd : FuncData}
/-- the callee runs; what it lets out is taken at these slots -/
theorem run_at {pins : List (Addr × Obj)} {σ : L2.St} {H : Hp} {s : Shared} {Q : VK} {E : XK} {us us' : List Value} {kw : List (Str × Value)} {vs : List V} (F : FnOk X.prog X.w X.K X.mg X.base CX k f fd ps sp) (hr : Room k X.A) (hx : PassesAt CX X σ E)
    (I : Inv X pins σ H s) (b : BindsTo s fd ⟨us, kw⟩ (ps.zip us')) (r : Vals vs us') (h : sp vs H Q E) : wpAny (model X.prog X.w) X.A (call (.ref f) us kw) (EP X pins σ Q) X.xe s := by
  refine wpAny_call (codeAny_mono (F.run X.A X.stack s H ⟨us, kw⟩ us' vs Q E hr I.env0 b r h) fun q s' hq => ?_)
  cases q with
  | error e => exact hx pins H s e s' I hq
  | ok fl =>
    cases fl with
    | ret u => exact I.after hq
    | next => exact False.elim hq
    | brk => exact False.elim hq
    | cont => exact False.elim hq
theorem run_makeAt {pins : List (Addr × Obj)} {σ : L2.St} {H : Hp} {s : Shared} {Q : VK} {E : XK} {us us' : List Value} {kw : List (Str × Value)} {vs : List V} (M : Mk X.K C f) (F : FnOk X.prog X.w X.K X.mg X.base CX k f fd ps sp) (hr : Room (k + 1) X.A) (hx : PassesAt CX X σ E)
    (I : Inv X pins σ H s) (b : ∀ (s' : Shared) (a : Addr), vs.length + 1 = ps.length → X.K.In s'.heap → BindsTo s' fd ⟨.ref a :: us, kw⟩ (ps.zip (.ref a :: us'))) (r : Vals vs us')
    (h : ∀ x dx, H x = none → H dx = none → dx ≠ x → sp (.ref x :: vs) (upd (upd H dx (.own x)) x (.ins C dx [])) (fun v H2 => v = .non ∧ Q (.ref x) H2) E) :
    wpAny (model X.prog X.w) X.A (call (.ref C) us kw) (EP X pins σ Q) X.xe s := by
  have hq := h (s.heap.objs.size + 1) s.heap.objs.size (I.hok.fresh (Nat.le_succ _)) (I.hok.fresh (Nat.le_refl _)) (Nat.ne_of_lt (Nat.lt_succ_self _))
  have I2 := Inv.made (C := C) I
  have r2 : Vals (V.ref (s.heap.objs.size + 1) :: vs) (Value.ref (s.heap.objs.size + 1) :: us') := .cons rfl r
  refine wpAny_call (make_map (f := f) I.kIn M.makes M.init (beq_iff_eq.mp M.fn) (codeAny_mono (F.run _ X.stack _ _ ⟨Value.ref (s.heap.objs.size + 1) :: us, kw⟩ _ _ _ E (hr.make C us kw) (I2.env0.make C us kw) (b _ _ (F.len _ _ _ _ hq) I2.kIn) r2 hq) fun q s' hq' => ?_))
  cases q with
  | error e => exact hx pins _ _ e s' I2 hq'
  | ok fl =>
    cases fl with
    | ret u =>
      obtain ⟨v, H', I3, rv, ev, q3⟩ := I2.after hq'
      subst ev
      exact ⟨rv, ⟨V.ref (s.heap.objs.size + 1), H', I3, rfl, q3⟩⟩
    | next => exact False.elim hq'
    | brk => exact False.elim hq'
    | cont => exact False.elim hq'
theorem binds0 {K : PySem.W.Frag} {s : Shared} {us : List Value} {vs : List V} (hb : Binds K fd ps []) (r : Vals vs us) (hl : vs.length = ps.length) (k : K.In s.heap) : BindsTo s fd ⟨us, []⟩ (ps.zip us) := by
  have b := hb s us k (by rw [List.append_nil, ← r.length]; exact hl)
  rw [List.append_nil] at b
  exact b
theorem pe_callX (D : DefAtX X.prog X.w X.K X.mg X.base x st k ps sp) (hr : Room k X.A) (tkn : Takes X W) (ha : PA X (e :: es) t) (hg : Gl X x := by rfl)
    (hdb : (x == ("__debug__" : Str)) = false := by decide) (he : starEach (e :: es) X.env = (false, eval e X.env) :: starEach es X.env := by rfl) (hpl : (backTo pos (starEach es X.env)).any (·.1) = false := by rfl) :
    PE X (.Call (.Name x p) (e :: es) [] pos) (tCallX sp W t) := by
  obtain ⟨f, fd, hm, F, G, b⟩ := D.ex
  refine ⟨fun pins s σ H Q I h => ?_⟩
  refine wpAny_Call_Name_kw (ld_glob I hg hm ?_ hdb)
  refine PySem.W.callWith_K (h₀ := X.base) I.ok.mod.kin F.kp (thn (ha.run pos pins s σ H _ I h) fun us s1 ⟨vs, H1, I1, r, q⟩ => ⟨I1.kIn, ?_⟩) he hpl
  exact run_at (us := us) G hr (L2.passAt tkn σ) I1 (binds0 b r (G.len _ _ _ _ q) I1.kIn) r q
theorem pe_callXK (D : DefAtX X.prog X.w X.K X.mg X.base x st k ps sp) (hr : Room k X.A) (tkn : Takes X W) (hkw : PK X kws tk) (B : KB0 x x st ps ks 0 ix) (hg : Gl X x := by rfl)
    (hall : (backToKw pos (keywordEach kws X.env)).all (·.1.isSome) = true := by rfl) (hks : (backToKw pos (keywordEach kws X.env)).filterMap (·.1) = ks := by rfl) (hdb : (x == ("__debug__" : Str)) = false := by decide)
    (hpl : ((backTo pos (starEach [] X.env)).any (·.1) || (backToKw pos (keywordEach kws X.env)).any (·.1.isNone)) = false := by rfl) :
    PE X (.Call (.Name x p) [] kws pos) (tCallXK ks.length ix sp W tk) := by
  obtain ⟨f, fd, hm, F, G, b⟩ := D.ex
  refine ⟨fun pins s σ H Q I h => ?_⟩
  refine wpAny_Call_Name_kw (ld_glob I hg hm ?_ hdb)
  refine PySem.W.callWith_KW0 (h₀ := X.base) I.ok.mod.kin F.kp hall ?_ hpl
  refine thn (hkw.run pos pins s σ H _ I h) fun ws s2 ⟨zs, H2, I2, rz, l2, q2⟩ => ⟨I2.kIn, ?_⟩
  rw [hks]
  exact run_at (us := []) G hr (L2.passAt tkn σ) I2 ((B.kbn F).to s2 [] ws I2.kIn rfl (rz.length.symm.trans l2)) (pick_vals rz ix) q2
theorem pe_methX {pl : Sem Bool} (he : PE X o ta) (T : Cls X.K C) (D : MDefAtX X.prog X.w X.K X.mg X.base C m qual st k ps sp) (hr : Room k X.A) (tkn : Takes X W) (ha : PA X (e :: es) t)
    (hst : starEach (e :: es) X.env = (false, eval e X.env) :: starEach es X.env := by rfl) (hpl : (backTo pos (starEach es X.env)).any (·.1) = false := by rfl)
    (ht : eval (.Call (.Attribute o m apos) (e :: es) [] pos) X.env = (do
      let ov ← eval o X.env
      standAt apos.atName
      let (f, first) ← holding [ov] (getMethod ov m pl)
      callWith pos f first (backTo pos (starEach (e :: es) X.env)) (backToKw pos (keywordEach [] X.env))) := by rfl) :
    PE X (.Call (.Attribute o m apos) (e :: es) [] pos) (tMethX C m sp W ta t) := by
  obtain ⟨f, fd, hm, F, G, b⟩ := D.ex
  refine ⟨fun pins s σ H Q I h => ?_⟩
  refine PySem.W.methodCall_KW (pl := pl) (thn (he.run pins s σ H _ I h) fun u s1 ⟨x, H1, I1, rx, a, dx, fs, ex, ea, l, q⟩ => ?_) ht
  subst ex
  obtain rfl : u = Value.ref a := rx
  refine getmeth_ok I1 ea T hm l ?_
  refine PySem.W.callWith_K (first := [.ref a]) (h₀ := X.base) I.ok.mod.kin hm.kp (thn (ha.run pos pins s1 σ H1 _ I1 q) fun us s2 ⟨vs, H2, I2, r, q2⟩ => ⟨I2.kIn, ?_⟩) hst hpl
  have r2 : Vals (V.ref a :: vs) (Value.ref a :: us) := .cons rfl r
  exact run_at (us := .ref a :: us) G hr (L2.passAt tkn σ) I2 (binds0 b r2 (G.len _ _ _ _ q2) I2.kIn) r2 q2
theorem pe_methX0 {pl : Sem Bool} (he : PE X o ta) (T : Cls X.K C) (D : MDefAtX X.prog X.w X.K X.mg X.base C m qual st k ps sp) (hr : Room k X.A) (tkn : Takes X W)
    (ht : eval (.Call (.Attribute o m apos) [] [] pos) X.env = (do
      let ov ← eval o X.env
      standAt apos.atName
      let (f, first) ← holding [ov] (getMethod ov m pl)
      callWith pos f first (backTo pos (starEach [] X.env)) (backToKw pos (keywordEach [] X.env))) := by rfl) :
    PE X (.Call (.Attribute o m apos) [] [] pos) (tMethX C m sp W ta tNil) := by
  obtain ⟨f, fd, hm, F, G, b⟩ := D.ex
  refine ⟨fun pins s σ H Q I h => ?_⟩
  refine PySem.W.methodCall_KW (pl := pl) (thn (he.run pins s σ H _ I h) fun u s1 ⟨x, H1, I1, rx, a, dx, fs, ex, ea, l, q⟩ => ?_) ht
  subst ex
  obtain rfl : u = Value.ref a := rx
  refine getmeth_ok I1 ea T hm l ?_
  refine PySem.W.callWith_K0 (first := [.ref a]) I1.kIn hm.kp ?_
  have r2 : Vals [V.ref a] [Value.ref a] := .cons rfl .nil
  exact run_at (us := [.ref a]) G hr (L2.passAt tkn σ) I1 (binds0 b r2 (G.len _ _ _ _ q) I1.kIn) r2 q
theorem pe_methXK {pl : Sem Bool} (he : PE X o ta) (T : Cls X.K C) (D : MDefAtX X.prog X.w X.K X.mg X.base C m qual st k ps sp) (hr : Room k X.A) (tkn : Takes X W) (hkw : PK X kws tk) (B : KB0 m qual st ps ks 1 ix)
    (hall : (backToKw pos (keywordEach kws X.env)).all (·.1.isSome) = true := by rfl) (hks : (backToKw pos (keywordEach kws X.env)).filterMap (·.1) = ks := by rfl)
    (hpl : ((backTo pos (starEach [] X.env)).any (·.1) || (backToKw pos (keywordEach kws X.env)).any (·.1.isNone)) = false := by rfl)
    (ht : eval (.Call (.Attribute o m apos) [] kws pos) X.env = (do
      let ov ← eval o X.env
      standAt apos.atName
      let (f, first) ← holding [ov] (getMethod ov m pl)
      callWith pos f first (backTo pos (starEach [] X.env)) (backToKw pos (keywordEach kws X.env))) := by rfl) :
    PE X (.Call (.Attribute o m apos) [] kws pos) (tMethXK C m ks.length ix sp W ta tk) := by
  obtain ⟨f, fd, hm, F, G, b⟩ := D.ex
  refine ⟨fun pins s σ H Q I h => ?_⟩
  refine PySem.W.methodCall_KW (pl := pl) (thn (he.run pins s σ H _ I h) fun u s1 ⟨x, H1, I1, rx, a, dx, fs, ex, ea, l, q⟩ => ?_) ht
  subst ex
  obtain rfl : u = Value.ref a := rx
  refine getmeth_ok I1 ea T hm l ?_
  refine PySem.W.callWith_KW0 (first := [.ref a]) (h₀ := X.base) I.ok.mod.kin hm.kp hall ?_ hpl
  refine thn (hkw.run pos pins s1 σ H1 _ I1 q) fun ws s2 ⟨zs, H2, I2, rz, l2, q2⟩ => ⟨I2.kIn, ?_⟩
  rw [hks]
  have r2 : Vals (V.ref a :: pick ix zs) (Value.ref a :: pick ix ws) := .cons rfl (pick_vals rz ix)
  exact run_at (us := [.ref a]) G hr (L2.passAt tkn σ) I2 ((B.kbn F).to s2 [.ref a] ws I2.kIn rfl (rz.length.symm.trans l2)) r2 q2
theorem pe_makeX (T : ClsAt X.K X.mg x C) (D : MDefAtX X.prog X.w X.K X.mg X.base C "__init__" qual st k ps sp) (hr : Room (k + 1) X.A) (tkn : Takes X W) (ha : PA X (e :: es) t) (hg : Gl X x := by rfl)
    (hdb : (x == ("__debug__" : Str)) = false := by decide) (he : starEach (e :: es) X.env = (false, eval e X.env) :: starEach es X.env := by rfl) (hpl : (backTo pos (starEach es X.env)).any (·.1) = false := by rfl) :
    PE X (.Call (.Name x p) (e :: es) [] pos) (tMakeX C sp W t) := by
  obtain ⟨f, fd, hm, F, G, b⟩ := D.ex
  refine ⟨fun pins s σ H Q I h => ?_⟩
  refine wpAny_Call_Name_kw (ld_glob I hg T.g ?_ hdb)
  refine PySem.W.callWith_K (h₀ := X.base) I.ok.mod.kin T.kp (thn (ha.run pos pins s σ H _ I h) fun us s1 ⟨vs, H1, I1, r, q⟩ => ⟨I1.kIn, ?_⟩) he hpl
  refine run_makeAt (us := us) ⟨T.mks, hm.at_, hm.fn, T.kp⟩ G hr (L2.passAt tkn σ) I1 (fun s' a hl hk => ?_) r q
  have r2 : Vals (V.ref a :: vs) (Value.ref a :: us) := .cons rfl r
  exact binds0 b r2 hl hk
theorem pe_makeXK (T : ClsAt X.K X.mg x C) (D : MDefAtX X.prog X.w X.K X.mg X.base C "__init__" qual st k ps sp) (hr : Room (k + 1) X.A) (tkn : Takes X W) (hkw : PK X kws tk) (B : KB0 "__init__" qual st ps ks 1 ix) (hg : Gl X x := by rfl)
    (hall : (backToKw pos (keywordEach kws X.env)).all (·.1.isSome) = true := by rfl) (hks : (backToKw pos (keywordEach kws X.env)).filterMap (·.1) = ks := by rfl) (hdb : (x == ("__debug__" : Str)) = false := by decide)
    (hpl : ((backTo pos (starEach [] X.env)).any (·.1) || (backToKw pos (keywordEach kws X.env)).any (·.1.isNone)) = false := by rfl) :
    PE X (.Call (.Name x p) [] kws pos) (tMakeXK C ks.length ix sp W tk) := by
  obtain ⟨f, fd, hm, F, G, b⟩ := D.ex
  refine ⟨fun pins s σ H Q I h => ?_⟩
  refine wpAny_Call_Name_kw (ld_glob I hg T.g ?_ hdb)
  refine PySem.W.callWith_KW0 (h₀ := X.base) I.ok.mod.kin T.kp hall ?_ hpl
  refine thn (hkw.run pos pins s σ H _ I h) fun ws s2 ⟨zs, H2, I2, rz, l2, q2⟩ => ⟨I2.kIn, ?_⟩
  rw [hks]
  exact run_makeAt (us := []) ⟨T.mks, hm.at_, hm.fn, T.kp⟩ G hr (L2.passAt tkn σ) I2 (fun s' a _ hk => (B.kbn F).to s' [.ref a] ws hk rfl (rz.length.symm.trans l2)) (pick_vals rz ix) q2
end
/-! ### the classes of exceptions -/
/-- what the written part says of an own class C below ValueError whose instances have the field f -/
structure ExAt (K : PySem.W.Frag) (mg : Str → Option Value) (x : Str) (C : Addr) : Prop where
  g : mg x = some (.ref C)
  kp : PySem.W.keepIn K (.ref C) = true
  o : OexC K C
  ga : PySem.W.findIn K (.ref C) "__getattribute__" = some (some (.builtin "BaseException.__getattribute__"))
  gg : PySem.W.findIn K (.ref C) "__getattr__" = some none
  hd : PySem.W.hasDictIn K C = true
  cl : PySem.W.findIn K (.ref C) "__class__" = some (some (.builtin "object.__class__"))
  cn : PySem.W.specialIn K (.builtin "object.__class__") "__get__" = some (some (.builtin "getset_descriptor.__get__"))
  ct : PySem.W.takesIn K (.builtin "object.__class__") = some true
  cm : PySem.W.mroIn K C (.type "object") = some true
  no : PySem.W.findIn K (.ref C) "value" = some none
/-- the base class, whose __init__ is ValueError's -/
structure ExBase (K : PySem.W.Frag) (mg : Str → Option Value) (x : Str) (C : Addr) : Prop where
  g : mg x = some (.ref C)
  rd : PySem.W.readsIn K C (.type "type") = true
  ga : PySem.W.specialIn K (.ref C) "__getattribute__" = some (some (.builtin "type.__getattribute__"))
  i : PySem.W.findCls K (.ref C) (.type "type") "__init__" = some (.val (.builtin "ValueError.__init__"))
section
variable {X : Cx} {o e : Expr} {es : List Expr} {to te : TE} {ta : TA} {f x : Str} {p p' p1 p2 pos : Pos} {B C : Addr}
/-- B.__init__(self, ..), B's __init__ being ValueError's -/
theorem pe_beinit {pl : Sem Bool} (T : ExBase X.K X.mg x B) (ha : PA X (e :: es) ta) (hg : Gl X x := by rfl) (hdb : (x == ("__debug__" : Str)) = false := by decide)
    (hc : eval (.Call (.Attribute (.Name x p1) "__init__" p2) (e :: es) [] pos) X.env = (do
      let ov ← eval (.Name x p1) X.env
      standAt p2.atName
      let (f, first) ← holding [ov] (getMethod ov "__init__" pl)
      callWith pos f first (backTo pos (starEach (e :: es) X.env)) (backToKw pos (keywordEach [] X.env))) := by rfl)
    (he : starEach (e :: es) X.env = (false, eval e X.env) :: starEach es X.env := by rfl) (hpl : (backTo pos (starEach es X.env)).any (·.1) = false := by rfl) :
    PE X (.Call (.Attribute (.Name x p1) "__init__" p2) (e :: es) [] pos) (tVeI X.K ta) := by
  refine ⟨fun pins s σ H Q I h => ?_⟩
  refine PySem.W.methodCall_KW (ld_glob I hg T.g ?_ hdb) hc
  refine PySem.W.method_cls I.kIn T.ga (PySem.W.cls_value I.kIn T.rd T.i rfl ?_)
  refine PyProof.Rows.callWith_method1 (thn (ha.run pos pins _ σ H _ (I.tok _) h) fun us s1 ⟨vs, H1, I1, r1, a, C, ws, ev, hl, T, ea, q⟩ => ?_) he hpl
  subst ev
  cases r1 with
  | @cons _ u0 _ ur ra rw' =>
    obtain rfl : u0 = Value.ref a := ra
    have hlen : ur.length ≤ sizeLine := by
      rw [← Paired.length rw', sizeLine_eq]
      omega
    exact oinit_ok T I1 ea hlen fun s' J => ⟨.non, H1, J, rfl, q⟩
end
/-- what the __init__ of such a class does -/
def spEInit (K : PySem.W.Frag) (C : Addr) : Sp := fun vs H Q _ => ∃ (a : Addr) (y : V), vs = [.ref a, y] ∧ H a = some (exo a C none) ∧ ∀ dx, H dx = none → dx ≠ a → Q .non (upd (upd H dx (exd dx [("value", y)])) a (exo a C (some dx)))
/-- raise C(e) -/
def tRaiseX (K : PySem.W.Frag) (C : Addr) (W : WX) (te : TE) : TS := fun _ σ H => tMkO C (spEInit K C) [] (tCons te tNil) σ H (wAt W σ)
def RaiseX (K : PySem.W.Frag) (C : Addr) (W : WX) (σ : L2.St) : V → Hp → Prop := fun y H1 => [y].length ≤ 1000 ∧ ∀ a, H1 a = none → spEInit K C (.ref a :: ([y] ++ [])) (upd H1 a (exo a C none))
  (fun v H2 => v = .non ∧ ∃ (d : Addr) (fs : List (Str × V)), H2 a = some (exo a C (some d)) ∧ H2 d = some (exd d fs) ∧ H1 d = none ∧ wAt W σ (.ref C) (some d) (upd (del H2 a) d (.xd fs))) (fun _ _ _ => False)
section
variable {X : Cx} {e : Expr} {te : TE} {x qual : Str} {st : Stmt} {k : Nat} {C : Addr} {W : WX} {p pos pos2 : Pos} {K : PySem.W.Frag} {σ : L2.St} {H : Hp} {D : Ends} {y : V}
theorem w_raise (h : te σ H (RaiseX K C W σ)) : tRaiseX K C W te D σ H := h
theorem w_raiseE (q : ∀ d, H d = none → W (.ref C) (some d) σ (upd H d (.xd [("value", y)]))) : RaiseX K C W σ y H := by
  refine ⟨by simp, fun a na => ⟨a, y, rfl, upd_same, fun dx nd ne => ?_⟩⟩
  have nd' : H dx = none := by
    rw [upd_ne ne] at nd
    exact nd
  refine ⟨rfl, dx, [("value", y)], upd_same, ?_, nd', ?_⟩
  · rw [upd_ne ne]
    exact upd_same
  · have e : upd (del (upd (upd (upd H a (exo a C none)) dx (exd dx [("value", y)])) a (exo a C (some dx))) a) dx (.xd [("value", y)]) = upd H dx (.xd [("value", y)]) := by
      funext b
      by_cases hb : b = dx
      · rw [hb, upd_same, upd_same]
      · rw [upd_ne hb, upd_ne hb]
        by_cases ha : b = a
        · rw [ha, del_same, na]
        · rw [del_ne ha, upd_ne ha, upd_ne hb, upd_ne ha]
    show W _ _ σ _
    rw [e]
    exact q dx nd'
theorem ps_raiseX (T : ExAt X.K X.mg x C) (D : MDefAt X.prog X.w X.K X.mg X.base C "__init__" qual st k ["self", "value"] (spEInit X.K C)) (hr : Room (k + 1) X.A) (tk : Takes X W) (he : PE X e te) (hc : X.calm = true := by rfl) (hg : Gl X x := by rfl)
    (hdb : (x == ("__debug__" : Str)) = false := by decide) (hst : starEach [e] X.env = (false, eval e X.env) :: starEach [] X.env := by rfl) (hpl : (backTo pos (starEach [] X.env)).any (·.1) = false := by rfl) :
    PS X (.Raise (some (.Call (.Name x p) [e] [] pos)) none pos2) (tRaiseX X.K C W te) := by
  obtain ⟨f, fd, hm, F, G, b⟩ := D.ex
  have ti : PySem.W.typeIn X.K (.ref f) = some (.type "function") := beq_iff_eq.mp hm.fn
  exact ⟨fun pins s σ H D I h => (ps_raise hc tk (pmk_oex (p := p) (pos := pos) T.o hm.at_ ti G hr b .nil (fun _ _ _ _ _ _ _ z => z.elim) hg T.g (pa_cons he pa_nil hst) hdb hst hpl)).run pins s σ H D I h⟩
end
/-! ### the exception in the heap: its class, its field -/
/-- isinstance(e, c), e an exception that was caught -/
def rIsE (K : PySem.W.Frag) : List V → Hp → VK → Prop := fun xs H Q => ∃ (a D dd : Addr) (fs : List (Str × V)) (mg : Str → Option Value) (x : Str) (c : V) (u : Value) (b : Bool), xs = [.ref a, c] ∧ ClsV c u ∧ H a = some (exh a (.ref D) (some dd)) ∧ H dd = some (.xd fs) ∧ ExAt K mg x D ∧ PySem.W.kitOne K (.ref D) u = some b ∧ Q (.bl b) H
/-- isinstance(e, (c1, ..)) -/
def rIsET (K : PySem.W.Frag) : List V → Hp → VK → Prop := fun xs H Q => ∃ (a D dd tp : Addr) (fs : List (Str × V)) (mg : Str → Option Value) (x : Str) (cs : List V) (us : List Value) (b : Bool), xs = [.ref a, .ref tp] ∧ H tp = some (.tup cs) ∧ Paired ClsV cs us ∧ H a = some (exh a (.ref D) (some dd)) ∧ H dd = some (.xd fs) ∧ ExAt K mg x D ∧ PySem.W.kitAny K (.ref D) us = some b ∧ Q (.bl b) H
section
variable {X : Cx} {pins : List (Addr × Obj)} {σ : L2.St} {H : Hp} {s : Shared} {a D dd : Addr} {fs : List (Str × V)} {mg : Str → Option Value} {x : Str}
theorem exh_inst (I : Inv X pins σ H s) (ea : H a = some (exh a (.ref D) (some dd))) (ed : H dd = some (.xd fs)) : ∃ oe od, PySem.W.InstAt s.heap a oe D (some od) ∧ ∃ mA : Str → Option Value, (∀ f, RelO (fs.lookup f) (mA f)) ∧ ∀ f, PySem.W.lookIn f od = some (mA f) := by
  obtain ⟨oe, vs, h1, hz, hd⟩ := exh_at I.hok ea
  have hx : ObjOk X.prog X.w H s.heap dd (.xd fs) := I.hok dd _ ed
  obtain ⟨mA, hns, hr⟩ := hx
  obtain ⟨od, ho, hl⟩ := lookIn_ns hns
  exact ⟨oe, od, ⟨h1, hz.1, by unfold PySem.W.notCls; rw [hd] <;> rfl, by rw [hz.2]; exact ho⟩, mA, hr, hl⟩
theorem ExAt.some {K : PySem.W.Frag} (T : ExAt K mg x D) : (PySem.W.clsIn K D).isSome = true := by
  obtain ⟨cd, hc, _⟩ := PySem.W.any_some T.hd
  rw [hc]
  rfl
theorem call_isE : CallR X (.builtin "isinstance") (rIsE X.K) := by
  intro pins s σ H xs us Q I r h
  obtain ⟨a, D, dd, fs, mg, x, c, u, b, rfl, k, ea, ed, T, e, q⟩ := h
  obtain ⟨u1, u2, rfl, r1, r2⟩ := vals2 r
  have e2 := k.eq r2
  subst e2
  obtain rfl : u1 = Value.ref a := r1
  obtain ⟨oe, od, J, _⟩ := exh_inst I ea ed
  exact PySem.W.kia_one (PySem.W.kitx_exc T.some T.ga T.gg T.o.exC T.cl T.cn T.ct T.cm) I.kIn J e (fun z => nomatch z) fun tk => ⟨.bl b, H, I.tok tk, rfl, q⟩
theorem call_isET : CallR X (.builtin "isinstance") (rIsET X.K) := by
  intro pins s σ H xs us Q I r h
  obtain ⟨a, D, dd, tp, fs, mg, x, cs, ws, b, rfl, hT, k, ea, ed, T, e, q⟩ := h
  obtain ⟨u1, u2, rfl, r1, r2⟩ := vals2 r
  obtain rfl : u1 = Value.ref a := r1
  cases (show u2 = Value.ref tp from r2)
  obtain ⟨oe, od, J, _⟩ := exh_inst I ea ed
  obtain ⟨_, its, rv, o, h1, h2, n, h3⟩ := (show ObjOk X.prog X.w H s.heap tp (.tup cs) from I.hok tp _ hT)
  have e3 := ClsV.all k rv
  subst e3
  obtain ⟨oc, od', dt, sl⟩ := o
  simp only at h2 h3
  subst h2 h3
  exact PySem.W.kia_tup (PySem.W.kitx_exc T.some T.ga T.gg T.o.exC T.cl T.cn T.ct T.cm) I.kIn J h1 e (fun z => nomatch z) fun tk => ⟨.bl b, H, I.tok tk, rfl, q⟩
/-- e.value -/
def XfE (K : PySem.W.Frag) (Q : VK) : V → Hp → Prop := fun x H1 => ∃ (a D dd : Addr) (fs : List (Str × V)) (mg : Str → Option Value) (nm : Str) (v : V), x = .ref a ∧ H1 a = some (exh a (.ref D) (some dd)) ∧ H1 dd = some (.xd fs) ∧ ExAt K mg nm D ∧ fs.lookup ("value" : Str) = some v ∧ Q v H1
def tXfH (K : PySem.W.Frag) (te : TE) : TE := fun σ H Q => te σ H (XfE K Q)
theorem pe_xfH {e : Expr} {te : TE} {pos : Pos} (he : PE X e te) (hb : attributeBase e "value" X.env (eval e X.env) = eval e X.env := by rfl) : PE X (.Attribute e "value" pos) (tXfH X.K te) := by
  refine ⟨fun pins s σ H Q I h => ?_⟩
  refine attr_of hb (thn (he.run pins s σ H _ I h) fun u s1 hh => ?_)
  obtain ⟨x, H1, I1, rx, a, D, dd, fs, mg, nm, v, ex, ea, ed, T, l, q⟩ := hh
  subst ex
  obtain rfl : u = Value.ref a := rx
  obtain ⟨oe, od, J, mA, hr, hl⟩ := exh_inst I1 ea ed
  obtain ⟨u, hu, ru⟩ := RelO.some_of (v := v) (o := mA "value") (by rw [← l]; exact hr "value")
  exact HandSPX.exc_get I1.kIn J T.ga T.gg T.o.exC (PySem.W.findObj_own T.hd T.no rfl (by rw [hl, hu])) (handed_of ru) ⟨v, H1, I1.tok _, ru, q⟩
end
section
variable {K : PySem.W.Frag} {mg mg2 : Str → Option Value} {x y : Str} {C D : Addr} {b : Bool}
/-- isinstance of own classes, answered -/
theorem kit_ex (hC : PySem.W.hasDictIn K C = true) (ty : PySem.W.typeIn K (.ref C) = some (.type "type")) (self : PySem.W.subIn K (.ref D) (.ref D) = some true) (sub : PySem.W.subIn K (.ref D) (.ref C) = some b) : PySem.W.kitOne K (.ref D) (.ref C) = some b := by
  obtain ⟨cd, hc, _⟩ := PySem.W.any_some hC
  unfold PySem.W.kitOne
  by_cases e : D = C
  · subst e
    rw [self] at sub
    cases sub
    rw [if_pos (beq_self_eq_true _)]
  · have ne : (Value.ref D == Value.ref C) = false := Bool.eq_false_iff.mpr fun z => e (Value.ref.inj (beq_iff_eq.mp z))
    rw [ne, if_neg Bool.false_ne_true]
    show (if ((PySem.W.clsIn K C).isSome && PySem.W.typeIn K (.ref C) == some (.type "type")) = true then PySem.W.subIn K (.ref D) (.ref C) else none) = some b
    rw [hc, ty, sub, if_pos (by rfl)]
theorem kit_exT {T : String} (m : PySem.W.kitMeta T = true) (sub : PySem.W.subIn K (.ref D) (.type T) = some b) : PySem.W.kitOne K (.ref D) (.type T) = some b := by
  unfold PySem.W.kitOne
  have ne : (Value.ref D == Value.type T) = false := Bool.eq_false_iff.mpr fun z => by cases beq_iff_eq.mp z
  rw [ne, if_neg Bool.false_ne_true]
  show (if PySem.W.kitMeta T = true then PySem.W.subIn K (.ref D) (.type T) else none) = some b
  rw [if_pos m, sub]
end
section
variable {K : PySem.W.Frag} {c : Value} {i : Nat} {tb : WX → TS} {ts : TS} {Wout : WX} {D : Ends} {σ : L2.St} {H : Hp} {cls : Value} {d : Option Addr} {Q : VK}
theorem w_try (h : tb (wCau K c i ts Wout D) D σ H) : tTryH K c i tb ts Wout D σ H := h
theorem w_caught (hb : PySem.W.exmOne K cls c = some true) (h : ∀ a, H a = none → ts { nx := fun σ' H' => D.nx (σ'.set i none) H', rt := D.rt, bk := fun σ' H' => D.bk (σ'.set i none) H', ct := fun σ' H' => D.ct (σ'.set i none) H' } (σ.set i (some (.ref a))) (upd H a (exh a cls d))) :
    wCau K c i ts Wout D cls d σ H := ⟨true, hb, fun _ => h, fun z => nomatch z⟩
variable {a D' dd tp : Addr} {fs : List (Str × V)} {mg : Str → Option Value} {x : Str} {cv : V} {u : Value} {b : Bool} {cs : List V} {us : List Value} {v : V} {te : TE} {sp : Sp} {W : WX} {t tk : TA} {n : Nat} {ix : List Nat} {C dx : Addr} {m : Str} {ta : TE} {y : V}
theorem w_isE (ea : H a = some (exh a (.ref D') (some dd))) (ed : H dd = some (.xd fs)) (T : ExAt K mg x D') (k : ClsV cv u) (e : PySem.W.kitOne K (.ref D') u = some b) (q : Q (.bl b) H) : rIsE K [.ref a, cv] H Q := ⟨a, D', dd, fs, mg, x, cv, u, b, rfl, k, ea, ed, T, e, q⟩
theorem w_xfH (h : te σ H (XfE K Q)) : tXfH K te σ H Q := h
theorem w_xfE (ea : H a = some (exh a (.ref D') (some dd))) (ed : H dd = some (.xd [("value", v)])) (T : ExAt K mg x D') (q : Q v H) : XfE K Q (.ref a) H := ⟨a, D', dd, _, mg, x, v, rfl, ea, ed, T, by simp [List.lookup], q⟩
/-- calls -/
def CallXE (sp : Sp) (W : WX) (σ : L2.St) (Q : VK) : List V → Hp → Prop := fun vs H1 => sp vs H1 Q (wAt W σ)
theorem w_callX (h : t σ H (CallXE sp W σ Q)) : tCallX sp W t σ H Q := h
theorem w_callXE {vs : List V} (h : sp vs H Q (wAt W σ)) : CallXE sp W σ Q vs H := h
def KwXE (n : Nat) (ix : List Nat) (sp : Sp) (W : WX) (σ : L2.St) (Q : VK) : List V → Hp → Prop := fun zs H => zs.length = n ∧ sp (pick ix zs) H Q (wAt W σ)
theorem w_callXK (h : tk σ H (KwXE n ix sp W σ Q)) : tCallXK n ix sp W tk σ H Q := h
theorem w_kwXE {zs : List V} (e : zs.length = n) (q : sp (pick ix zs) H Q (wAt W σ)) : KwXE n ix sp W σ Q zs H := ⟨e, q⟩
def MethXE (C : Addr) (m : Str) (t : TA) (R : V → List V → Hp → Prop) (σ : L2.St) : V → Hp → Prop := fun x H1 => ∃ a dx fs, x = .ref a ∧ H1 a = some (.ins C dx fs) ∧ fs.lookup m = none ∧ t σ H1 (R x)
def MRunXE (sp : Sp) (W : WX) (σ : L2.St) (Q : VK) : V → List V → Hp → Prop := fun x vs H2 => sp (x :: vs) H2 Q (wAt W σ)
def MKwXE (n : Nat) (ix : List Nat) (sp : Sp) (W : WX) (σ : L2.St) (Q : VK) : V → List V → Hp → Prop := fun x zs H2 => zs.length = n ∧ sp (x :: pick ix zs) H2 Q (wAt W σ)
theorem w_methX (h : ta σ H (MethXE C m t (MRunXE sp W σ Q) σ)) : tMethX C m sp W ta t σ H Q := h
theorem w_methXK (h : ta σ H (MethXE C m tk (MKwXE n ix sp W σ Q) σ)) : tMethXK C m n ix sp W ta tk σ H Q := h
theorem w_methXE {R : V → List V → Hp → Prop} (h : H a = some (.ins C dx fs)) (e : fs.lookup m = none) (q : t σ H (R (.ref a))) : MethXE C m t R σ (.ref a) H := ⟨a, dx, fs, rfl, h, e, q⟩
theorem w_mrunXE {vs : List V} (h : sp (y :: vs) H Q (wAt W σ)) : MRunXE sp W σ Q y vs H := h
theorem w_mkwXE {zs : List V} (e : zs.length = n) (h : sp (y :: pick ix zs) H Q (wAt W σ)) : MKwXE n ix sp W σ Q y zs H := ⟨e, h⟩
def MakeXE (C : Addr) (sp : Sp) (W : WX) (σ : L2.St) (Q : VK) : List V → Hp → Prop := fun vs H1 => ∀ x dx, H1 x = none → H1 dx = none → dx ≠ x →
  sp (.ref x :: vs) (upd (upd H1 dx (.own x)) x (.ins C dx [])) (fun v H3 => v = .non ∧ Q (.ref x) H3) (wAt W σ)
theorem w_makeX (h : t σ H (MakeXE C sp W σ Q)) : tMakeX C sp W t σ H Q := h
theorem w_makeXE {vs : List V} (h : ∀ x dx, H x = none → H dx = none → dx ≠ x → sp (.ref x :: vs) (upd (upd H dx (.own x)) x (.ins C dx [])) (fun v H3 => v = .non ∧ Q (.ref x) H3) (wAt W σ)) : MakeXE C sp W σ Q vs H := h
def MakeXKE (C : Addr) (n : Nat) (ix : List Nat) (sp : Sp) (W : WX) (σ : L2.St) (Q : VK) : List V → Hp → Prop := fun zs H1 => zs.length = n ∧ ∀ x dx, H1 x = none → H1 dx = none → dx ≠ x →
  sp (.ref x :: pick ix zs) (upd (upd H1 dx (.own x)) x (.ins C dx [])) (fun v H3 => v = .non ∧ Q (.ref x) H3) (wAt W σ)
theorem w_makeXK (h : tk σ H (MakeXKE C n ix sp W σ Q)) : tMakeXK C n ix sp W tk σ H Q := h
theorem w_makeXKE {zs : List V} (e : zs.length = n) (h : ∀ x dx, H x = none → H dx = none → dx ≠ x → sp (.ref x :: pick ix zs) (upd (upd H dx (.own x)) x (.ins C dx [])) (fun v H3 => v = .non ∧ Q (.ref x) H3) (wAt W σ)) : MakeXKE C n ix sp W σ Q zs H := ⟨e, h⟩
/-- __init__ of such a class -/
def VeIE (K : PySem.W.Frag) (Q : VK) : List V → Hp → Prop := fun vs H1 => ∃ (a C : Addr) (ws : List V), vs = .ref a :: ws ∧ ws.length ≤ 1000 ∧ OexC K C ∧ H1 a = some (exo a C none) ∧ Q .non H1
theorem w_veI (h : t σ H (VeIE K Q)) : tVeI K t σ H Q := h
theorem w_veIE {ws : List V} (hl : ws.length ≤ 1000) (T : OexC K C) (e : H a = some (exo a C none)) (q : Q .non H) : VeIE K Q (.ref a :: ws) H := ⟨a, C, ws, rfl, hl, T, e, q⟩
def OstE (K : PySem.W.Frag) (f : Str) (R : L2.St → Hp → Prop) (σ : L2.St) (y : V) : V → Hp → Prop := fun x H2 => ∃ a C : Addr, x = .ref a ∧ OexC K C ∧ PySem.W.findIn K (.ref C) f = some none ∧
  ((H2 a = some (exo a C none) ∧ ∀ dx, H2 dx = none → dx ≠ a → R σ (upd (upd H2 dx (exd dx [(f, y)])) a (exo a C (some dx)))) ∨
    ∃ (dx : Addr) (fs : List (Str × V)), H2 a = some (exo a C (some dx)) ∧ H2 dx = some (exd dx fs) ∧ fs.length ≤ 900 ∧ R σ (upd H2 dx (exd dx ((f, y) :: fs))))
theorem w_ost {f : Str} {to : TE} (h : te σ H fun y H1 => to σ H1 (OstE K f D.nx σ y)) : tOst K f to te D σ H := h
theorem w_ostE {f : Str} {R : L2.St → Hp → Prop} (T : OexC K C) (no : PySem.W.findIn K (.ref C) f = some none) (e : H a = some (exo a C none)) (q : ∀ dx, H dx = none → dx ≠ a → R σ (upd (upd H dx (exd dx [(f, y)])) a (exo a C (some dx)))) : OstE K f R σ y (.ref a) H := ⟨a, C, rfl, T, no, .inl ⟨e, q⟩⟩
end
theorem ho_lst_ext {v1 : List V} {φ : Heap → Prop} : ((.lst v1) : HO) ≠ (.ext φ) := fun z => nomatch z
theorem ho_lst_exh {v1 : List V} {a : Addr} {c : Value} {d : Option Addr} : ((.lst v1) : HO) ≠ exh a c d := fun z => by
  have z' : HO.lst v1 = HO.ext _ := z
  cases z'
/-! ### list.count, list.index of flat items; lists of lists compared -/
def rCntF (K : PySem.W.Frag) : V → List V → Hp → VK → Prop := fun x xs H Q => ∃ (p : Addr) (ys : List V) (y : V), x = .ref p ∧ xs = [y] ∧ SqL K H p ys ∧ flatV y = true ∧ ys.all flatV = true ∧ Q (.int (ys.countP fun z => eqV z y : Nat)) H
theorem cnt_flat {y : V} : ∀ {ys : List V} {us : List Value}, Vals ys us → ys.all flatV = true → us.countP (eqU y) = ys.countP fun z => eqV z y
  | _, _, .nil, _ => rfl
  | z :: ys, u :: us, .cons r t, f => by
    rw [List.all_cons, Bool.and_eq_true] at f
    rw [List.countP_cons, List.countP_cons, cnt_flat t f.2, eqU_of r f.1]
theorem mt_cntF {X : Cx} : MtR X "list.count" (rCntF X.K) := by
  intro pins s σ H x xs v us Q I rx rxs h
  obtain ⟨p, ys, y, rfl, rfl, hs, fy, fys, q⟩ := h
  cases rx
  obtain ⟨u, rfl, ru⟩ := rxs.one
  obtain ⟨its, rv, ⟨⟨cls, dd, data, sl⟩, n, ho, hc, hdn, hd⟩, hlen⟩ := I.list hs
  simp only at hc hd
  subst hc hd
  refine call_meets PySem.F.slot_list_count ⟨_, ho, rfl⟩ PySem.F.entry_list_count (PySem.F.args_list_count_2 _ _)
    (SeqAt.list_countAt p its.toArray n dd sl u (eqU y)) ⟨ho, fun u' hu' => mem_eqAt ru fy rv fys u' (by simpa using hu'), ?_⟩
  have ec : its.toArray.toList.countP (eqU y) = ys.countP fun z => eqV z y := cnt_flat rv fys
  refine ⟨.int (ys.countP fun z => eqV z y : Nat), H, I.tok _, ⟨s.toks, ?_⟩, q⟩
  show Value.int ((its.toArray.toList.countP (eqU y) : Nat) : Int) s.toks = Value.int ((ys.countP fun z => eqV z y : Nat) : Int) s.toks
  rw [ec]
section
variable {K : PySem.W.Frag} {H : Hp} {Q : VK} {p q : Addr} {xs ys : List V} {y : V}
theorem w_cntF {n : Nat} (h : H p = some (.lst xs)) (f : flatV y = true) (fs : xs.all flatV = true) (e : (xs.countP fun z => eqV z y) = n) (k : Q (.int (n : Nat)) H) : rCntF K (.ref p) [y] H Q := ⟨p, xs, y, rfl, rfl, SqL.of h, f, fs, by rw [e]; exact k⟩
theorem w_index {j : Nat} {z : V} (h : H p = some (.lst xs)) (f : flatV y = true) (fs : xs.all flatV = true) (e : xs[j]? = some z) (ez : eqV z y = true) (no : ∀ (m : Nat) (z' : V), m < j → xs[m]? = some z' → eqV z' y = false) (k : Q (.int (j : Nat)) H) : rIndex K (.ref p) [y] H Q := ⟨p, xs, y, j, z, rfl, rfl, SqL.of h, f, fs, e, ez, no, k⟩
theorem w_catVV (h1 : H p = some (.lst xs)) (h2 : H q = some (.lst ys)) (hz : (xs ++ ys).length ≤ 16777216) (k : ∀ r, H r = none → Q (.ref r) (upd H r (.lst (xs ++ ys)))) : rCat (.ref p) (.ref q) H Q :=
  ⟨p, q, _, _, rfl, rfl, h1, h2, szle' (by rw [List.length_append] at hz; exact hz), k⟩
end
theorem eqvAll_lists : ∀ ls ms : List (List Int), PyData.eqvAll (ls.map dI) (ms.map dI) = decide (ls = ms)
  | [], [] => by simp [PyData.eqvAll]
  | [], m :: ms => by simp [PyData.eqvAll]
  | n :: ns, [] => by simp [PyData.eqvAll]
  | n :: ns, m :: ms => by
    have ih := eqvAll_lists ns ms
    have e : PyData.eqv (dI n) (dI m) = decide (n = m) := eqv_ints n m
    simp only [List.map_cons, PyData.eqvAll, ih, e]
    by_cases h : n = m
    · subst h
      by_cases h2 : ns = ms <;> simp [h2]
    · simp [h]
theorem w_neLists {K : PySem.W.Frag} {H : Hp} {Q : VK} {a b : Addr} {ps qs : List Addr} {xss yss : List (List Int)} (ha : H a = some (.lst (ps.map V.ref))) (hb : H b = some (.lst (qs.map V.ref))) (h1 : ListsAt H ps xss) (h2 : ListsAt H qs yss) (k : Q (.bl (!decide (xss = yss))) H) : rNeD K (.ref a) (.ref b) H Q :=
  ⟨_, _, .lst (SqL.of ha) (dpAll_lists h1), .lst (SqL.of hb) (dpAll_lists h2), shaped_lists _, shaped_lists _, by
    have e : PyData.eqv (.list (xss.map dI)) (.list (yss.map dI)) = decide (xss = yss) := by
      simp only [PyData.eqv]
      exact eqvAll_lists xss yss
    rw [e]
    exact k⟩
/-! ### lists of numbers, words, truths and None compared; insert, clear -/
def sD : V → PyData
  | .int i => .int i
  | .str s => .str s
  | .bl b => .bool b
  | _ => .none
def scal : V → Bool
  | .int _ => true
  | .str s => PyData.strOk s
  | .bl _ => true
  | .non => true
  | _ => false
theorem scal_dp {K : PySem.W.Frag} {H : Hp} : ∀ {v : V}, scal v = true → Dp K H v (sD v)
  | .int i, _ => .int i
  | .str s, _ => .str s
  | .bl b, _ => .bl b
  | .non, _ => .non
theorem scal_can : ∀ {v : V}, scal v = true → PyData.canLay0 (sD v) = true ∧ PyData.depth (sD v) ≤ 1
  | .int i, _ => by simp [sD, PyData.canLay0, PyData.depth]
  | .str s, h => by
    have h' : PyData.strOk s = true := h
    simp [sD, PyData.canLay0, PyData.depth, h']
  | .bl b, _ => by simp [sD, PyData.canLay0, PyData.depth]
  | .non, _ => by simp [sD, PyData.canLay0, PyData.depth]
theorem scal_all {K : PySem.W.Frag} {H : Hp} : ∀ {xs : List V}, xs.all scal = true → DpAll K H xs (xs.map sD) ∧ PyData.canLayAll0 (xs.map sD) = true ∧ PyData.depthAll (xs.map sD) ≤ 2
  | [], _ => ⟨.nil, by simp [PyData.canLayAll0], by simp [PyData.depthAll]⟩
  | x :: xs, h => by
    rw [List.all_cons, Bool.and_eq_true] at h
    obtain ⟨i1, i2, i3⟩ := scal_all (K := K) (H := H) h.2
    obtain ⟨j1, j2⟩ := scal_can h.1
    refine ⟨.cons (scal_dp h.1) i1, ?_, ?_⟩
    · simp only [List.map_cons, PyData.canLayAll0, j1, i2, Bool.and_self]
    · simp only [List.map_cons, PyData.depthAll]
      omega
section
variable {K : PySem.W.Frag} {H : Hp} {Q : VK} {p q : Addr} {xs : List V}
theorem scal_same (h1 : H p = some (.lst xs)) (h2 : H q = some (.lst xs)) (f : xs.all scal = true) : ∃ d, Dp K H (.ref p) d ∧ Dp K H (.ref q) d ∧ SeqAt.shaped d = true ∧ PyData.eqv d d = true := by
  obtain ⟨i1, i2, i3⟩ := scal_all (K := K) (H := H) f
  have c1 : PyData.canLay0 (.list (xs.map sD)) = true := by simp only [PyData.canLay0]; exact i2
  have c2 : PyData.depth (.list (xs.map sD)) ≤ 64 := by
    simp only [PyData.depth]
    omega
  refine ⟨.list (xs.map sD), .lst (SqL.of h1) i1, .lst (SqL.of h2) i1, ?_, PySem.SeqAt.eqv_refl _ c1⟩
  unfold SeqAt.shaped
  rw [c1]
  simpa using c2
theorem w_eqScal (h1 : H p = some (.lst xs)) (h2 : H q = some (.lst xs)) (f : xs.all scal = true) (k : Q (.bl true) H) : rEqD K (.ref p) (.ref q) H Q := by
  obtain ⟨d, a, b, c, e⟩ := scal_same (K := K) h1 h2 f
  exact ⟨d, d, a, b, c, c, by rw [e]; exact k⟩
theorem w_neScal (h1 : H p = some (.lst xs)) (h2 : H q = some (.lst xs)) (f : xs.all scal = true) (k : Q (.bl false) H) : rNeD K (.ref p) (.ref q) H Q := by
  obtain ⟨d, a, b, c, e⟩ := scal_same (K := K) h1 h2 f
  exact ⟨d, d, a, b, c, c, by rw [e]; exact k⟩
theorem w_clear (h : H p = some (.lst xs)) (k : Q .non (upd H p (.lst []))) : rClear (.ref p) [] H Q := ⟨p, xs, rfl, rfl, h, k⟩
end
def rIns : V → List V → Hp → VK → Prop := fun x vs H Q => ∃ (l : Addr) (xs : List V) (i : Int) (y : V), x = .ref l ∧ vs = [.int i, y] ∧ H l = some (.lst xs) ∧ xs.length < sizeLine ∧ 0 ≤ i ∧ i < 2 ^ 63 ∧
    Q .non (upd H l (.lst (xs.take i.toNat ++ [y] ++ xs.drop i.toNat)))
theorem mt_insertN {X : Cx} : MtR X "list.insert" rIns := mt_insert
theorem w_insI {H : Hp} {Q : VK} {p : Addr} {ns : List Int} {i y : Int} (h : H p = some (.lst (ns.map V.int))) (hz : ns.length < 16777216) (i0 : 0 ≤ i) (i1 : i < 2 ^ 63) (k : Q .non (upd H p (.lst ((ns.take i.toNat ++ [y] ++ ns.drop i.toNat).map V.int)))) : rIns (.ref p) [.int i, .int y] H Q :=
  ⟨p, _, i, .int y, rfl, rfl, h, by rw [List.length_map, sizeLine_eq]; omega, i0, i1, by rw [List.map_append, List.map_append, List.map_take, List.map_drop] at k; exact k⟩
/-! ### quiet defs: they may be called while an exception is handled; no loops, nothing is raised -/
structure RoomQ (k : Nat) (A : Around) : Prop where
  dp : A.depth + 3 * k + 5 < recursionLimit
  un : A.units + 16 * k + 200 < cLine
theorem RoomQ.mono {j k : Nat} {A : Around} (r : RoomQ k A) (h : j ≤ k) : RoomQ j A := ⟨by have := r.dp; omega, by have := r.un; omega⟩
theorem RoomQ.deeper {k : Nat} {A : Around} (r : RoomQ (k + 1) A) (env : Env) : RoomQ k (A.deeper env) :=
  ⟨by have := r.dp; show A.depth + 1 + 3 * k + 5 < _; omega, by have := r.un; show A.units + 3 + 16 * k + 200 < _; omega⟩
theorem roomQ_of {k : Nat} {A : Around} (r : Room k A) : RoomQ k A := ⟨r.dp, r.un⟩
theorem roomQ_mark {k : Nat} {A : Around} {v : Option Value} (r : Room k A) : RoomQ k (A.mark v) := ⟨r.dp, r.un⟩
structure FnQ (P : Program) (w : World) (K : PySem.W.Frag) (mg : Str → Option Value) (base : Heap) (k : Nat) (f : Addr) (fd : FuncData) (ps : List Str) (sp : Sp) : Prop where
  len : ∀ vs H Q E, sp vs H Q E → vs.length = ps.length
  run : ∀ (A : Around) (outer : List Env) (s : Shared) (H : Hp) (args : Args) (us : List Value) (vs : List V) (Q : VK) (E : XK), RoomQ k A → Env0 P w K mg base A outer s H → BindsTo s fd args (ps.zip us) → Vals vs us → sp vs H Q E →
    codeAny (model P w) A (.call (.ref f) args) (CR CX0 outer P w H s Q E) s
def cxQ (P : Program) (w : World) (K : PySem.W.Frag) (mg : Str → Option Value) (base : Heap) (N : List Str) (qual : Str) (scope : Scope) (f : Addr) (cd : Value) (A : Around) (outer : List Env) (s : Shared) (H : Hp) (E : XK) : Cx :=
  { cxOf CX0 P w K mg base N qual scope f cd A outer s H E with calm := false }
theorem inv_startQ {P : Program} {w : World} {K : PySem.W.Frag} {mg : Str → Option Value} {base : Heap} {N ps : List Str} {qual : Str} {scope : Scope} {f : Addr} {cd : Value} {A : Around} {outer : List Env} {s s1 : Shared} {H : Hp} {E : XK} {us : List Value} {vs : List V}
    (S : FnScope N ps scope) (e0 : Env0 P w K mg base A outer s H) (hl : vs.length = ps.length) (r : Vals vs us)
    (x : InCallC s s.heap.objs.size (bindL (envOfC qual scope s.heap.objs.size f cd).kindOf (ps.zip us) fun _ => none) (cellsFrom (s.heap.objs.size + 1) scope.names []) (bindC (envOfC qual scope s.heap.objs.size f cd).kindOf (ps.zip us) fun _ => none) s1) :
    Inv (cxQ P w K mg base N qual scope f cd A outer s H E) [] (L2.start N vs) H s1 := by
  have hpl : ps.length ≤ N.length := by have := congrArg List.length S.pre; rw [List.length_take] at this; omega
  obtain ⟨h1, tk, rfl, hk⟩ := x.done
  have noA : ∀ b : Addr, b ∉ (cxQ P w K mg base N qual scope f cd A outer s H E).ex := fun b z => absurd (show b ∈ ([] : List Addr) from z) (by simp)
  refine ⟨⟨e0.mod, S.kind, rfl, rfl, Nat.le_refl _, fun y z c h1 h2 => ?_, fun y hy => ?_, fun y c _ h => ?_, (fun z => Bool.noConfusion (show false = true from z)), Around.frames_deeper e0.frames, .inr ⟨rfl, rfl⟩, fun b z => absurd z (noA b), e0.bs, e0.bsz, fun b _ _ => noA b, fun b z => absurd z (noA b), e0.funs, e0.frf⟩,
    rfl, e0.bare, Un.kept hk, ⟨_, x.toInCall.ns, fun i y v h1 h2 h3 => ?_⟩, fun y c h => ⟨_, x.cell y c h⟩, e0.hok.fresh (Nat.le_refl _), fun y c h => ?_, fun p hp => absurd (show p ∈ ([] : List (Addr × Obj)) from hp) (by simp), e0.hok.kept hk, ?_⟩
  · exact name_of_addr x.apart (PySem.mem_of_lookup h1) (PySem.mem_of_lookup h2)
  · have hy : scope.names.lookup y = some .cell ∨ scope.names.lookup y = some .free := hy
    rcases hy with hy | hy
    · exact cell_has hy
    · exact absurd rfl (S.nofree _ (PySem.mem_of_lookup hy))
  · exact Nat.le_of_lt (x.above y c (PySem.mem_of_lookup h))
  · have hi : i < vs.length := by
      unfold L2.start at h2
      by_cases hi : i < vs.length
      · exact hi
      · rw [List.getElem?_append_right (by simpa using hi)] at h2
        rw [List.getElem?_replicate] at h2
        split at h2 <;> cases h2
    have ha : vs[i]? = some v := by
      unfold L2.start at h2
      rw [List.getElem?_append_left (by simpa using hi), List.getElem?_map] at h2
      cases e : vs[i]? with
      | none => rw [e] at h2; cases h2
      | some a => rw [e] at h2; cases h2; rfl
    obtain ⟨u, hu, rv⟩ := r.get ha
    have hp : ps[i]? = some y := by
      rw [← S.pre, List.getElem?_take_of_lt (by omega)]; exact h1
    have ndP : ps.Nodup := by rw [← S.pre]; exact S.nd.sublist (List.take_sublist _ _)
    refine ⟨u, rv, ?_⟩
    rcases S.par y (List.mem_of_getElem? hp) with k | k
    · exact .inl ⟨k, bindL_get ndP hp hu k⟩
    · obtain ⟨c, e⟩ := cell_has (n := s.heap.objs.size + 1) k
      refine .inr ⟨.inl k, c, e, ?_⟩
      have q := x.cell y c e
      rw [bindC_get ndP hp hu (by show scope.names.lookup y ≠ _; rw [k]; decide)] at q
      exact q
  · exact e0.hok.fresh (Nat.le_of_lt (x.above y c (PySem.mem_of_lookup h)))
  · unfold L2.start
    show _ = N.length
    rw [List.length_append, List.length_map, List.length_replicate]
    omega
structure DefAtQ (P : Program) (w : World) (K : PySem.W.Frag) (mg : Str → Option Value) (base : Heap) (x : Str) (st : Stmt) (k : Nat) (ps : List Str) (sp : Sp) : Prop where
  ex : ∃ f fd, mg x = some (.ref f) ∧ Fun K x x st f fd ∧ FnQ P w K mg base k f fd ps sp ∧ Binds K fd ps []
theorem FunAt.okQ {P : Program} {w : World} {K : PySem.W.Frag} {mg : Str → Option Value} {base : Heap} {x : Str} {st : Stmt} {k : Nat} {ps N : List Str} {sp : Sp} (F : FunAt K mg x st) (S : FnScope N ps (defScope st)) (len : ∀ vs H Q E, sp vs H Q E → vs.length = ps.length)
    (hb : ∀ (kV doc pm : Value) (an : Option Addr) (cdv ct : Value) (us : List Value), us.length = ps.length → bindArgs (PySem.W.fnOf x x (defArgs st) (defBody st) (defScope st) .none kV doc pm an cdv ct) ⟨us, []⟩ = pure (ps.zip us))
    (hbody : ∀ (f : Addr) (cdv : Value) (A : Around) (outer : List Env) (s : Shared) (H : Hp) (vs : List V) (Q : VK) (E : XK), RoomQ k (A.deeper (envOfC x (defScope st) s.heap.objs.size f cdv)) → sp vs H Q E →
      ∃ t, PSs (cxQ P w K mg base N x (defScope st) f cdv A outer s H E).nox (defBody st) t ∧ t { nx := fun _ H' => Q .non H', rt := Q } (L2.start N vs) H) : DefAtQ P w K mg base x st (k + 1) ps sp := by
  obtain ⟨f, fd, hm, F⟩ := F.ex
  refine ⟨f, fd, hm, F, ?_, F.binds hb⟩
  obtain ⟨oc, od, kV, doc, pm, an, cdv, ct, osl, rfl, lk, hcd⟩ := F.ex
  refine ⟨len, fun A outer s H args us vs Q E hr e0 hb r hsp => ?_⟩
  have hl := len _ _ _ _ hsp
  have KX : K.In s.heap := e0.mod.kin.keeps fun b o e => (e0.bs b o e).1
  have lim : s.heap.NoLimit := e0.mod.nolimit.keeps fun b o e => (e0.bs b o e).1
  have hkind : ∀ y ∈ ps.zip us, (defScope st).names.lookup y.1 = some .local ∨ ((defScope st).names.lookup y.1 = some .cell ∧ ((cellsFrom (s.heap.objs.size + 1) (defScope st).names []).lookup y.1).isSome = true) := fun ⟨n, v⟩ hy => by
    rcases S.par n (List.of_mem_zip hy).1 with q | q
    · exact .inl q
    · exact .inr ⟨q, PySem.W.cellsFrom_some _ _ _ (.inl q)⟩
  refine codeAny_call_function (by have := hr.dp; omega) (KX _ _ lk) rfl S.co S.gen rfl (PySem.W.codeRec_of KX hcd) (hb _ _ _ _ ?_)
  refine wpAny_newFunctionEnv_cells S.kind hkind fun env he s1 xx => ?_
  subst he
  refine ⟨lim.keeps xx.toInCall.keep, codeAny_func ?_⟩
  obtain ⟨t, ht0, hq⟩ := hbody f cdv A outer s H vs Q E (hr.deeper _) hsp
  have ht := ht0.nox
  have I := inv_startQ (E := E) S e0 hl r xx
  refine wpAny_mono (ht.run [] s1 (L2.start N vs) H _ I hq) (fun fl s' hs => ?_) fun e s' hs => hs
  have fin : ∀ {σ' : L2.St} {H' : Hp} {v : V} {u : Value}, Inv (cxQ P w K mg base N x (defScope st) f cdv A outer s H E) [] σ' H' s' → RelV v u → Q v H' → CE outer P w H s Q u s' :=
    fun {σ' H' v u} J rv q => ⟨v, H', J.os, J.bare, J.base, J.hok, rv, q⟩
  cases fl with
  | ret u =>
    obtain ⟨v, σ', H', J, rv, q⟩ := hs
    exact fin J rv q
  | next =>
    obtain ⟨σ', H', J, q⟩ := hs
    exact fin (v := V.non) (u := Value.none) J rfl q
  | brk =>
    obtain ⟨_, _, _, q⟩ := hs
    exact False.elim q
  | cont =>
    obtain ⟨_, _, _, q⟩ := hs
    exact False.elim q
section
variable {X : Cx} {x : Str} {st : Stmt} {k : Nat} {ps : List Str} {sp : Sp} {e : Expr} {es : List Expr} {t : TA} {p pos : Pos}
theorem pe_callQ (D : DefAtQ X.prog X.w X.K X.mg X.base x st k ps sp) (hr : RoomQ k X.A) (ha : PA X (e :: es) t) (hg : Gl X x := by rfl)
    (hdb : (x == ("__debug__" : Str)) = false := by decide) (he : starEach (e :: es) X.env = (false, eval e X.env) :: starEach es X.env := by rfl) (hpl : (backTo pos (starEach es X.env)).any (·.1) = false := by rfl) :
    PE X (.Call (.Name x p) (e :: es) [] pos) (tCall sp [] E0 t) := by
  obtain ⟨f, fd, hm, F, G, b⟩ := D.ex
  refine ⟨fun pins s σ H Q I h => ?_⟩
  refine wpAny_Call_Name_kw (ld_glob I hg hm ?_ hdb)
  refine PySem.W.callWith_K (h₀ := X.base) I.ok.mod.kin F.kp (thn (ha.run pos pins s σ H _ I h) fun us s1 ⟨vs, H1, I1, r, q⟩ => ⟨I1.kIn, ?_⟩) he hpl
  have q : sp vs H1 Q E0 := by
    have q' : sp (vs ++ []) H1 Q E0 := q
    rw [List.append_nil] at q'
    exact q'
  refine wpAny_call (codeAny_mono (G.run X.A X.stack s1 H1 ⟨us, []⟩ us vs Q E0 hr I1.env0 (binds0 b r (G.len _ _ _ _ q) I1.kIn) r q) fun q' s' hq => ?_)
  cases q' with
  | error e => exact False.elim hq
  | ok fl =>
    cases fl with
    | ret u => exact I1.after hq
    | next => exact False.elim hq
    | brk => exact False.elim hq
    | cont => exact False.elim hq
end
section
variable {K : PySem.W.Frag} {H : Hp} {Q : VK} {a D dd tp : Addr} {fs : List (Str × V)} {mg : Str → Option Value} {x : Str} {cs : List V} {us : List Value} {b : Bool}
theorem kit_any_nil {c : Value} : PySem.W.kitAny K c [] = some false := rfl
theorem kit_any_no {c u : Value} {us : List Value} {b : Bool} (h : PySem.W.kitOne K c u = some false) (k : PySem.W.kitAny K c us = some b) : PySem.W.kitAny K c (u :: us) = some b := by
  unfold PySem.W.kitAny
  rw [h]
  exact k
theorem kit_any_yes {c u : Value} {us : List Value} (h : PySem.W.kitOne K c u = some true) : PySem.W.kitAny K c (u :: us) = some true := by
  unfold PySem.W.kitAny
  rw [h]
theorem w_isET (hT : H tp = some (.tup cs)) (ea : H a = some (exh a (.ref D) (some dd))) (ed : H dd = some (.xd fs)) (T : ExAt K mg x D) (k : Paired ClsV cs us) (e : PySem.W.kitAny K (.ref D) us = some b) (q : Q (.bl b) H) : rIsET K [.ref a, .ref tp] H Q :=
  ⟨a, D, dd, tp, fs, mg, x, cs, us, b, rfl, hT, k, ea, ed, T, e, q⟩
end
/-- [list(one) for one in kept] -/
theorem l_copyL {K : PySem.W.Frag} {a : Addr} {ps : List Addr} {xss : List (List Int)} {σ : L2.St} {H : Hp} {Q : VK} {j : Nat} (hw : ∀ v, wipe ((wipe σ [j]).set j (some v)) [j] = wipe σ [j]) (hv : ∀ v, ((wipe σ [j]).set j (some v))[j]? = some (some v)) (hz : ps.length ≤ 100000)
    (ha : H a = some (.lst (ps.map V.ref))) (hl : ListsAt H ps xss)
    (hd : ∀ (L : Addr) (qs : List Addr) (H' : Hp), H L = none → Fr [] H H' → H' L = some (.lst (qs.map V.ref)) → ListsAt H' qs xss → (∀ q ∈ qs, H q = none) → L ∉ qs → qs.Nodup → Q (.ref L) H') :
    LcB (gName j) tYes (tCB (rListOf K) (tCons (tVar j) tNil)) [j] σ Q (Itl K a) H := by
  refine l_list (ps.map V.ref) (fun L i H' => ∃ qs : List Addr, Fr [] H H' ∧ H' L = some (.lst (qs.map V.ref)) ∧ ListsAt H' qs (xss.take i) ∧ L ∉ qs ∧ qs.length = i ∧ (∀ q ∈ qs, H q = none) ∧ qs.Nodup) (fun L hL => ⟨[], Fr.refl.new hL, upd_same, .nil, by simp, rfl, by simp, .nil⟩) (fun L i H' _ _ h => .of (h.choose_spec.1.at0 ha)) (fun L i x H' hL hx h => ?_) (fun L H3 hL h => ?_)
  · obtain ⟨qs, g1, g2, g3, g4, g5, g6, g7⟩ := h
    rw [List.getElem?_map] at hx
    obtain ⟨t, ht, rfl⟩ : ∃ t, ps[i]? = some t ∧ x = V.ref t := by
      cases e : ps[i]? with
      | none => rw [e] at hx; cases hx
      | some t =>
        rw [e] at hx
        cases hx
        exact ⟨t, rfl, rfl⟩
    have hil := (List.getElem?_eq_some_iff.mp ht).1
    obtain ⟨xs, hxs⟩ : ∃ xs, xss[i]? = some xs := ⟨_, List.getElem?_eq_getElem (by rw [← hl.len]; exact hil)⟩
    have htx : H' t = some (.lst (xs.map V.int)) := g1.at0 (hl.at_ i t xs ht hxs)
    refine w_gname ⟨hw _, w_tYes (w_iteT ?_)⟩
    refine w_CB (w_cons (w_var (hv _) (w_nil (w_listof (SqL.of htx) fun l nl => ?_))))
    have hLl : L ≠ l := ne_of_none g2 nl
    have hLq : L ∉ qs ++ [l] := by simp [g4, hLl]
    refine w_appER (at_upd g2 nl) (by omega) ⟨qs ++ [l], (g1.new nl).put (.inl hL), upd_same, ?_, hLq, by simp [g5], mem_snoc g6 (g1.free List.not_mem_nil nl), ?_⟩
    · rw [List.take_succ, hxs]
      exact ((g3.fr (Fr.refl.new nl)).app (.one (xs := xs) upd_same)).put hLq
    · refine List.nodup_append.mpr ⟨g7, by simp, fun q hq b hb => ?_⟩
      rw [List.mem_singleton.mp hb]
      intro e
      subst e
      obtain ⟨n, hn⟩ := List.getElem?_of_mem hq
      have hn2 := (List.getElem?_eq_some_iff.mp hn).1
      have hlen := g3.len
      obtain ⟨ys, hys⟩ : ∃ ys, (xss.take i)[n]? = some ys := ⟨_, List.getElem?_eq_getElem (by rw [← hlen]; exact hn2)⟩
      rw [g3.at_ n q ys hn hys] at nl
      cases nl
  · obtain ⟨qs, g1, g2, g3, g4, g5, g6, g7⟩ := h
    rw [List.length_map] at g5 g3
    rw [hl.len, List.take_length] at g3
    exact hd L qs H3 hL g1 g2 g3 g6 g4 g7
theorem Fr.drop {S T : List Addr} {H H1 H2 : Hp} (f : Fr S H H1) (g : Fr T H1 H2) (h : ∀ t ∈ T, t ∈ S ∨ H t = none) : Fr S H H2 := fun b o n e => g b o (fun hb => by
  rcases h b hb with z | z
  · exact n z
  · rw [z] at e
    cases e) (f b o n e)
/-- [f(one) for one in [x, y]], the element leaving all as it is -/
theorem l_two {K : PySem.W.Frag} {a x y : Addr} {v1 v2 : V} {σ : L2.St} {H : Hp} {Q : VK} {j : Nat} {te : TE} (hw : ∀ v, wipe ((wipe σ [j]).set j (some v)) [j] = wipe σ [j]) (ha : H a = some (.lst [.ref x, .ref y]))
    (e1 : ∀ (H' : Hp) (R : VK), Fr [] H H' → R v1 H' → te ((wipe σ [j]).set j (some (.ref x))) H' R)
    (e2 : ∀ (H' : Hp) (R : VK), Fr [] H H' → R v2 H' → te ((wipe σ [j]).set j (some (.ref y))) H' R)
    (hd : ∀ (L : Addr) (H' : Hp), H L = none → Fr [] H H' → H' L = some (.lst [v1, v2]) → Q (.ref L) H') : LcB (gName j) tYes te [j] σ Q (Itl K a) H := by
  refine l_list [.ref x, .ref y] (fun L i H' => Fr [] H H' ∧ H' L = some (.lst ([v1, v2].take i))) (fun L hL => ⟨Fr.refl.new hL, upd_same⟩) (fun L i H' _ _ h => .of (h.1.at0 ha)) (fun L i z H' hL hx h => ?_) (fun L H3 hL h => hd L H3 hL h.1 h.2)
  obtain ⟨g1, g2⟩ := h
  match i, hx, g2 with
  | 0, hx, g2 =>
    obtain rfl : V.ref x = z := by simpa using hx
    refine w_gname ⟨hw _, w_tYes (w_iteT (e1 H' _ g1 ?_))⟩
    exact w_appE g2 (by simp) ⟨g1.put (.inl hL), upd_same⟩
  | 1, hx, g2 =>
    obtain rfl : V.ref y = z := by simpa using hx
    refine w_gname ⟨hw _, w_tYes (w_iteT (e2 H' _ g1 ?_))⟩
    exact w_appE g2 (by simp) ⟨g1.put (.inl hL), upd_same⟩
  | i + 2, hx, g2 => simp at hx
theorem all_si {s : Str} {i : Int} (h : PyData.strOk s = true) : [V.str s, V.int i].all scal = true := by
  have h' : scal (.str s) = true := h
  simp [scal, h]
theorem all_sn {s : Str} (h : PyData.strOk s = true) : [V.str s, V.non].all scal = true := by
  have h' : scal (.str s) = true := h
  simp [scal, h]
theorem kc_xfH {X : Cx} {K : PySem.W.Frag} {e : Expr} {te : TE} (h : PE X e (tXfH X.K te)) (hk : X.K = K) : PE X e (tXfH K te) := hk ▸ h
/-! ### None, or a tuple of a word and a number -/
def DueAt (H : Hp) : Option (Str × Int) → V → Prop
  | none, v => v = .non
  | some (wd, y), v => ∃ t, v = .ref t ∧ H t = some (.tup [.str wd, .int y])
theorem DueAt.fr {H H' : Hp} {d : Option (Str × Int)} {v : V} (h : DueAt H d v) (f : Fr [] H H') : DueAt H' d v := by
  cases d with
  | none => exact h
  | some z =>
    obtain ⟨t, h1, h2⟩ := h
    exact ⟨t, h1, f.at0 h2⟩
theorem DueAt.made {H' : Hp} {wd : Str} {y : Int} {p : Addr} (h : H' p = some (.tup [.str wd, .int y])) : DueAt H' (some (wd, y)) (.ref p) := ⟨p, rfl, h⟩
theorem DueAt.pair {K : PySem.W.Frag} {H : Hp} {d : Option (Str × Int)} {v w : V} (ok : ∀ wd y, d = some (wd, y) → PyData.strOk wd = true) (h1 : DueAt H d v) (h2 : DueAt H d w) : ∃ x, Dp K H v x ∧ Dp K H w x ∧ SeqAt.shaped x = true ∧ PyData.eqv x x = true := by
  cases d with
  | none =>
    obtain rfl : v = .non := h1
    obtain rfl : w = .non := h2
    exact ⟨.none, .non, .non, by decide +kernel, by decide +kernel⟩
  | some z =>
    obtain ⟨wd, y⟩ := z
    obtain ⟨t, rfl, h1⟩ := h1
    obtain ⟨u, rfl, h2⟩ := h2
    obtain ⟨i1, i2, i3⟩ := scal_all (K := K) (H := H) (xs := [V.str wd, V.int y]) (all_si (ok wd y rfl))
    have c1 : PyData.canLay0 (.tuple ([V.str wd, V.int y].map sD)) = true := by simp only [PyData.canLay0]; exact i2
    have c2 : PyData.depth (.tuple ([V.str wd, V.int y].map sD)) ≤ 64 := by
      simp only [PyData.depth]
      omega
    refine ⟨.tuple ([V.str wd, V.int y].map sD), .tup (SqT.of h1) i1, .tup (SqT.of h2) i1, ?_, PySem.SeqAt.eqv_refl _ c1⟩
    unfold SeqAt.shaped
    rw [c1]
    simpa using c2
theorem w_neDue {K : PySem.W.Frag} {H : Hp} {Q : VK} {d : Option (Str × Int)} {v w : V} (ok : ∀ wd y, d = some (wd, y) → PyData.strOk wd = true) (h1 : DueAt H d v) (h2 : DueAt H d w) (k : Q (.bl false) H) : rNeD K v w H Q := by
  obtain ⟨x, a, b, s1, e⟩ := DueAt.pair (K := K) ok h1 h2
  exact ⟨x, x, a, b, s1, s1, by rw [e]; exact k⟩
/-! ### methods with a star parameter -/
def stSp (n : Nat) (sp : Sp) : Sp := fun vs H Q E => ∃ ws rest, vs = ws ++ rest ∧ ws.length = n ∧ rest.length ≤ sizeLine ∧ ∀ p, H p = none → sp (ws ++ [V.ref p]) (upd H p (.tup rest)) Q E
structure MDefAtS (P : Program) (w : World) (K : PySem.W.Frag) (mg : Str → Option Value) (base : Heap) (C : Addr) (m qual : Str) (st : Stmt) (k : Nat) (ps : List Str) (pv : Str) (sp : Sp) : Prop where
  ex : ∃ f fd, Meth K C m f ∧ Fun K m qual st f fd ∧ FnR P w K mg base (L2.CX P w) k f (stSp ps.length sp)
theorem MethAt.okS {P : Program} {w : World} {K : PySem.W.Frag} {mg : Str → Option Value} {base : Heap} {m qual pv : Str} {st : Stmt} {k : Nat} {ps N : List Str} {sp : Sp} {C : Addr} (F : MethAt K C m qual st) (S : FnScope N (ps ++ [pv]) (defScope st))
    (hb : ∀ (kV doc pm : Value) (an : Option Addr) (cdv ct : Value) (us rest : List Value), us.length = ps.length → bindArgs (PySem.W.fnOf m qual (defArgs st) (defBody st) (defScope st) .none kV doc pm an cdv ct) ⟨us ++ rest, []⟩ = (newTuple rest >>= fun t => pure (ps.zip us ++ [(pv, t)])))
    (hbody : ∀ (f : Addr) (cdv : Value) (A : Around) (outer : List Env) (s : Shared) (H : Hp) (vs : List V) (Q : VK) (E : XK), Room k (A.deeper (envOfC qual (defScope st) s.heap.objs.size f cdv)) → sp vs H Q E →
      ∃ t, PSs (cxOf (L2.CX P w) P w K mg base N qual (defScope st) f cdv A outer s H E) (defBody st) t ∧ t { nx := fun _ H' => Q .non H', rt := Q } (start N vs) H) : MDefAtS P w K mg base C m qual st (k + 1) ps pv sp := by
  obtain ⟨f, fd, hm, F⟩ := F.ex
  refine ⟨f, fd, hm, F, ?_⟩
  obtain ⟨oc, od, kV, doc, pm, an, cdv, ct, osl, rfl, lk, hcd⟩ := F.ex
  exact StX.fn_star lk hcd S StX.cxUp (hb kV doc pm an cdv ct) fun A outer s H vs Q E hr hsp => hbody f cdv A outer s H vs Q E hr hsp
section
variable {X : Cx} {m qual pv : Str} {st : Stmt} {k : Nat} {ps : List Str} {sp : Sp} {C : Addr} {e o : Expr} {es : List Expr} {t : TA} {ta : TE} {pos apos : Pos} {W : WX} {CX : CXT} {f : Addr}
theorem run_atR {pins : List (Addr × Obj)} {σ : L2.St} {H : Hp} {s : Shared} {Q : VK} {E : XK} {us : List Value} {vs : List V} {sq : Sp} (F : FnR X.prog X.w X.K X.mg X.base CX k f sq) (hr : Room k X.A) (hx : PassesAt CX X σ E)
    (I : Inv X pins σ H s) (r : Vals vs us) (h : sq vs H Q E) : wpAny (model X.prog X.w) X.A (call (.ref f) us) (EP X pins σ Q) X.xe s := by
  refine wpAny_call (codeAny_mono (F X.A X.stack s H us vs Q E hr I.env0 r h) fun q s' hq => ?_)
  cases q with
  | error e => exact hx pins H s e s' I hq
  | ok fl =>
    cases fl with
    | ret u => exact I.after hq
    | next => exact False.elim hq
    | brk => exact False.elim hq
    | cont => exact False.elim hq
theorem pe_methS {pl : Sem Bool} (he : PE X o ta) (T : Cls X.K C) (D : MDefAtS X.prog X.w X.K X.mg X.base C m qual st k ps pv sp) (hr : Room k X.A) (tkn : Takes X W) (ha : PA X (e :: es) t)
    (hst : starEach (e :: es) X.env = (false, eval e X.env) :: starEach es X.env := by rfl) (hpl : (backTo pos (starEach es X.env)).any (·.1) = false := by rfl)
    (ht : eval (.Call (.Attribute o m apos) (e :: es) [] pos) X.env = (do
      let ov ← eval o X.env
      standAt apos.atName
      let (f, first) ← holding [ov] (getMethod ov m pl)
      callWith pos f first (backTo pos (starEach (e :: es) X.env)) (backToKw pos (keywordEach [] X.env))) := by rfl) :
    PE X (.Call (.Attribute o m apos) (e :: es) [] pos) (tMethX C m (stSp ps.length sp) W ta t) := by
  obtain ⟨f, fd, hm, F, G⟩ := D.ex
  refine ⟨fun pins s σ H Q I h => ?_⟩
  refine PySem.W.methodCall_KW (pl := pl) (thn (he.run pins s σ H _ I h) fun u s1 ⟨x, H1, I1, rx, a, dx, fs, ex, ea, l, q⟩ => ?_) ht
  subst ex
  obtain rfl : u = Value.ref a := rx
  refine getmeth_ok I1 ea T hm l ?_
  refine PySem.W.callWith_K (first := [.ref a]) (h₀ := X.base) I.ok.mod.kin hm.kp (thn (ha.run pos pins s1 σ H1 _ I1 q) fun us s2 ⟨vs, H2, I2, r, q2⟩ => ⟨I2.kIn, ?_⟩) hst hpl
  have r2 : Vals (V.ref a :: vs) (Value.ref a :: us) := .cons rfl r
  exact run_atR (us := .ref a :: us) G hr (L2.passAt tkn σ) I2 r2 q2
theorem pe_methS0 {pl : Sem Bool} (he : PE X o ta) (T : Cls X.K C) (D : MDefAtS X.prog X.w X.K X.mg X.base C m qual st k ps pv sp) (hr : Room k X.A) (tkn : Takes X W)
    (ht : eval (.Call (.Attribute o m apos) [] [] pos) X.env = (do
      let ov ← eval o X.env
      standAt apos.atName
      let (f, first) ← holding [ov] (getMethod ov m pl)
      callWith pos f first (backTo pos (starEach [] X.env)) (backToKw pos (keywordEach [] X.env))) := by rfl) :
    PE X (.Call (.Attribute o m apos) [] [] pos) (tMethX C m (stSp ps.length sp) W ta tNil) := by
  obtain ⟨f, fd, hm, F, G⟩ := D.ex
  refine ⟨fun pins s σ H Q I h => ?_⟩
  refine PySem.W.methodCall_KW (pl := pl) (thn (he.run pins s σ H _ I h) fun u s1 ⟨x, H1, I1, rx, a, dx, fs, ex, ea, l, q⟩ => ?_) ht
  subst ex
  obtain rfl : u = Value.ref a := rx
  refine getmeth_ok I1 ea T hm l ?_
  refine PySem.W.callWith_K0 (first := [.ref a]) I1.kIn hm.kp ?_
  exact run_atR (us := [.ref a]) (vs := [V.ref a]) G hr (L2.passAt tkn σ) I1 (.cons rfl .nil) q
end
theorem w_listofT {K : PySem.W.Frag} {H : Hp} {Q : VK} {p : Addr} {xs : List V} (h : SqT K H p xs) (q : ∀ l, H l = none → Q (.ref l) (upd H l (.lst xs))) : rListOf K [.ref p] H Q := ⟨p, xs, rfl, .inr h, q⟩
theorem w_ixLastR {K : PySem.W.Frag} {H : Hp} {Q : VK} {p r : Addr} {ri : List Addr} (h : H p = some (.lst ((ri ++ [r]).map V.ref))) (q : Q (.ref r) H) : rIxL K (.ref p) (.int (-1)) H Q := by
  refine w_ixL (SqL.of h) ?_ q
  rw [List.map_append]
  exact atI_last _ _
theorem scal_sameT {K : PySem.W.Frag} {H : Hp} {p q : Addr} {xs : List V} (h1 : H p = some (.tup xs)) (h2 : H q = some (.tup xs)) (f : xs.all scal = true) : ∃ d, Dp K H (.ref p) d ∧ Dp K H (.ref q) d ∧ SeqAt.shaped d = true ∧ PyData.eqv d d = true := by
  obtain ⟨i1, i2, i3⟩ := scal_all (K := K) (H := H) f
  have c1 : PyData.canLay0 (.tuple (xs.map sD)) = true := by simp only [PyData.canLay0]; exact i2
  have c2 : PyData.depth (.tuple (xs.map sD)) ≤ 64 := by
    simp only [PyData.depth]
    omega
  refine ⟨.tuple (xs.map sD), .tup (SqT.of h1) i1, .tup (SqT.of h2) i1, ?_, PySem.SeqAt.eqv_refl _ c1⟩
  unfold SeqAt.shaped
  rw [c1]
  simpa using c2
theorem w_neScalT {K : PySem.W.Frag} {H : Hp} {Q : VK} {p q : Addr} {xs : List V} (h1 : H p = some (.tup xs)) (h2 : H q = some (.tup xs)) (f : xs.all scal = true) (k : Q (.bl false) H) : rNeD K (.ref p) (.ref q) H Q := by
  obtain ⟨d, a, b, c, e⟩ := scal_sameT (K := K) h1 h2 f
  exact ⟨d, d, a, b, c, c, by rw [e]; exact k⟩
theorem all_sbi {s : Str} {b : Bool} {i : Int} (h : PyData.strOk s = true) : [V.str s, V.bl b, V.int i].all scal = true := by
  simp [scal, h]
theorem w_cut {t1 : TS} {D : Ends} {σ : L2.St} {H : Hp} (I : L2.St → Hp → Prop) (h : ∀ N : L2.St → Hp → Prop, (∀ σ H, I σ H → N σ H) → t1 { D with nx := N } σ H) (k : ∀ σ H, I σ H → D.nx σ H) : t1 D σ H := h D.nx k
end Pg


namespace PySem
namespace HandSPX
open Builtin Builtin.ObjectAttr
section
variable {M : Model} {A : Around} {E : Value → Shared → Prop} {h : Heap} {g : Array GenState} {d : Drawn} {t : Nat} {os : OsState}
variable {nm q : Str} {C N : Addr} {bs bm bmB : List Value} {hdct : Bool} {sn : List Str} {sub : List Value} {ab : Bool} {col : Option Bool} {dd : Option Addr} {k0 k1 k2 k3 k5 : Option Value} {B newId initId : String}
theorem check_new_ownK (F : ExcBaseFacts B newId initId bmB) (hT : ∀ X : String, bm.contains (.type X) = bmB.contains (.type X)) {x : Str} {u : Value} {Q : Unit → Shared → Prop}
    (hC : h.get? C = some (excClassObj nm q C N bs bm hdct sn sub ab col dd k0 k1 k2 k3 k5 newId)) (hq : Q () ⟨h, g, d, t, os⟩) : wpAny M A (checkBuiltinCall newId ⟨[.ref C], [(x, u)]⟩) Q E ⟨h, g, d, t, os⟩ := by
  have hcont : (Value.ref C :: bm).contains (.type B) = true := by rw [List.contains_cons, hT, F.hasB, Bool.or_true]
  have hstar := F.noStar
  simp only [checkBuiltinCall, F.newKind, F.newSplit, F.newRow]
  repeat (first | refine wpAny_loadPart_at hC ?_ | (refine wpAny_isSubtype_exc hC ?_; rw [hcont]) | refine wpAny_staticBase_exc hC ?_ | refine wpAny_madeBy_exc hC ?_ | simp only [bne_self_eq_false, Bool.false_eq_true, if_false] | wp_step)
  exact hq
theorem check_type_call_subK {x : Str} {u : Value} {Q : Unit → Shared → Prop} (hC : h.get? C = some (excClassObj nm q C N bs bm hdct sn sub ab col dd k0 k1 k2 k3 k5 newId))
    (hq : Q () ⟨h, g, d, t, os⟩) : wpAny M A (checkBuiltinCall "type.__call__" ⟨[.ref C], [(x, u)]⟩) Q E ⟨h, g, d, t, os⟩ := by
  have f3 := tc_sub
  have hT : (⟨h, g, d, t, os⟩ : Shared).TypeIs (.ref C) "type" := ⟨_, hC, rfl⟩
  simp only [checkBuiltinCall, tc_kind, tc_split]
  repeat (any_goals (first | assumption | with_reducible refine wpAny_loadPart_at hC ?_ | with_reducible refine wpAny_onRaise ?_ | with_reducible refine wpAny_map ?_ | wp_step))
end
section
variable {prog : Program} {w : World} {A : Around} {E : Value → Shared → Prop} {R : Result → Shared → Prop} {h : Heap} {g : Array GenState} {d : Drawn} {t : Nat} {os : OsState}
variable {nm q : Str} {C N : Addr} {bs bm bmB : List Value} {hdct : Bool} {sn : List Str} {sub : List Value} {ab : Bool} {col : Option Bool} {dd : Option Addr} {k0 k1 k2 k3 k5 : Option Value} {B newId initId : String}
theorem new_ownK (F : ExcBaseFacts B newId initId bmB) (hT : ∀ X : String, bm.contains (.type X) = bmB.contains (.type X)) {x : Str} {u : Value}
    (hC : h.get? C = some (excClassObj nm q C N bs bm hdct sn sub ab col dd k0 k1 k2 k3 k5 newId))
    (hq : R (.ok (.ret (.ref (h.objs.size + 1)))) ⟨(h.push { cls := .type "tuple", data := .seq ([] : List Value).toArray }).push
      { cls := .ref C, data := .fields #[.ref h.objs.size, .none, .none, .none, .bool false, .none] }, g, d, t, os⟩) :
    codeAny (model prog w) A (.builtin newId ⟨[.ref C], [(x, u)]⟩) R ⟨h, g, d, t, os⟩ := by
  have hends := F.ends
  have hcB : (Value.ref C :: bm).contains (.type B) = true := by rw [List.contains_cons, hT, F.hasB, Bool.or_true]
  have hcA : (Value.ref C :: bm).contains (.type "AttributeError") = false := by rw [List.contains_cons, hT, F.noAttr]; rfl
  have hcN : (Value.ref C :: bm).contains (.type "NameError") = false := by rw [List.contains_cons, hT, F.noName]; rfl
  refine codeAny_builtinAt F.entry ?_
  unfold Builtin.«BaseException.__new__»
  refine wpAt_bind ?_
  show wpAt _ _ _ (stack >>= _) _ _ _
  refine wpAt_bind (wpAt_stack fun p below => wpAt_of_wpAny ?_)
  wp_walk
  refine wpAt_of_wpAny ?_
  rw [F.owner]
  repeat (first | with_reducible refine wpAny_madeHere_exc F.canon hC ?_ | with_reducible refine wpAny_loadPart_at hC ?_ | (with_reducible refine wpAny_isSubtype_exc hC ?_; first | rw [hcB] | rw [hcA] | rw [hcN]) | wp_step)
  show R _ _
  rw [Heap.size_push]
  exact hq
theorem type_call_ownK (F : ExcBaseFacts B newId initId bmB) (hT : ∀ X : String, bm.contains (.type X) = bmB.contains (.type X)) {x : Str} {u : Value} {fI : Addr} {Q : Fin → Shared → Prop}
    (hC : h.get? C = some (excClassObj nm q C N bs bm hdct sn sub ab col dd k0 k1 k2 k3 k5 newId))
    (hi : W.Looks (model prog w) h (typeLookup (.ref C) "__init__") (some (.ref fI))) (hb : ∀ self, W.Looks (model prog w) h (bindSpecial (.ref fI) self) (.ref fI, [self]))
    (hq : codeAny (model prog w) A (.call (.ref fI) ⟨[.ref (h.objs.size + 1)], [(x, u)]⟩)
      (fun r s' => match r with | .ok (.ret v) => v = .none ∧ Q (.done (.ret (.ref (h.objs.size + 1)))) s' | .ok _ => False | .error e => E e s')
      ⟨(h.push (W.kdv_tup [])).push (excO C h.objs.size), g, d, t, os⟩) :
    wpAny (model prog w) A (Builtin.«type.__call__» ⟨[.ref C], [(x, u)]⟩) Q E ⟨h, g, d, t, os⟩ := by
  repeat (first | with_reducible refine wpAny_loadPart_at hC ?_ | with_reducible refine wpAny_madeBy_exc hC ?_ | wp_step)
  refine codeAny_call_builtin_code (Code.quiet_builtin _ F.quiet) (check_new_ownK F hT hC ?_)
  refine new_ownK F hT hC ?_
  show wpAny _ _ _ _ _ _
  have k : ∀ b o, h.get? b = some o → ((h.push (W.kdv_tup [])).push (excO C h.objs.size)).get? b = some o := fun b o e => Heap.get?_push_of_some _ (Heap.get?_push_of_some _ e)
  have hC₁ := k _ _ hC
  have hget : ((h.push (W.kdv_tup [])).push (excO C h.objs.size)).get? (h.objs.size + 1) = some (excO C h.objs.size) := by heap_get
  have hcC : (Value.ref C :: bm).contains (.ref C) = true := by simp
  have i1 := hi.keeps k
  have b1 := (hb (.ref (h.objs.size + 1))).keeps k
  unfold isInstance
  repeat (first | with_reducible refine wpAny_loadPart_at hget ?_ | (with_reducible refine wpAny_isSubtype_exc hC₁ ?_; rw [hcC]) | wp_step)
  show wpAny _ _ (typeLookup (.ref C) _) _ _ _
  refine i1.at ?_
  refine wpAny_holding (wpAny_bind (b1.at ?_))
  refine wpAny_bind (wpAny_call (codeAny_mono hq fun r s' z => ?_))
  rcases r with e | (v | _ | _ | _) <;> first | exact z | exact z.elim | skip
  obtain ⟨rfl, z⟩ := z
  first
    | exact wpAny_pure (wpAny_pure z)
    | (wp_walk; exact z)
theorem call_ownK (F : ExcBaseFacts B newId initId bmB) (hT : ∀ X : String, bm.contains (.type X) = bmB.contains (.type X)) {x : Str} {u : Value} {fI : Addr}
    (hC : h.get? C = some (excClassObj nm q C N bs bm hdct sn sub ab col dd k0 k1 k2 k3 k5 newId))
    (hi : W.Looks (model prog w) h (typeLookup (.ref C) "__init__") (some (.ref fI))) (hb : ∀ self, W.Looks (model prog w) h (bindSpecial (.ref fI) self) (.ref fI, [self]))
    (hq : codeAny (model prog w) (A.under (.builtin "type.__call__" ⟨[.ref C], [(x, u)]⟩)) (.call (.ref fI) ⟨[.ref (h.objs.size + 1)], [(x, u)]⟩) (W.InitBack (h.objs.size + 1) R)
      ⟨(h.push (W.kdv_tup [])).push (excO C h.objs.size), g, d, t, os⟩) :
    codeAny (model prog w) A (.call (.ref C) ⟨[], [(x, u)]⟩) R ⟨h, g, d, t, os⟩ := by
  have f1 := tc_lookup
  have f2 := tc_bind (.ref C)
  have hTy : (⟨h, g, d, t, os⟩ : Shared).TypeIs (.ref C) "type" := ⟨_, hC, rfl⟩
  refine codeAny_of_tree ?_
  show wpAny _ _ (callAny (.ref C) _) _ _ _
  repeat (any_goals (first | assumption | with_reducible refine wpAny_loadPart_at hC ?_ | wp_step))
  refine ⟨rfl, ?_⟩
  refine codeAny_call_builtin_at (Code.quiet_builtin _ (by decide +kernel)) entry_typeCall (check_type_call_subK hC (type_call_ownK F hT hC hi hb ?_))
  refine codeAny_mono hq fun r s' z => ?_
  rcases r with e | (v | _ | _ | _) <;> exact z
end
end HandSPX
end PySem
namespace Pg
open PySem PySem.Spec PyProof.Rows L2
/-! ### exceptions that are made and kept -/
def MadW (Q : VK) : WX := fun cls d _ H' => ∀ a, H' a = none → Q (.ref a) (upd H' a (exh a cls d))
def tMade (t : L2.St → Hp → XK → Prop) : TE := fun σ H Q => t σ H (wAt (MadW Q) σ)
theorem pe_made {X : Cx} {e : Expr} {t : L2.St → Hp → XK → Prop} (h : PMk X e t) (hex : X.ex = [] := by rfl) : PE X e (tMade t) := by
  refine ⟨fun pins s σ H Q I hq => thn (h pins s σ H _ I hq) fun u s' hu => ?_⟩
  obtain ⟨a, oe, vs, sI, H', cls, d, rfl, J, k, na, ha, hz, hd, h1, nH, os, ag, r, q⟩ := hu
  have J1 : Inv X pins σ H' s' := J.landed (B := sI.heap) (fun _ _ e _ => e) k (fun b o e _ => ⟨o.slots, k b o e⟩) os ag
  have nL : a ≠ X.env.locals := fun z => by
    obtain ⟨m, hn, _⟩ := J.loc
    obtain ⟨o, es, ep, e1, _⟩ := hn
    rw [← z, na] at e1
    cases e1
  have n0 : X.s_0.heap.get? a = none := by
    cases q : X.s_0.heap.get? a with
    | none => rfl
    | some o =>
      obtain ⟨o', z⟩ := J.base.there a o q (by rw [hex]; simp)
      rw [na] at z
      cases z
  have npn : ∀ p ∈ X.pn ++ pins, p.1 ≠ a := fun p hp z => by
    have z1 := (J.pin p hp).1
    rw [z, na] at z1
    cases z1
  exact ⟨.ref a, _, Inv.hold J1 ha hz hd nH n0 nL npn, rfl, q a nH⟩
def tMkOK (C : Addr) (sp : Sp) (ks : List Str) (ix : List Nat) (tk : TA) : L2.St → Hp → XK → Prop := fun σ H Q => tk σ H fun zs H1 => zs.length = ks.length ∧ ∀ a, H1 a = none → sp (.ref a :: pick ix zs) (upd H1 a (exo a C none))
  (fun v H2 => v = .non ∧ ∃ (d : Addr) (fs : List (Str × V)), H2 a = some (exo a C (some d)) ∧ H2 d = some (exd d fs) ∧ H1 d = none ∧ Q (.ref C) (some d) (upd (del H2 a) d (.xd fs))) (fun _ _ _ => False)
theorem pmk_oexK {X : Cx} {kw : Keyword} {tk : TA} {p pos : Pos} {x qual k1 : Str} {C fI : Addr} {k : Nat} {st : Stmt} {fd : FuncData} {ps : List Str} {sp : Sp} {ix : List Nat} (T : OexC X.K C) (iC : PySem.W.findIn X.K (.ref C) "__init__" = some (some (.ref fI))) (tI : PySem.W.typeIn X.K (.ref fI) = some (.type "function"))
    (F1 : FnOk X.prog X.w X.K X.mg X.base CX0 k fI fd ps sp) (F0 : Fun X.K "__init__" qual st fI fd) (hr : Room (k + 1) X.A) (B : KB0 "__init__" qual st ps [k1] 1 ix) (hg : Gl X x) (hm : X.mg x = some (.ref C)) (hkw : PK X [kw] tk)
    (hdb : (x == ("__debug__" : Str)) = false := by decide) (hall : (backToKw pos (keywordEach [kw] X.env)).all (·.1.isSome) = true := by rfl) (hks : (backToKw pos (keywordEach [kw] X.env)).filterMap (·.1) = [k1] := by rfl)
    (hpl : ((backTo pos (starEach [] X.env)).any (·.1) || (backToKw pos (keywordEach [kw] X.env)).any (·.1.isNone)) = false := by rfl) :
    PMk X (.Call (.Name x p) [] [kw] pos) (tMkOK C sp [k1] ix tk) := by
  intro pins s σ H Q I h
  obtain ⟨nm, q, N, bs, bm, sn, sub, ab, col, dd, k0, k1', k2, k3, k5, hC, hbm⟩ := T.cls
  refine wpAny_Call_Name_kw (ld_glob I hg hm ?_ hdb)
  refine PySem.W.callWith_KW0 (h₀ := X.base) I.ok.mod.kin T.kC hall ?_ hpl
  refine thn (hkw.run pos pins s σ H _ I h) fun ws s1 ⟨zs, H1, I1, r1, hz, q1⟩ => ⟨I1.kIn, ?_⟩
  rw [hks]
  obtain ⟨w1, rfl⟩ : ∃ w1, ws = [w1] := by
    have e := r1.length
    rw [hz] at e
    match ws, e with
    | [w1], _ => exact ⟨w1, rfl⟩
  show wpAny _ _ (call (.ref C) [] [(k1, w1)]) _ _ _
  obtain ⟨hp, g, dr, tk, os⟩ := s1
  have hsz : hp.objs.size ≤ hp.objs.size + 1 := Nat.le_succ _
  have hn : H1 (hp.objs.size + 1) = none := I1.hok.fresh hsz
  have hq := q1 (hp.objs.size + 1) hn
  have kk : ∀ b o, hp.get? b = some o → ((hp.push (PySem.W.kdv_tup [])).push (PySem.HandSPX.excO C hp.objs.size)).get? b = some o := fun b o e => Heap.get?_push_of_some _ (Heap.get?_push_of_some _ e)
  have hget : ((hp.push (PySem.W.kdv_tup [])).push (PySem.HandSPX.excO C hp.objs.size)).get? (hp.objs.size + 1) = some (PySem.HandSPX.excO C hp.objs.size) := by heap_get
  have I2 : Inv X pins σ (upd H1 (hp.objs.size + 1) (exo (hp.objs.size + 1) C none)) ⟨(hp.push (PySem.W.kdv_tup [])).push (PySem.HandSPX.excO C hp.objs.size), g, dr, tk, os⟩ :=
    I1.laid (t' := tk) (a := hp.objs.size + 1) (o := exo (hp.objs.size + 1) C none) (h' := (hp.push (PySem.W.kdv_tup [])).push (PySem.HandSPX.excO C hp.objs.size)) kk hsz (exo_ok hget)
  have r2 : Vals (V.ref (hp.objs.size + 1) :: pick ix zs) (Value.ref (hp.objs.size + 1) :: pick ix [w1]) := .cons rfl (pick_vals r1 ix)
  have hb := (B.kbn F0).to ⟨(hp.push (PySem.W.kdv_tup [])).push (PySem.HandSPX.excO C hp.objs.size), g, dr, tk, os⟩ [Value.ref (hp.objs.size + 1)] [w1] I2.kIn rfl rfl
  refine wpAny_call (PySem.HandSPX.call_ownK F.excBase_ValueError (fun Y => PySem.HandSPX.refsVE_contains Y bm hbm) (I1.kIn _ _ hC) (PySem.W.looks_findIn I1.kIn iC) (fun self => PySem.W.bind_fn I1.kIn self tI)
    (codeAny_mono (F1.run _ X.stack _ _ ⟨[Value.ref (hp.objs.size + 1)], [(k1, w1)]⟩ (Value.ref (hp.objs.size + 1) :: pick ix [w1]) _ _ (fun _ _ _ => False) (hr.make C [] [(k1, w1)]) (I2.env0.make C [] [(k1, w1)]) hb r2 hq) fun r s' hq' => ?_))
  cases r with
  | error er => exact False.elim hq'
  | ok fl =>
    cases fl with
    | ret u =>
      obtain ⟨v, H2, os2, bare2, un2, hok2, rv, ev, d, fs, ea, ed, hd1, q2⟩ := hq'
      subst ev
      obtain ⟨h2, g2, d2, t2, os'⟩ := s'
      exact ⟨rv, mk_end (raises_own T.exC T.tyC) I1 hsz kk un2 hok2 os2 bare2 ea ed hd1 q2⟩
    | next => exact False.elim hq'
    | brk => exact False.elim hq'
    | cont => exact False.elim hq'
section
variable {X : Cx} {e : Expr} {kw : Keyword} {te : TE} {tk : TA} {x qual : Str} {st : Stmt} {k : Nat} {C : Addr} {p pos : Pos}
theorem pe_exPos (T : ExAt X.K X.mg x C) (D : MDefAt X.prog X.w X.K X.mg X.base C "__init__" qual st k ["self", "value"] (spEInit X.K C)) (hr : Room (k + 1) X.A) (he : PE X e te) (hg : Gl X x := by rfl) (hex : X.ex = [] := by rfl)
    (hdb : (x == ("__debug__" : Str)) = false := by decide) (hst : starEach [e] X.env = (false, eval e X.env) :: starEach [] X.env := by rfl) (hpl : (backTo pos (starEach [] X.env)).any (·.1) = false := by rfl) :
    PE X (.Call (.Name x p) [e] [] pos) (tMade (tMkO C (spEInit X.K C) [] (tCons te tNil))) := by
  obtain ⟨f, fd, hm, F, G, b⟩ := D.ex
  have ti : PySem.W.typeIn X.K (.ref f) = some (.type "function") := beq_iff_eq.mp hm.fn
  exact pe_made (pmk_oex (p := p) (pos := pos) T.o hm.at_ ti G hr b .nil (fun _ _ _ _ _ _ _ z => z.elim) hg T.g (pa_cons he pa_nil hst) hdb hst hpl) hex
theorem pe_exKw (T : ExAt X.K X.mg x C) (D : MDefAt X.prog X.w X.K X.mg X.base C "__init__" qual st k ["self", "value"] (spEInit X.K C)) (hr : Room (k + 1) X.A) (B : KB0 "__init__" qual st ["self", "value"] ["value"] 1 [0]) (hkw : PK X [kw] tk) (hg : Gl X x := by rfl) (hex : X.ex = [] := by rfl)
    (hdb : (x == ("__debug__" : Str)) = false := by decide) (hall : (backToKw pos (keywordEach [kw] X.env)).all (·.1.isSome) = true := by rfl) (hks : (backToKw pos (keywordEach [kw] X.env)).filterMap (·.1) = [("value" : Str)] := by rfl)
    (hpl : ((backTo pos (starEach [] X.env)).any (·.1) || (backToKw pos (keywordEach [kw] X.env)).any (·.1.isNone)) = false := by rfl) :
    PE X (.Call (.Name x p) [] [kw] pos) (tMade (tMkOK C (spEInit X.K C) ["value"] [0] tk)) := by
  obtain ⟨f, fd, hm, F, G, b⟩ := D.ex
  have ti : PySem.W.typeIn X.K (.ref f) = some (.type "function") := beq_iff_eq.mp hm.fn
  exact pe_made (pmk_oexK (p := p) (pos := pos) T.o hm.at_ ti G F hr B hg T.g hkw hdb hall hks hpl) hex
end
section
variable {K : PySem.W.Frag} {C : Addr} {σ : L2.St} {H : Hp} {Q : VK} {ta tk : TA} {y : V}
def MadeL (K : PySem.W.Frag) (C : Addr) (Q : VK) (σ : L2.St) : List V → Hp → Prop := fun vs H1 => vs.length ≤ 1000 ∧ ∀ a, H1 a = none → spEInit K C (.ref a :: (vs ++ [])) (upd H1 a (exo a C none))
  (fun v H2 => v = .non ∧ ∃ (d : Addr) (fs : List (Str × V)), H2 a = some (exo a C (some d)) ∧ H2 d = some (exd d fs) ∧ H1 d = none ∧ wAt (MadW Q) σ (.ref C) (some d) (upd (del H2 a) d (.xd fs))) (fun _ _ _ => False)
theorem w_made1 (h : ta σ H (MadeL K C Q σ)) : tMade (tMkO C (spEInit K C) [] ta) σ H Q := h
theorem w_madeL (q : ∀ d a, H d = none → upd H d (.xd [("value", y)]) a = none → Q (.ref a) (upd (upd H d (.xd [("value", y)])) a (exh a (.ref C) (some d)))) : MadeL K C Q σ [y] H :=
  w_raiseE (W := MadW Q) (K := K) fun d nd a na => q d a nd na
def MadeLK (K : PySem.W.Frag) (C : Addr) (ks : List Str) (ix : List Nat) (Q : VK) (σ : L2.St) : List V → Hp → Prop := fun zs H1 => zs.length = ks.length ∧ ∀ a, H1 a = none → spEInit K C (.ref a :: pick ix zs) (upd H1 a (exo a C none))
  (fun v H2 => v = .non ∧ ∃ (d : Addr) (fs : List (Str × V)), H2 a = some (exo a C (some d)) ∧ H2 d = some (exd d fs) ∧ H1 d = none ∧ wAt (MadW Q) σ (.ref C) (some d) (upd (del H2 a) d (.xd fs))) (fun _ _ _ => False)
theorem w_made1K {ks : List Str} {ix : List Nat} (h : tk σ H (MadeLK K C ks ix Q σ)) : tMade (tMkOK C (spEInit K C) ks ix tk) σ H Q := h
theorem w_madeLK {k1 : Str} (q : ∀ d a, H d = none → upd H d (.xd [("value", y)]) a = none → Q (.ref a) (upd (upd H d (.xd [("value", y)])) a (exh a (.ref C) (some d)))) : MadeLK K C [k1] [0] Q σ [y] H :=
  ⟨rfl, (w_raiseE (W := MadW Q) (K := K) (C := C) (σ := σ) fun d nd a na => q d a nd na).2⟩
end
/-! ### things of any kind -/
def rIxA (K : PySem.W.Frag) : V → V → Hp → VK → Prop := fun x y H Q => rIxL K x y H Q ∨ rIxT K x y H Q
theorem ix_any {X : Cx} : IxR X (rIxA X.K) := fun value slice pins s σ H x y v u Q I rx ry h hs => by
  rcases h with h | h
  · exact ix_list value slice pins s σ H x y v u Q I rx ry h hs
  · exact ix_tup value slice pins s σ H x y v u Q I rx ry h hs
section
variable {K : PySem.W.Frag} {H : Hp} {Q : VK} {p : Addr} {xs : List V} {m : Int} {v : V}
theorem w_ixAL (h : H p = some (.lst xs)) (h0 : 0 ≤ m) (h1 : m < xs.length) (q : ∀ v, xs[m.toNat]? = some v → Q v H) : rIxA K (.ref p) (.int m) H Q := by
  obtain ⟨v, hv, e, e2⟩ := atI_lt h0 h1
  exact .inl (w_ixL (SqL.of h) e (q v e2))
theorem w_ixAT (h : H p = some (.tup xs)) (h0 : 0 ≤ m) (h1 : m < xs.length) (q : ∀ v, xs[m.toNat]? = some v → Q v H) : rIxA K (.ref p) (.int m) H Q := by
  obtain ⟨v, hv, e, e2⟩ := atI_lt h0 h1
  exact .inr (w_ixT (SqT.of h) e (q v e2))
theorem w_eqAtom (f : scal v = true) (k : Q (.bl true) H) : rEqD K v v H Q := by
  obtain ⟨c1, c2⟩ := scal_can f
  have sh : SeqAt.shaped (sD v) = true := by
    unfold SeqAt.shaped
    rw [c1]
    simp
    omega
  exact ⟨sD v, sD v, scal_dp f, scal_dp f, sh, sh, by rw [PySem.SeqAt.eqv_refl _ c1]; exact k⟩
end
/-- the same thing: None, truths, numbers, words; lists and tuples of the same things, n deep -/
def Sm (H : Hp) : Nat → V → V → Prop
  | 0, v, w => v = w ∧ scal v = true
  | n + 1, v, w => (v = w ∧ scal v = true) ∨ (∃ (p q : Addr) (xs ys : List V), v = .ref p ∧ w = .ref q ∧ ((H p = some (.lst xs) ∧ H q = some (.lst ys)) ∨ (H p = some (.tup xs) ∧ H q = some (.tup ys))) ∧ xs.length = ys.length ∧ xs.length ≤ 10000 ∧ ∀ (i : Nat) (x y : V), xs[i]? = some x → ys[i]? = some y → Sm H n x y)
theorem Sm.fr {H H' : Hp} (f : Fr [] H H') : ∀ {n : Nat} {v w : V}, Sm H n v w → Sm H' n v w
  | 0, _, _, h => h
  | n + 1, _, _, h => by
    rcases h with h | ⟨p, q, xs, ys, h1, h2, h3, h4, h5, h6⟩
    · exact .inl h
    · refine .inr ⟨p, q, xs, ys, h1, h2, ?_, h4, h5, fun i x y e1 e2 => Sm.fr f (h6 i x y e1 e2)⟩
      rcases h3 with ⟨a, b⟩ | ⟨a, b⟩
      · exact .inl ⟨f.at0 a, f.at0 b⟩
      · exact .inr ⟨f.at0 a, f.at0 b⟩
theorem Sm.atom {H : Hp} {v : V} (f : scal v = true) : ∀ {n : Nat}, Sm H n v v
  | 0 => ⟨rfl, f⟩
  | n + 1 => .inl ⟨rfl, f⟩
theorem Sm.lst {H : Hp} {n : Nat} {p q : Addr} {xs ys : List V} (h1 : H p = some (.lst xs)) (h2 : H q = some (.lst ys)) (hl : xs.length = ys.length) (hz : xs.length ≤ 10000) (h : ∀ (i : Nat) (x y : V), xs[i]? = some x → ys[i]? = some y → Sm H n x y) : Sm H (n + 1) (.ref p) (.ref q) :=
  .inr ⟨p, q, xs, ys, rfl, rfl, .inl ⟨h1, h2⟩, hl, hz, h⟩
theorem Sm.tup {H : Hp} {n : Nat} {p q : Addr} {xs ys : List V} (h1 : H p = some (.tup xs)) (h2 : H q = some (.tup ys)) (hl : xs.length = ys.length) (hz : xs.length ≤ 10000) (h : ∀ (i : Nat) (x y : V), xs[i]? = some x → ys[i]? = some y → Sm H n x y) : Sm H (n + 1) (.ref p) (.ref q) :=
  .inr ⟨p, q, xs, ys, rfl, rfl, .inr ⟨h1, h2⟩, hl, hz, h⟩
theorem scal_cases {v : V} (h : scal v = true) : v = .non ∨ (∃ b, v = .bl b) ∨ (∃ i, v = .int i) ∨ ∃ s, v = .str s := by
  cases v with
  | non => exact .inl rfl
  | bl b => exact .inr (.inl ⟨b, rfl⟩)
  | int i => exact .inr (.inr (.inl ⟨i, rfl⟩))
  | str s => exact .inr (.inr (.inr ⟨s, rfl⟩))
  | _ => cases h
theorem w_isNB {H : Hp} {Q : VK} {b : Bool} (q : Q (.bl false) H) : rIsN (.bl b) .non H Q := ⟨rfl, q⟩
theorem w_isNS {H : Hp} {Q : VK} {s : Str} (q : Q (.bl false) H) : rIsN (.str s) .non H Q := ⟨rfl, q⟩
theorem w_lenTp {K : PySem.W.Frag} {H : Hp} {Q : VK} {p : Addr} {xs : List V} (h : SqT K H p xs) (q : Q (.int xs.length) H) : rLen K [.ref p] H Q := ⟨_, _, rfl, .inr ⟨xs, h, rfl⟩, q⟩
theorem w_iteZ {b : Bool} {A B : Prop} (e : b = false) (h : B) : if b = true then A else B := by
  rw [e, if_neg Bool.false_ne_true]
  exact h
theorem w_iteY {b : Bool} {A B : Prop} (e : b = true) (h : A) : if b = true then A else B := by
  rw [e, if_pos rfl]
  exact h
/-- tuples of a word and a truth -/
def Tagged (H : Hp) : List Addr → List (Str × Bool) → Prop
  | [], [] => True
  | t :: ts, p :: ps => H t = some (.tup [.str p.1, .bl p.2]) ∧ Tagged H ts ps
  | _, _ => False
theorem Tagged.len {H : Hp} : ∀ {ts : List Addr} {ps : List (Str × Bool)}, Tagged H ts ps → ts.length = ps.length
  | [], [], _ => rfl
  | t :: ts, p :: ps, h => by simp [Tagged.len h.2]
theorem Tagged.at {H : Hp} : ∀ {ts : List Addr} {ps : List (Str × Bool)}, Tagged H ts ps → ∀ (i : Nat) (t : Addr) (p : Str × Bool), ts[i]? = some t → ps[i]? = some p → H t = some (.tup [.str p.1, .bl p.2])
  | t :: ts, p :: ps, h, 0, t', p', e1, e2 => by
    simp at e1 e2
    subst e1 e2
    exact h.1
  | t :: ts, p :: ps, h, i + 1, t', p', e1, e2 => Tagged.at h.2 i t' p' (by simpa using e1) (by simpa using e2)
/-- [name for name, is_one in pairs if is_one] -/
theorem l_pick {K : PySem.W.Frag} {a : Addr} {σ : L2.St} {H : Hp} {Q : VK} {j1 j2 : Nat} {ts : List Addr} {ps : List (Str × Bool)}
    (hw : ∀ u v, wipe (((wipe σ [j1, j2]).set j1 (some u)).set j2 (some v)) [j1, j2] = wipe σ [j1, j2]) (h1 : ∀ u v, (((wipe σ [j1, j2]).set j1 (some u)).set j2 (some v))[j2]? = some (some v)) (h2 : ∀ u v, (((wipe σ [j1, j2]).set j1 (some u)).set j2 (some v))[j1]? = some (some u))
    (hz : ts.length ≤ 1000) (ha : H a = some (.lst (ts.map V.ref))) (hat : Tagged H ts ps) (hd : ∀ L H', H L = none → Fr [] H H' → H' L = some (.lst ((ps.filter (·.2)).map fun p => V.str p.1)) → Q (.ref L) H') :
    LcB (gTup K 2 (gCons (gName j1) (gCons (gName j2) gNil))) (tB (tVar j2)) (tVar j1) [j1, j2] σ Q (Itl K a) H := by
  refine l_list (ts.map V.ref) (fun L i H' => Fr [] H H' ∧ H' L = some (.lst (((ps.take i).filter (·.2)).map fun p => V.str p.1))) (fun L hL => ⟨Fr.refl.new hL, upd_same⟩) (fun L i H' _ _ h => .of (h.1.at0 ha)) (fun L i x H' hL hx h => ?_) (fun L H3 hL h => ?_)
  · obtain ⟨f1, g1⟩ := h
    rw [List.getElem?_map] at hx
    obtain ⟨t, ht, rfl⟩ : ∃ t, ts[i]? = some t ∧ x = V.ref t := by
      cases e : ts[i]? with
      | none => rw [e] at hx; cases hx
      | some t =>
        rw [e] at hx
        cases hx
        exact ⟨t, rfl, rfl⟩
    have hil := (List.getElem?_eq_some_iff.mp ht).1
    obtain ⟨p, hp⟩ : ∃ p, ps[i]? = some p := ⟨_, List.getElem?_eq_getElem (by rw [← hat.len]; exact hil)⟩
    have hlen : ((ps.take i).filter (·.2)).length ≤ 1000 := Nat.le_trans (List.length_filter_le ..) (by rw [List.length_take]; omega)
    have et : ps.take (i + 1) = ps.take i ++ [p] := by
      rw [List.take_succ, hp]
      rfl
    refine w_gTup (SqT.of (f1.at0 (hat.at i t p ht hp))) rfl (w_gCons (w_gname (w_gCons (w_gname (w_gNil ⟨hw _ _, ?_⟩)))))
    refine w_tB (w_var (h1 _ _) (w_exbl ?_))
    cases hb : p.2 with
    | false =>
      rw [if_neg (by decide)]
      refine ⟨f1, ?_⟩
      rw [et, List.filter_append, List.filter_cons_of_neg (by simp [hb]), List.filter_nil, List.append_nil]
      exact g1
    | true =>
      rw [if_pos rfl]
      refine w_var (h2 _ _) (w_appE g1 (by rw [List.length_map]; omega) ⟨f1.put (.inl hL), ?_⟩)
      rw [et, List.filter_append, List.filter_cons_of_pos (by simp [hb]), List.filter_nil, List.map_append]
      exact upd_same
  · obtain ⟨f1, g1⟩ := h
    rw [List.length_map, hat.len, List.take_length] at g1
    exact hd L H3 hL f1 g1
theorem w_ixAt {K : PySem.W.Frag} {H : Hp} {Q : VK} {p : Addr} {xs : List V} {m : Int} (h : H p = some (.lst xs)) (h0 : 0 ≤ m) (h1 : m < xs.length) (q : ∀ v, xs[m.toNat]? = some v → Q v H) : rIxL K (.ref p) (.int m) H Q := by
  obtain ⟨v, hv, e, e2⟩ := atI_lt h0 h1
  exact w_ixL (SqL.of h) e (q v e2)
/-! ### texts of books -/
def addRun : List (Nat × Int) → Int → List (Nat × Int)
  | [], x => [(1, x)]
  | [p], x => if p.2 = x then [(p.1 + 1, p.2)] else [p, (1, x)]
  | p :: q :: r, x => p :: addRun (q :: r) x
theorem addRun_snoc : ∀ (rs : List (Nat × Int)) (p : Nat × Int) (x : Int), addRun (rs ++ [p]) x = if p.2 = x then rs ++ [(p.1 + 1, p.2)] else rs ++ [p, (1, x)]
  | [], p, x => rfl
  | [q], p, x => by
    show q :: addRun [p] x = _
    unfold addRun
    split <;> rfl
  | q :: q' :: rs, p, x => by
    have ih := addRun_snoc (q' :: rs) p x
    show q :: addRun (q' :: rs ++ [p]) x = _
    rw [ih]
    split <;> rfl
def runs (ns : List Int) : List (Nat × Int) := ns.foldl addRun []
theorem runs_snoc (ns : List Int) (x : Int) : runs (ns ++ [x]) = addRun (runs ns) x := by
  unfold runs
  rw [List.foldl_append]
  rfl
def unrun (rs : List (Nat × Int)) : List Int := rs.flatMap fun p => List.replicate p.1 p.2
theorem snoc_cases {α : Type} (l : List α) : l = [] ∨ ∃ i x, l = i ++ [x] := by
  cases h : l.reverse with
  | nil => exact .inl (by simpa using h)
  | cons x r => exact .inr ⟨r.reverse, x, by rw [← List.reverse_reverse l, h]; simp⟩
theorem unrun_add (rs : List (Nat × Int)) (x : Int) : unrun (addRun rs x) = unrun rs ++ [x] := by
  rcases snoc_cases rs with rfl | ⟨i, p, rfl⟩
  · rfl
  · rw [addRun_snoc]
    split
    · rename_i h
      subst h
      simp [unrun, List.replicate_succ']
    · simp [unrun]
theorem unrun_fold : ∀ (ns : List Int) (rs : List (Nat × Int)), unrun (ns.foldl addRun rs) = unrun rs ++ ns
  | [], rs => by simp
  | n :: ns, rs => by
    show unrun (ns.foldl addRun (addRun rs n)) = _
    rw [unrun_fold ns, unrun_add]
    simp
theorem unrun_runs (ns : List Int) : unrun (runs ns) = ns := by
  have := unrun_fold ns []
  simpa [unrun, runs] using this
/-- all runs count from 1 and have numbers of the book -/
theorem runs_ok : ∀ (ns : List Int) (p : Nat × Int), p ∈ runs ns → 1 ≤ p.1 ∧ p.1 ≤ ns.length ∧ p.2 ∈ ns := by
  have key : ∀ (ns rs : List _) (done : List Int), (∀ p ∈ rs, 1 ≤ p.1 ∧ p.1 ≤ done.length ∧ p.2 ∈ done) → ∀ p ∈ ns.foldl addRun rs, 1 ≤ p.1 ∧ p.1 ≤ (done ++ ns).length ∧ p.2 ∈ done ++ ns := by
    intro ns
    induction ns with
    | nil => intro rs done h p hp; simpa using h p hp
    | cons n ns ih =>
      intro rs done h p hp
      have h2 : ∀ p ∈ addRun rs n, 1 ≤ p.1 ∧ p.1 ≤ (done ++ [n]).length ∧ p.2 ∈ done ++ [n] := by
        intro p hp
        rcases snoc_cases rs with rfl | ⟨i, q, rfl⟩
        · simp [addRun] at hp
          subst hp
          simp
        · rw [addRun_snoc] at hp
          have hq := h q (by simp)
          split at hp
          · rcases List.mem_append.mp hp with z | z
            · have := h p (by simp [z])
              simp [this]
              omega
            · rw [List.mem_singleton.mp z]
              simp [hq]
          · simp only [List.mem_append, List.mem_cons, List.not_mem_nil, or_false] at hp
            rcases hp with z | rfl | rfl
            · have := h p (by simp [z])
              simp [this]
              omega
            · simp [hq]
              omega
            · simp
      have := ih (addRun rs n) (done ++ [n]) h2 p hp
      simpa using this
  intro ns p hp
  have := key ns [] [] (by simp) p hp
  simpa using this
theorem runs_len : ∀ ns : List Int, (runs ns).length ≤ ns.length := by
  have key : ∀ (ns : List Int) (rs : List (Nat × Int)), (ns.foldl addRun rs).length ≤ rs.length + ns.length := by
    intro ns
    induction ns with
    | nil => intro rs; simp
    | cons n ns ih =>
      intro rs
      have h := ih (addRun rs n)
      have h2 : (addRun rs n).length ≤ rs.length + 1 := by
        rcases snoc_cases rs with rfl | ⟨i, q, rfl⟩
        · simp [addRun]
        · rw [addRun_snoc]
          split <;> simp
      simp only [List.foldl_cons, List.length_cons]
      omega
  intro ns
  have := key ns []
  simpa [runs] using this
def num (i : Int) : Str := Str.ofString (toString i)
def word (p : Nat × Int) : Str := if p.1 = 1 then num p.2 else num p.1 ++ ("x" : Str) ++ num p.2
def txt (ns : List Int) : Str := if ns = [] then ("empty" : Str) else Txt.join (" + " : Str) ((runs ns).map word)
theorem tl_num' (n : Nat) : TL.tl (num n) = TL.numL n := TL.tl_num n
theorem tl_word {n m : Nat} : TL.tl (word (n, (m : Int))) = if n = 1 then TL.numL m else TL.numL n ++ ([120] ++ TL.numL m) := by
  unfold word
  split
  · exact tl_num' m
  · rw [TL.tl_append, TL.tl_append, tl_num', tl_num', List.append_assoc]
    rfl
theorem word_inj {n m n' m' : Nat} (h : TL.tl (word (n, (m : Int))) = TL.tl (word (n', (m' : Int)))) : n = n' ∧ m = m' := by
  rw [tl_word, tl_word] at h
  have no : ∀ k, 120 ∉ TL.numL k := fun k => TL.numL_free (.inr (by decide))
  by_cases h1 : n = 1 <;> by_cases h2 : n' = 1
  · rw [if_pos h1, if_pos h2] at h
    exact ⟨by omega, TL.numL_inj h⟩
  · rw [if_pos h1, if_neg h2] at h
    exact absurd (h ▸ (by simp : 120 ∈ TL.numL n' ++ ([120] ++ TL.numL m'))) (no m)
  · rw [if_neg h1, if_pos h2] at h
    exact absurd (h ▸ (by simp : 120 ∈ TL.numL n ++ ([120] ++ TL.numL m))) (no m')
  · rw [if_neg h1, if_neg h2] at h
    have e1 := TL.par_part1 (s := 120) (S := []) (p := TL.numL n) (rest := TL.numL m) (acc := []) (no n)
    have e2 := TL.par_part1 (s := 120) (S := []) (p := TL.numL n') (rest := TL.numL m') (acc := []) (no n')
    rw [h, e2] at e1
    simp only [Option.some.injEq, Prod.mk.injEq, List.nil_append] at e1
    exact ⟨TL.numL_inj e1.1.symm, TL.numL_inj e1.2.symm⟩
theorem word_free {p : Nat × Int} (h : 0 ≤ p.2) {s : Nat} (hs : s < 48 ∨ 57 < s) (hx : s ≠ 120) : s ∉ TL.tl (word p) := by
  obtain ⟨n, m⟩ := p
  obtain ⟨k, rfl⟩ : ∃ k : Nat, m = (k : Int) := ⟨m.toNat, by have : 0 ≤ m := h; omega⟩
  rw [tl_word]
  split
  · exact TL.numL_free hs
  · simp [TL.numL_free hs, hx]
theorem words_inj : ∀ {a b : List (Nat × Int)}, (∀ p ∈ a, 0 ≤ p.2) → (∀ p ∈ b, 0 ≤ p.2) → (a.map word).map TL.tl = (b.map word).map TL.tl → a = b
  | [], [], _, _, _ => rfl
  | [], _ :: _, _, _, h => by simp at h
  | _ :: _, [], _, _, h => by simp at h
  | p :: a, q :: b, ha, hb, h => by
    simp only [List.map_cons, List.cons.injEq] at h
    obtain ⟨n, m⟩ := p
    obtain ⟨n', m'⟩ := q
    obtain ⟨k, rfl⟩ : ∃ k : Nat, m = (k : Int) := ⟨m.toNat, by have := ha (n, m) (by simp); simp at this; omega⟩
    obtain ⟨k', rfl⟩ : ∃ k : Nat, m' = (k : Int) := ⟨m'.toNat, by have := hb (n', m') (by simp); simp at this; omega⟩
    obtain ⟨e1, e2⟩ := word_inj h.1
    rw [e1, e2, words_inj (fun p hp => ha p (by simp [hp])) (fun p hp => hb p (by simp [hp])) h.2]
theorem tl_sep : TL.tl (" + " : Str) = 32 :: [43, 32] := by decide +kernel
theorem runs_ne {ns : List Int} (h : ns ≠ []) : runs ns ≠ [] := fun e => h (by rw [← unrun_runs ns, e]; rfl)
theorem spl_txt {ns : List Int} (hn : ∀ x ∈ ns, 1 ≤ x) (h : ns ≠ []) : TL.spl (32 :: [43, 32]) 0 [] (TL.tl (txt ns)) = ((runs ns).map word).map TL.tl := by
  unfold txt
  rw [if_neg h]
  have e : TL.tl (Txt.join (" + " : Str) ((runs ns).map word)) = TL.joinL (32 :: [43, 32]) (((runs ns).map word).map TL.tl) := by
    rw [TL.join_eq, TL.tl_join, tl_sep]
  rw [e]
  refine TL.spl_join (by simpa using runs_ne h) (fun p hp => ?_)
  simp only [List.map_map, List.mem_map, Function.comp] at hp
  obtain ⟨q, hq, rfl⟩ := hp
  exact word_free (by have := hn q.2 (runs_ok ns q hq).2.2; omega) (.inl (by decide)) (by decide)
theorem txt_empty {ns : List Int} (hn : ∀ x ∈ ns, 1 ≤ x) (h : ns ≠ []) : txt ns ≠ ("empty" : Str) := fun e => by
  have h1 := spl_txt hn h
  rw [e] at h1
  have h2 : TL.spl (32 :: [43, 32]) 0 [] (TL.tl ("empty" : Str)) = [[101, 109, 112, 116, 121]] := by decide +kernel
  rw [h2] at h1
  cases hr : runs ns with
  | nil => exact runs_ne h hr
  | cons q r =>
    rw [hr] at h1
    simp only [List.map_cons, List.cons.injEq] at h1
    have := word_free (p := q) (by have := hn q.2 (runs_ok ns q (by rw [hr]; simp)).2.2; omega) (s := 101) (.inr (by decide)) (by decide)
    rw [← h1.1] at this
    exact this (by simp)
theorem txt_inj {a b : List Int} (ha : ∀ x ∈ a, 1 ≤ x) (hb : ∀ x ∈ b, 1 ≤ x) (h : txt a = txt b) : a = b := by
  by_cases h1 : a = [] <;> by_cases h2 : b = []
  · rw [h1, h2]
  · rw [h1] at h
    exact absurd h.symm (txt_empty hb h2)
  · rw [h2] at h
    exact absurd h (txt_empty ha h1)
  · have e := spl_txt ha h1
    rw [h, spl_txt hb h2] at e
    have e2 := words_inj (fun p hp => by have := hb p.2 (runs_ok b p hp).2.2; omega) (fun p hp => by have := ha p.2 (runs_ok a p hp).2.2; omega) e
    rw [← unrun_runs a, ← unrun_runs b, e2]
theorem len_tl (s : Str) : s.length = (TL.tl s).length := by
  unfold TL.tl Str.length
  simp
theorem len_num {i : Int} (h : 0 ≤ i) (h2 : i < 10 ^ 40) : (num i).length ≤ 40 := by
  obtain ⟨n, rfl⟩ : ∃ n : Nat, i = (n : Int) := ⟨i.toNat, by omega⟩
  rw [len_tl, tl_num']
  exact TL.numL_len (by decide) (by omega)
theorem len_app (a b : Str) : (a ++ b).length = a.length + b.length := by
  rw [len_tl, len_tl, len_tl, TL.tl_append, List.length_append]
theorem len_word {p : Nat × Int} (h1 : p.1 < 10 ^ 39) (h2 : 0 ≤ p.2) (h3 : p.2 < 10 ^ 40) : (word p).length ≤ 81 := by
  have hx : ("x" : Str).length = 1 := by decide +kernel
  have e1 := len_num h2 h3
  have e2 := len_num (i := (p.1 : Int)) (by omega) (by omega)
  unfold word
  split
  · omega
  · rw [len_app, len_app]
    omega
theorem emp_app (s : Str) : Str.empty ++ s = s := by
  refine TL.ext_tl ?_
  rw [TL.tl_append]
  have e : TL.tl Str.empty = [] := by decide +kernel
  rw [e, List.nil_append]
/-! ### steps about texts -/
def rAddS : V → V → Hp → VK → Prop := fun x y H Q => ∃ i j, x = .str i ∧ y = .str j ∧ i.length + j.length ≤ sizeLine ∧ Q (.str (i ++ j)) H
theorem op_addS {X : Cx} : OpR X (binaryOp .Add) rAddS := op_add_str
def rJoin (K : PySem.W.Frag) : V → List V → Hp → VK → Prop := fun x xs H Q => ∃ a p, ∃ ys : List Str, x = .str a ∧ xs = [.ref p] ∧ (SqL K H p (ys.map V.str) ∨ SqT K H p (ys.map V.str)) ∧ (ys.map (·.length)).sum + ys.length * a.length ≤ 16777216 ∧ Q (.str (Txt.join a ys)) H
theorem pe_joinN {X : Cx} {o e : Expr} {to te : TE} {apos pos : Pos} (ho : PE X o to) (he : PE X e te) (hs : starEach [e] X.env = [(false, eval e X.env)] := by rfl) (hbase : attributeBase o "join" X.env (eval o X.env) = eval o X.env := by rfl) (hline : (apos.endLine == pos.line) = true := by rfl) :
    PE X (.Call (.Attribute o "join" apos) [e] [] pos) (tM1 (rJoin X.K) to te) := pe_join ho he hs hbase hline
def tFJ (ts : List TE) : TE := fun σ H Q => tJs ts Str.empty σ H fun out H1 => Q (.str out) H1
theorem pe_fj {X : Cx} {v1 v2 : Expr} {rest : List Expr} {ts : List TE} {pos : Pos} (h : PJ X (v1 :: v2 :: rest) ts) : PE X (.JoinedStr (v1 :: v2 :: rest) pos) (tFJ ts) := pe_joined h
section
variable {K : PySem.W.Frag} {σ : L2.St} {H : Hp} {Q : VK} {to te t : TE} {ts : List TE} {acc a i j : Str} {p : Addr} {ys : List Str} {r : V → List V → Hp → VK → Prop} {R : Str → Hp → Prop}
theorem w_addS (h : i.length + j.length ≤ 16777216) (q : Q (.str (i ++ j)) H) : rAddS (.str i) (.str j) H Q := ⟨i, j, rfl, rfl, by rw [sizeLine_eq]; exact h, q⟩
def M1E (r : V → List V → Hp → VK → Prop) (te : TE) (σ : L2.St) (Q : VK) : V → Hp → Prop := fun x H1 => (∃ a, x = .str a) ∧ te σ H1 fun y H2 => r x [y] H2 Q
theorem w_m1 (h : to σ H (M1E r te σ Q)) : tM1 r to te σ H Q := h
theorem w_m1E (q : te σ H fun y H2 => r (.str a) [y] H2 Q) : M1E r te σ Q (.str a) H := ⟨⟨a, rfl⟩, q⟩
theorem w_join (h : H p = some (.lst (ys.map V.str))) (hz : (ys.map (·.length)).sum + ys.length * a.length ≤ 16777216) (q : Q (.str (Txt.join a ys)) H) : rJoin K (.str a) [.ref p] H Q := ⟨a, p, ys, rfl, rfl, .inl (SqL.of h), hz, q⟩
theorem w_fj (h : tJs ts Str.empty σ H fun out H1 => Q (.str out) H1) : tFJ ts σ H Q := h
def JsE (ts : List TE) (acc : Str) (σ : L2.St) (R : Str → Hp → Prop) : V → Hp → Prop := fun x H1 => ∃ y : Str, x = .str y ∧ (acc ++ y).length ≤ sizeLine ∧ tJs ts (acc ++ y) σ H1 R
theorem w_js (h : t σ H (JsE ts acc σ R)) : tJs (t :: ts) acc σ H R := h
theorem w_jsE (h : acc.length + i.length ≤ 16777216) (q : tJs ts (acc ++ i) σ H R) : JsE ts acc σ R (.str i) H := ⟨i, rfl, by rw [sizeLine_eq, len_app]; exact h, q⟩
theorem w_js0 (q : R acc H) : tJs [] acc σ H R := q
def FmtE (Q : VK) : V → Hp → Prop := fun x H1 => (∃ y : Str, x = .str y ∧ y.length ≤ sizeLine ∧ Q (.str y) H1) ∨ ∃ i : Int, x = .int i ∧ i.natAbs.log2 < 1920 ∧ Q (.str (toString i)) H1
theorem w_fmt (h : te σ H (FmtE Q)) : tFmt te σ H Q := h
theorem w_fmtI {m : Int} (h : m.natAbs.log2 < 1920) (q : Q (.str (num m)) H) : FmtE Q (.int m) H := .inr ⟨m, rfl, h, q⟩
theorem w_fmtS (h : i.length ≤ 16777216) (q : Q (.str i) H) : FmtE Q (.str i) H := .inl ⟨i, rfl, by rw [sizeLine_eq]; exact h, q⟩
theorem w_strN {m : Int} (h : m.natAbs.log2 < 1920) (q : Q (.str (num m)) H) : rStrI [.int m] H Q := ⟨m, rfl, h, q⟩
end
/-! ### texts read -/
theorem dv_snoc (i : List Nat) (c : Nat) : NumText.digitsVal (i ++ [c]) = NumText.digitsVal i * 10 + (c - 48) := by
  unfold NumText.digitsVal
  rw [List.foldl_append]
  rfl
theorem numL_back : ∀ (k : Nat) (w : List Nat), w.length = k → w ≠ [] → (∀ c ∈ w, 48 ≤ c ∧ c ≤ 57) → w.head? ≠ some 48 → TL.numL (NumText.digitsVal w) = w ∧ 1 ≤ NumText.digitsVal w
  | 0, w, hk, hne, _, _ => absurd (List.eq_nil_of_length_eq_zero hk) hne
  | k + 1, w, hk, hne, hd, hh => by
    rcases snoc_cases w with e | ⟨i, c, rfl⟩
    · exact absurd e hne
    · have hc := hd c (by simp)
      by_cases hi : i = []
      · subst hi
        have e : NumText.digitsVal ([] ++ [c]) = c - 48 := by rw [dv_snoc]; simp [NumText.digitsVal]
        rw [e, TL.numL_lt (by omega)]
        have : c ≠ 48 := fun z => hh (by simp [z])
        refine ⟨?_, by omega⟩
        simp
        omega
      · have hik : i.length = k := by simpa using hk
        obtain ⟨e1, e2⟩ := numL_back k i hik hi (fun c hc => hd c (by simp [hc])) (fun z => hh (by cases i with | nil => exact absurd rfl hi | cons a i => simpa using z))
        rw [dv_snoc, TL.numL_step (by omega)]
        rw [show (NumText.digitsVal i * 10 + (c - 48)) / 10 = NumText.digitsVal i by omega, show (NumText.digitsVal i * 10 + (c - 48)) % 10 = c - 48 by omega, e1]
        refine ⟨?_, by omega⟩
        rw [show 48 + (c - 48) = c by omega]
theorem numL_head : ∀ (n : Nat), 1 ≤ n → (TL.numL n).head? ≠ some 48 := by
  intro n
  induction n using Nat.strongRecOn with
  | _ n ih =>
    intro hn
    by_cases h : n < 10
    · rw [TL.numL_lt h]
      simp
      omega
    · rw [TL.numL_step (by omega)]
      have := ih (n / 10) (by omega) (by omega)
      have hne := TL.numL_ne (n / 10)
      cases e : TL.numL (n / 10) with
      | nil => exact absurd e hne
      | cons a r =>
        rw [e] at this
        simpa using this
theorem dv_lt : ∀ (k : Nat) (w : List Nat), w.length = k → (∀ c ∈ w, 48 ≤ c ∧ c ≤ 57) → NumText.digitsVal w < 10 ^ k
  | 0, w, hk, _ => by
    obtain rfl := List.eq_nil_of_length_eq_zero hk
    decide
  | k + 1, w, hk, hd => by
    rcases snoc_cases w with e | ⟨i, c, rfl⟩
    · subst e
      simp at hk
    · have hc := hd c (by simp)
      have := dv_lt k i (by simpa using hk) (fun c hc => hd c (by simp [hc]))
      rw [dv_snoc, Nat.pow_succ]
      omega
/-- a word that is a number: at most forty digits, the first one not 0 -/
def IsNum (w : List Nat) : Prop := 1 ≤ w.length ∧ w.length ≤ 40 ∧ (∀ c ∈ w, 48 ≤ c ∧ c ≤ 57) ∧ w.head? ≠ some 48
theorem IsNum.back {w : List Nat} (h : IsNum w) : TL.numL (NumText.digitsVal w) = w ∧ 1 ≤ NumText.digitsVal w ∧ NumText.digitsVal w < 10 ^ 40 := by
  obtain ⟨h1, h2, h3, h4⟩ := h
  obtain ⟨e1, e2⟩ := numL_back w.length w rfl (fun e => by rw [e] at h1; simp at h1) h3 h4
  exact ⟨e1, e2, Nat.lt_of_lt_of_le (dv_lt _ w rfl h3) (Nat.pow_le_pow_right (by decide) h2)⟩
theorem isNum_num {n : Nat} (h1 : 1 ≤ n) (h2 : n < 10 ^ 40) : IsNum (TL.numL n) :=
  ⟨by have := TL.numL_ne n; cases e : TL.numL n with | nil => exact absurd e this | cons a r => simp, TL.numL_len (by decide) h2, TL.numL_digits n, numL_head n h1⟩
theorem spl_ne {S : List Nat} : ∀ (l : List Nat) (k : Nat) (acc : List Nat), TL.spl S k acc l ≠ []
  | [], k, acc => by rw [TL.spl_nil]; simp
  | c :: r, 0, acc => by
    cases hq : TL.pre S (c :: r) with
    | true => rw [TL.spl_hit hq]; simp
    | false =>
      rw [TL.spl_miss hq]
      exact spl_ne r 0 _
  | c :: r, k + 1, acc => spl_ne r k acc
theorem joinL_spl {S : List Nat} (hS : S ≠ []) : ∀ (k : Nat) (l acc : List Nat), l.length ≤ k → TL.joinL S (TL.spl S 0 acc l) = acc ++ l := by
  intro k
  induction k with
  | zero =>
    intro l acc h
    obtain rfl := List.eq_nil_of_length_eq_zero (Nat.le_zero.mp h)
    rw [TL.spl_nil]
    simp [TL.joinL]
  | succ k ihk =>
    intro l acc h
    cases l with
    | nil =>
      rw [TL.spl_nil]
      simp [TL.joinL]
    | cons c r =>
      have hr : r.length ≤ k := by simpa using h
      cases hp : TL.pre S (c :: r) with
      | false =>
        rw [TL.spl_miss hp, ihk r _ hr]
        simp
      | true =>
        rw [TL.spl_hit hp, TL.spl_pass]
        have hd : (r.drop (S.length - 1)).length ≤ k := by rw [List.length_drop]; omega
        have ih := ihk (r.drop (S.length - 1)) [] hd
        cases e : TL.spl S 0 [] (r.drop (S.length - 1)) with
        | nil => exact absurd e (spl_ne _ _ _)
        | cons q rest =>
          show acc ++ (S ++ TL.joinL S (q :: rest)) = _
          rw [← e, ih, List.nil_append]
          have h1 : (c :: r).take S.length = S := by
            unfold TL.pre at hp
            exact beq_iff_eq.mp hp
          have hl : 1 ≤ S.length := by
            cases S with
            | nil => exact absurd rfl hS
            | cons a b => simp
          have h2 : (c :: r).drop S.length = r.drop (S.length - 1) := by
            obtain ⟨m, hm⟩ : ∃ m, S.length = m + 1 := ⟨S.length - 1, by omega⟩
            rw [hm]
            rfl
          have h3 := List.take_append_drop S.length (c :: r)
          rw [h1, h2] at h3
          rw [h3]
/-- what a word says -/
def Stretch (w : List Nat) (p : Nat × Int) : Prop := w = TL.tl (word p) ∧ 1 ≤ p.1 ∧ p.1 < 10 ^ 40 ∧ 1 ≤ p.2 ∧ p.2 < 10 ^ 40
theorem Stretch.uniq {w : List Nat} {p q : Nat × Int} (h : Stretch w p) (k : Stretch w q) : p = q := by
  obtain ⟨n, m⟩ := p
  obtain ⟨n', m'⟩ := q
  obtain ⟨h1, h2, h3, h4, h5⟩ := h
  obtain ⟨k1, k2, k3, k4, k5⟩ := k
  simp only at h2 h3 h4 h5 k2 k3 k4 k5
  obtain ⟨a, rfl⟩ : ∃ a : Nat, m = (a : Int) := ⟨m.toNat, by omega⟩
  obtain ⟨b, rfl⟩ : ∃ b : Nat, m' = (b : Int) := ⟨m'.toNat, by omega⟩
  rw [h1] at k1
  obtain ⟨e1, e2⟩ := word_inj k1
  rw [e1, e2]
/-- one part that is a number -/
theorem stretch_one {w : List Nat} (h : IsNum w) : Stretch w (1, (NumText.digitsVal w : Nat)) := by
  obtain ⟨e1, e2, e3⟩ := h.back
  refine ⟨?_, by simp, by simp, by simp only; omega, by simp only; omega⟩
  rw [tl_word, if_pos rfl, e1]
/-- two parts that are numbers, the first one above 1 -/
theorem stretch_two {w a b : List Nat} (hs : TL.spl [120] 0 [] w = [a, b]) (ha : IsNum a) (hb : IsNum b) (h1 : 1 < NumText.digitsVal a) : Stretch w (NumText.digitsVal a, (NumText.digitsVal b : Nat)) := by
  obtain ⟨a1, a2, a3⟩ := ha.back
  obtain ⟨b1, b2, b3⟩ := hb.back
  have hw := joinL_spl (S := [120]) (by simp) w.length w [] (Nat.le_refl _)
  rw [hs] at hw
  refine ⟨?_, by simp only; omega, a3, by simp only; omega, by simp only; omega⟩
  rw [tl_word, if_neg (by omega), a1, b1]
  simpa [TL.joinL] using hw.symm
/-- the parts of a word that says something -/
theorem Stretch.parts {w : List Nat} {p : Nat × Int} (h : Stretch w p) : (p.1 = 1 ∧ TL.spl [120] 0 [] w = [w] ∧ IsNum w ∧ p.2 = (NumText.digitsVal w : Nat)) ∨
    (1 < p.1 ∧ ∃ a b, TL.spl [120] 0 [] w = [a, b] ∧ IsNum a ∧ IsNum b ∧ p.1 = NumText.digitsVal a ∧ p.2 = (NumText.digitsVal b : Nat)) := by
  obtain ⟨n, m⟩ := p
  obtain ⟨h1, h2, h3, h4, h5⟩ := h
  simp only at h2 h3 h4 h5 ⊢
  obtain ⟨k, rfl⟩ : ∃ k : Nat, m = (k : Int) := ⟨m.toNat, by omega⟩
  rw [tl_word] at h1
  have no : ∀ k, 120 ∉ TL.numL k := fun k => TL.numL_free (.inr (by decide))
  by_cases hn : n = 1
  · rw [if_pos hn] at h1
    subst h1
    refine .inl ⟨hn, ?_, isNum_num (by omega) (by omega), by rw [TL.numL_val]⟩
    have := TL.spl_last1 (s := 120) (S := []) (p := TL.numL k) (acc := []) (no k)
    simpa using this
  · rw [if_neg hn] at h1
    subst h1
    refine .inr ⟨by omega, TL.numL n, TL.numL k, ?_, isNum_num (by omega) (by omega), isNum_num (by omega) (by omega), by rw [TL.numL_val], by rw [TL.numL_val]⟩
    have e1 := TL.spl_part1 (s := 120) (S := []) (p := TL.numL n) (rest := TL.numL k) (acc := []) (no n)
    have e2 := TL.spl_last1 (s := 120) (S := []) (p := TL.numL k) (acc := []) (no k)
    rw [e2] at e1
    simpa using e1
/-! ### steps about texts that are read -/
def rInSg : R2 := fun x y H Q => ∃ (c : Nat) (z : Str), x = .str ⟨#[c]⟩ ∧ y = .str z ∧ Q (.bl (decide (c ∈ z.cps.toList))) H
theorem op_inSg {X : Cx} : OpR X (compareOp .In) rInSg := op_in_sign
def rIntS : List V → Hp → VK → Prop := fun xs H Q => ∃ a n, xs = [.str a] ∧ PySem.intText? a = some n ∧ a.length ≤ 640 ∧ Q (.int n) H
theorem call_intS {X : Cx} : CallR X (.type "int") rIntS := call_int_str
def rSplit : V → List V → Hp → VK → Prop := fun x xs H Q => ∃ a b, x = .str a ∧ xs = [.str b] ∧ (b.length == 0) = false ∧ a.length + 2 ≤ sizeLine ∧ rNewStrs (Txt.split a b) H Q
theorem pe_splitN {X : Cx} {o e : Expr} {to te : TE} {apos pos : Pos} (ho : PE X o to) (he : PE X e te) (hs : starEach [e] X.env = [(false, eval e X.env)] := by rfl) (hbase : attributeBase o "split" X.env (eval o X.env) = eval o X.env := by rfl) (hline : (apos.endLine == pos.line) = true := by rfl) :
    PE X (.Call (.Attribute o "split" apos) [e] [] pos) (tM1 rSplit to te) := pe_split ho he hs hbase hline
section
variable {K : PySem.W.Frag} {σ : L2.St} {H : Hp} {Q : VK} {te : TE} {w z a b : Str} {R : It → Hp → Prop}
theorem w_lenS (h : w.length ≤ 16777216) (q : Q (.int w.length) H) : rLen K [.str w] H Q := ⟨_, _, rfl, ⟨by rw [sizeLine_eq]; exact h, rfl⟩, q⟩
def StrE (R : It → Hp → Prop) : V → Hp → Prop := fun v H1 => ∃ x, v = .str x ∧ R (Its x) H1
theorem w_iStr (h : te σ H (StrE R)) : iStr te σ H R := h
theorem w_strE (q : R (Its w) H) : StrE R (.str w) H := ⟨w, rfl, q⟩
theorem w_inS {c : Nat} (q : Q (.bl (decide (c ∈ z.cps.toList))) H) : rInSg (.str ⟨#[c]⟩) (.str z) H Q := ⟨c, z, rfl, rfl, q⟩
theorem w_ixS {c : Nat} {r : List Nat} (h : w.length ≤ 16777216) (e : TL.tl w = c :: r) (q : Q (.str ⟨#[c]⟩) H) : rIxS (.str w) (.int 0) H Q := ⟨w, 0, c, rfl, rfl, by rw [sizeLine_eq]; exact h, by
  show atI (TL.tl w) 0 = some c
  rw [e]
  obtain ⟨v, _, e1, e2⟩ := atI_lt (xs := c :: r) (r := 0) (by omega) (by simp)
  rw [e1, ← e2]
  rfl, q⟩
theorem w_intS (h : IsNum (TL.tl w)) (q : Q (.int (NumText.digitsVal (TL.tl w) : Nat)) H) : rIntS [.str w] H Q := by
  obtain ⟨e1, e2, e3⟩ := h.back
  have ew : w = num ((NumText.digitsVal (TL.tl w) : Nat) : Int) := TL.ext_tl (by rw [tl_num', e1])
  refine ⟨w, _, rfl, ?_, by rw [TL.len_tl]; have := h.2.1; omega, q⟩
  conv => lhs; rw [ew]
  exact TL.int_num (by have := TL.numL_len (k := 40) (by decide) e3; omega)
theorem w_splitE (h : a.length + 2 ≤ 16777216) (hb : (b.length == 0) = false) (q : ∀ p, H p = none → Q (.ref p) (upd H p (.lst ((Txt.split a b).map V.str)))) : rSplit (.str a) [.str b] H Q := ⟨a, b, rfl, rfl, hb, by rw [sizeLine_eq]; exact h, q⟩
end
end Pg

namespace L2
open PySem PySem.Spec PyProof.Rows GenW
/-! ### a for within a generator -/
section
variable {M : Model} {A : Around} {R : GenEnd} {Y : Protocol} {n : Nat} {s₀ : Shared} {c : Code} {fs : List Frame} {s : Shared} {env : Env} {K : Flow → Sem PySem.Fin} {J : Value → Sem PySem.Fin} {gd : Bool → Bool} {lv : List Value → List Value}
theorem seg_For {tg iter : Expr} {body : List Stmt} {pos : Pos}
    (h : wpAny M (A.over c fs) (eval iter env) (fun x s₁ => wpAny M (A.over c fs) (pyIter x) (fun it s₂ => ∀ p, Seg M A R Y n s₀ (.forLoop tg it body [] env) (M.den (.forLoop tg it body [] env))
      (.ret (fun r => ((match r with | .ok f => (.pure f : Sem Flow) | .error e => .raise e).onRaise (cameBack env)).wrap K J gd lv) none (gd false) (lv []) c p [] :: fs) s₂) (fun x s' => Seg M A R Y n s₀ c (J x) fs s') s₁) (fun x s' => Seg M A R Y n s₀ c (J x) fs s') s)
    (hs : ∀ x, foldedSetIterable iter env x = pure x := by intro _; rfl) :
    Seg M A R Y n s₀ c ((exec (.For tg iter body [] pos) env).wrap K J gd lv) fs s := by
  rw [exec_For]
  refine seg_bind_wrap (wpAny_standAt ?_)
  refine seg_bind_wrap (wpAny_mono h (fun x s₁ h₁ => ?_) fun _ _ h' => h')
  refine seg_bind_wrap (wpAny_of_eq (hs x) ?_)
  refine seg_bind_wrap (wpAny_standAt ?_)
  refine seg_bind_wrap (wpAny_holding (wpAny_mono h₁ (fun it s₂ h₂ => ?_) fun _ _ h' => h'))
  exact seg_call fun p => h₂ p
end
section
variable {prog : Program} {w : World} {A : Around} {R : GenEnd} {Y : Protocol} {n : Nat} {s₀ : Shared} {fs : List Frame} {s : Shared} {env : Env}
/-- an exception leaves a loop's code -/
abbrev EOut (prog : Program) (w : World) (A : Around) (R : GenEnd) (Y : Protocol) (n : Nat) (s₀ : Shared) (c : Code) (env : Env) (fs : List Frame) (x : Value) (s' : Shared) : Prop :=
  Seg (model prog w) A R Y n s₀ c ((do noteFrame x env; theTreesLotGoes x : Sem Unit).wrap (fun _ => .raise x) .raise id id) fs s'
theorem seg_forLoop {tg : Expr} {it : Value} {body : List Stmt}
    (h : wpAny (model prog w) (A.over (.forLoop tg it body [] env) fs) (pyNext it) (fun r s₁ => match r with
        | none => Seg (model prog w) A R Y n s₀ (.block [] env) ((model prog w).den (.block [] env)) fs s₁
        | some v => wpAny (model prog w) (A.over (.forLoop tg it body [] env) fs) (letOwnedTupleGo tg it v) (fun _ s₁' => wpAny (model prog w) (A.over (.forLoop tg it body [] env) fs) (assign tg env v) (fun _ s₂ =>
            Seg (model prog w) A R Y n s₀ (.forLoop tg it body [] env) ((execs body env).wrap (fun f => match f with
              | .next | .cont => .pure (.again (.forLoop tg it body [] env))
              | .brk => .pure (.done .next)
              | .ret v => .pure (.done (.ret v))) (fun e => (do noteFrame e env; theTreesLotGoes e : Sem Unit).wrap (fun _ => .raise e) .raise id id) id id) fs s₂) (EOut prog w A R Y n s₀ (.forLoop tg it body [] env) env fs) s₁') (EOut prog w A R Y n s₀ (.forLoop tg it body [] env) env fs) s₁)
      (EOut prog w A R Y n s₀ (.forLoop tg it body [] env) env fs) s) :
    Seg (model prog w) A R Y n s₀ (.forLoop tg it body [] env) ((model prog w).den (.forLoop tg it body [] env)) fs s := by
  show Seg _ A R Y n s₀ _ ((forTurn tg it body [] env).onRaise (fun x => do noteFrame x env; theTreesLotGoes x)) fs s
  unfold forTurn
  rw [Sem.onRaise_eq_wrap]
  have ee : ∀ x s', EOut prog w A R Y n s₀ (.forLoop tg it body [] env) env fs x s' → Seg (model prog w) A R Y n s₀ (.forLoop tg it body [] env) ((do noteFrame x env; theTreesLotGoes x : Sem Unit).bind fun _ => .raise x) fs s' := fun x s' hx => by
    rw [Sem.bind_eq_wrap]; exact hx
  refine seg_bind_wrap (wpAny_standAt ?_)
  refine seg_bind_wrap (wpAny_onRaise (wpAny_mono h (fun r s₁ h₁ => ?_) fun x s' hx => wpAny_standAt (ee x s' hx)))
  cases r with
  | none => exact seg_again rfl h₁
  | some v =>
    refine seg_bind_wrap (wpAny_mono h₁ (fun _ s₁' h₂ => ?_) fun x s' hx => ee x s' hx)
    refine seg_bind_wrap (wpAny_mono h₂ (fun _ s₂ h₃ => ?_) fun x s' hx => ee x s' hx)
    rw [Sem.bind_eq_wrap', Sem.wrap_wrap]
    rw [Sem.wrap_congr (execs body env) _ _ (K' := fun f => match f with
            | .next | .cont => .pure (.again (.forLoop tg it body [] env))
            | .brk => .pure (.done .next)
            | .ret v => .pure (.done (.ret v))) (H' := (fun e => (do noteFrame e env; theTreesLotGoes e : Sem Unit).wrap (fun _ => .raise e) .raise id id))
        (fun f => by cases f <;> rfl)
        (fun e => by first | exact Sem.bind_eq_wrap _ _ | (show (do noteFrame e env; theTreesLotGoes e : Sem Unit).bind (fun _ => .raise e) = _; rw [Sem.bind_eq_wrap]))]
    exact h₃
end
section
variable {X : Cx} {rest : List Stmt} {pos : Pos}
def tGFor (wi : TI) (g : TG) (tb : TGn) : TGn := fun D ys σ H => wi σ H fun J H1 => ∃ W : Nat → Nat → List V → St → Hp → Prop, (∃ m, W 0 m ys σ H1) ∧ ∀ i m ys σ H, W i m ys σ H →
  (J.stop i H ∧ D.nx ys σ H) ∨ (J.go i H ∧ ∃ N : List V → St → Hp → Prop, (∀ ys' σ' H', N ys' σ' H' → ∃ m', m' < m ∧ W (i + 1) m' ys' σ' H') ∧ ∀ x H', J.yld i H x H' → g x σ H' fun σ2 H2 => tb { D with nx := N, ct := N, bk := D.nx } ys σ2 H2)
theorem gs_for {tg iter : Expr} {body : List Stmt} {wi : TI} {g : TG} {tb : TGn} (hp : PassesOwn (model X.prog X.w) X.A X.env X.xe) (hc : X.calm = true) (hi : PI X tg iter wi) (hg : PG X tg g) (hb : GSs X body tb)
    (hs : ∀ x, foldedSetIterable iter X.env x = pure x := by intro _; rfl) : GS X (.For tg iter body [] pos) (tGFor wi g tb) := by
  refine ⟨fun A S ip R n ys s₀ c fs K J gd lv s σ H D gg hn k hI ht => ?_⟩
  obtain ⟨acc, cc, r, I⟩ := hI
  refine seg_For ?_ hs
  rw [gg.over]
  refine wpAny_mono (hi.run _ s σ H _ I ht) (fun v s1 h1 => ?_) fun x s' hx => k.exc n s₀ x s' hx
  refine wpAny_mono h1 (fun itv s2 h2 p => ?_) fun x s' hx => k.exc n s₀ x s' hx
  obtain ⟨it, fp, tn, JJ, H2, e, I2, T, st2, f2, W, ⟨m0, w0⟩, turn⟩ := h2
  subst e
  have stat : ∀ {H' : Hp} {acc' : Array Value} {cc' : Nat}, (∀ b ∈ fp, H' b = none) → ∀ b ∈ fp, FpOk X ((S, lstObj acc' cc') :: ip) H' b := fun hn b hb => by
    obtain ⟨f0, f1, f2', f3, f4, f5⟩ := f2 b hb
    refine ⟨hn b hb, f1, f2', f3, f4, fun p hp => ?_⟩
    rcases List.mem_append.mp hp with z | z
    · exact f5 p (List.mem_append_left _ z)
    · rcases List.mem_cons.mp z with z | z
      · rw [z]
        exact f5 (S, lstObj acc cc) (List.mem_append_right _ List.mem_cons_self)
      · exact f5 p (List.mem_append_right _ (List.mem_cons_of_mem _ z))
  have nS : ∀ b ∈ fp, b ≠ S := fun b hb z => (f2 b hb).2.2.2.2.2 (S, lstObj acc cc) (List.mem_append_right _ List.mem_cons_self) z.symm
  have gl := fun (kk : Result → Sem PySem.Fin) => gc_loop (k := kk) (c' := .forLoop tg (.ref it) body [] X.env) (l := lv []) (kp := []) (p := p) gg rfl rfl
  have glb := fun (kk : Result → Sem PySem.Fin) => gc_loop (k := kk) (c' := .block [] X.env) (l := lv []) (kp := []) (p := p) gg rfl rfl
  have loop : ∀ (m i n : Nat) (ys : List V) (s₀ s : Shared) (σ : St) (H : Hp), n + ys.length = sizeLine → W i m ys σ H → GI X S ip ys σ H s → tn i s.heap → (∀ b ∈ fp, H b = none) →
      Seg (model X.prog X.w) A R (GY X S) n s₀ (.forLoop tg (.ref it) body [] X.env) ((model X.prog X.w).den (.forLoop tg (.ref it) body [] X.env))
        (.ret (fun r => ((match r with | .ok f => (.pure f : Sem Flow) | .error e => .raise e).onRaise (cameBack X.env)).wrap K J gd lv) none (gd false) (lv []) c p [] :: fs) s := by
    intro m
    induction m using Nat.strongRecOn with
    | ind m ih =>
      intro i n ys s₀ s σ H hn w hI hst hfr
      have ee : ∀ (n : Nat) (s₀ : Shared) (x : Value) (s' : Shared), X.xe x s' → EOut X.prog X.w A R (GY X S) n s₀ (.forLoop tg (.ref it) body [] X.env) X.env
          (.ret (fun r => ((match r with | .ok f => (.pure f : Sem Flow) | .error e => .raise e).onRaise (cameBack X.env)).wrap K J gd lv) none (gd false) (lv []) c p [] :: fs) x s' := fun n s₀ x s' hx => by
        refine seg_wrap ?_
        rw [(gl _).over]
        refine wpAny_bind (wpAny_mono (hp x s' hx) (fun _ s'' hcb => wpAny_theTreesLotGoes ?_) fun y s'' hcb => ?_)
        · exact seg_leaf (.error x) (seg_cameBack gg k hcb)
        · exact seg_leaf (.error y) (seg_cameBack gg k hcb)
      refine seg_forLoop ?_
      rw [(gl _).over]
      obtain ⟨acc, cc, r, I⟩ := hI
      rcases turn i m ys σ H w with ⟨stop, qn⟩ | ⟨go, N, hN, step⟩
      · refine wpAny_mono (T.done X rfl rfl rfl hc i _ s σ H X.xe I (stat hfr) hst stop) (fun r' s4 ⟨hr, I4⟩ => ?_) fun x s' hx => ee n s₀ x s' hx
        subst hr
        show Seg _ _ _ _ _ _ _ ((execs [] X.env).onRaise _ >>= fun f => .pure (.done f)) _ _
        refine seg_bind ?_
        rw [(glb _).over]
        refine wpAny_onRaise ?_
        refine wpAny_execs_nil ?_
        exact seg_leaf (.ok .next) (k.ok n ys s₀ s4 .next hn ⟨σ, H, ⟨acc, cc, r, I4⟩, qn⟩)
      · refine wpAny_mono (T.item X rfl rfl rfl hc i _ s σ H X.xe I (stat hfr) hst go) (fun r' s4 ⟨u, hr, h4⟩ => ?_) fun x s' hx => ee n s₀ x s' hx
        subst hr
        refine wpAny_mono h4 (fun _ s5 ⟨x, H5, I5, r5, y5, st5, fr5⟩ => ?_) fun x s' hx => ee n s₀ x s' hx
        have I5' := I5.pinned (stat fr5) (T.obj _ _ st5)
        refine wpAny_mono (hg.run _ s5 σ H5 x u _ I5' r5 (step x H5 y5)) (fun _ s6 ⟨σ6, H6, I6, q6⟩ => ?_) fun x s' hx => ee n s₀ x s' hx
        have gl' : GC X S (ip ++ pinsAt fp s5.heap) A (.forLoop tg (.ref it) body [] X.env) (.ret (fun r => ((match r with | .ok f => (.pure f : Sem Flow) | .error e => .raise e).onRaise (cameBack X.env)).wrap K J gd lv) none (gd false) (lv []) c p [] :: fs) id :=
          ⟨gg.pn, fun p hp => (List.mem_append.mp hp).elim (fun z => gg.ip p z) fun z => nS p.1 (of_pinsAt z).1, gg.apart, (gl _).over, (gl _).split, (gl _).guard, rfl⟩
        have back : ∀ {ys7 : List V} {σ7 : St} {H7 : Hp} {s7 : Shared}, GI X S (ip ++ pinsAt fp s5.heap) ys7 σ7 H7 s7 → GI X S ip ys7 σ7 H7 s7 ∧ tn (i + 1) s7.heap ∧ ∀ b ∈ fp, H7 b = none := fun {ys7 σ7 H7 s7} h7 => by
          obtain ⟨acc7, cc7, r7, I7⟩ := h7
          refine ⟨⟨acc7, cc7, r7, Inv.unpinned (pins := (S, lstObj acc7 cc7) :: ip) I7⟩, T.keep _ _ _ st5 fun b hb o e => (I7.pin (b, o) (List.mem_append_right _ (List.mem_cons_of_mem _ (List.mem_append_right _ (mem_pinsAt hb e))))).1, fun b hb => ?_⟩
          obtain ⟨o, e, d⟩ := T.obj _ _ st5 b hb
          exact (I7.pin (b, o) (List.mem_append_right _ (List.mem_cons_of_mem _ (List.mem_append_right _ (mem_pinsAt hb e))))).2.1
        refine hb.run A S (ip ++ pinsAt fp s5.heap) R n ys s₀ _ _ _ _ id id s6 σ6 H6 { D with nx := N, ct := N, bk := D.nx } gl' hn ⟨fun n' ys' s₀' s7 f hn' hs => ?_, fun n' s₀' x s7 hx => ee n' s₀' x s7 hx⟩ ⟨acc, cc, r, I6⟩ q6
        cases f with
        | next =>
          obtain ⟨σ7, H7, I7, n7⟩ := hs
          obtain ⟨m', hm, w7⟩ := hN ys' σ7 H7 n7
          obtain ⟨b1, b2, b3⟩ := back I7
          exact seg_again rfl (ih m' hm (i + 1) n' ys' s₀' s7 σ7 H7 hn' w7 b1 b2 b3)
        | cont =>
          obtain ⟨σ7, H7, I7, n7⟩ := hs
          obtain ⟨m', hm, w7⟩ := hN ys' σ7 H7 n7
          obtain ⟨b1, b2, b3⟩ := back I7
          exact seg_again rfl (ih m' hm (i + 1) n' ys' s₀' s7 σ7 H7 hn' w7 b1 b2 b3)
        | brk =>
          obtain ⟨σ7, H7, I7, n7⟩ := hs
          exact seg_leaf (.ok .next) (k.ok n' ys' s₀' s7 .next hn' ⟨σ7, H7, (back I7).1, n7⟩)
        | ret v =>
          obtain ⟨x7, σ7, H7, I7, r7, n7⟩ := hs
          exact seg_leaf (.ok (.ret v)) (k.ok n' ys' s₀' s7 (.ret v) hn' ⟨x7, σ7, H7, (back I7).1, r7, n7⟩)
  exact loop m0 0 n ys s₀ s2 σ H2 hn w0 ⟨acc, cc, r, I2⟩ st2 fun b hb => (f2 b hb).1
end
end L2
namespace Pg
open PySem PySem.Spec PyProof.Rows L2
/-! ### generator methods -/
structure MGnAt (P : Program) (w : World) (K : PySem.W.Frag) (mg : Str → Option Value) (base : Heap) (C : Addr) (m qual : Str) (st : Stmt) (k : Nat) (ps : List Str) (sp : SpG) : Prop where
  ex : ∃ f fd, Meth K C m f ∧ Fun K m qual st f fd ∧ GFn P w K mg base k f fd ps sp ∧ Binds K fd ps []
theorem MethAt.okGn {P : Program} {w : World} {K : PySem.W.Frag} {mg : Str → Option Value} {base : Heap} {C : Addr} {m qual : Str} {st : Stmt} {k : Nat} {ps N : List Str} {sp : SpG} (F : MethAt K C m qual st) (S : GScope N ps (defScope st)) (len : ∀ vs H Q E, sp vs H Q E → vs.length = ps.length)
    (hb : ∀ (kV doc pm : Value) (an : Option Addr) (cdv ct : Value) (us : List Value), us.length = ps.length → bindArgs (PySem.W.fnOf m qual (defArgs st) (defBody st) (defScope st) .none kV doc pm an cdv ct) ⟨us, []⟩ = pure (ps.zip us))
    (hbody : ∀ (f : Addr) (cdv : Value) (A : Around) (outer : List Env) (s : Shared) (H : Hp) (vs : List V) (Q : List V → Hp → Prop) (E : XK) (pn : List (Addr × Obj)), Room k (A.deeper (envOfC qual (defScope st) s.heap.objs.size f cdv)) → sp vs H Q E →
      ∃ t, GSs (gcxOf P w K mg base N qual (defScope st) f cdv A outer s H E pn) (defBody st) t ∧ t { nx := fun ys _ H' => Q ys H', rt := fun ys v H' => v = .non ∧ Q ys H' } [] (start N vs) H) : MGnAt P w K mg base C m qual st (k + 1) ps sp := by
  obtain ⟨f, fd, hm, F⟩ := F.ex
  refine ⟨f, fd, hm, F, ?_, F.binds hb⟩
  obtain ⟨oc, od, kV, doc, pm, an, cdv, ct, osl, rfl, lk, hcd⟩ := F.ex
  exact gfn_of lk hcd S len fun A outer s H vs Q E pn hr h => hbody f cdv A outer s H vs Q E pn hr h
section
variable {X : Cx} {x m qual : Str} {st : Stmt} {k : Nat} {ps ks : List Str} {sp : SpG} {C : Addr} {e o : Expr} {es : List Expr} {kws : List Keyword} {t tk : TA} {ta : TE} {p p0 pos pos' apos : Pos} {ix : List Nat}
theorem pe_listGM {pl : Sem Bool} (he : PE X o ta) (T : Cls X.K C) (D : MGnAt X.prog X.w X.K X.mg X.base C m qual st k ps sp) (hr : Room (k + 3) X.A) (hgl : Gl X "list") (hml : X.mg "list" = none) (ha : PA X (e :: es) t)
    (hst : starEach (e :: es) X.env = (false, eval e X.env) :: starEach es X.env := by rfl) (hpl : (backTo pos' (starEach es X.env)).any (·.1) = false := by rfl)
    (ht : eval (.Call (.Attribute o m apos) (e :: es) [] pos') X.env = (do
      let ov ← eval o X.env
      standAt apos.atName
      let (f, first) ← holding [ov] (getMethod ov m pl)
      callWith pos' f first (backTo pos' (starEach (e :: es) X.env)) (backToKw pos' (keywordEach [] X.env))) := by rfl)
    (he2 : starEach [.Call (.Attribute o m apos) (e :: es) [] pos'] X.env = (false, eval (.Call (.Attribute o m apos) (e :: es) [] pos') X.env) :: starEach [] X.env := by rfl) :
    PE X (.Call (.Name "list" p0) [.Call (.Attribute o m apos) (e :: es) [] pos'] [] pos) (tListG (tMethG C m sp [] E0 ta t)) := by
  obtain ⟨f, fd, hm, F, G, b⟩ := D.ex
  exact pe_listG (pgen_meth he T hm G (hr.mono (by omega)) b .nil ha hst hpl ht) (fun _ _ _ _ _ _ _ z => by
    obtain ⟨_, _, _, _, _, _, _, _, _, _, _, _, q⟩ := z
    exact q.elim) (fun _ _ _ z => z.elim) hr hgl hml boot_list (by decide) (by decide) he2
/-- o.m(k = v, ..) of a generator method -/
def tMethGK (C : Addr) (m : Str) (n : Nat) (ix : List Nat) (sp : SpG) (E : XK) (ta : TE) (tk : TA) : TGen := fun σ H cont => ta σ H fun x H1 => ∃ a dx fs, x = .ref a ∧ H1 a = some (.ins C dx fs) ∧ fs.lookup m = none ∧
  tk σ H1 fun zs H2 => zs.length = n ∧ sp (x :: pick ix zs) H2 cont E
theorem run_gfnK {pins : List (Addr × Obj)} {σ : L2.St} {H : Hp} {s : Shared} {us us' : List Value} {kw : List (Str × Value)} {vs : List V} {cont : List V → Hp → Prop} {E : XK} {f : Addr} {fd : FuncData} {E1 : Value → Shared → Prop} (F : GFn X.prog X.w X.K X.mg X.base k f fd ps sp) (hr : Room k X.A)
    (I : Inv X pins σ H s) (b : BindsTo s fd ⟨us, kw⟩ (ps.zip us')) (r : Vals vs us') (h : sp vs H cont E) :
    wpAny (model X.prog X.w) X.A (call (.ref f) us kw) (fun u s' => ∃ H1 sc ex, Inv X pins σ H1 sc ∧ ExOk X pins ex ∧ GMade X.prog X.w k X.stack H1 sc ex cont E u s') E1 s := by
  refine wpAny_call (codeAny_mono (F.run X.A X.stack s H ⟨us, kw⟩ us' vs cont E hr I.env0 b r h) fun r s' hq => ?_)
  cases r with
  | error e => exact False.elim hq
  | ok fl =>
    cases fl with
    | ret u => exact ⟨H, s, [], I, .nil, hq⟩
    | next => exact False.elim hq
    | brk => exact False.elim hq
    | cont => exact False.elim hq
theorem pgen_methK {E : XK} {pl : Sem Bool} (he : PE X o ta) (T : Cls X.K C) (D : MGnAt X.prog X.w X.K X.mg X.base C m qual st k ps sp) (hr : Room k X.A) (hkw : PK X kws tk) (B : KB0 m qual st ps ks 1 ix)
    (hall : (backToKw pos' (keywordEach kws X.env)).all (·.1.isSome) = true := by rfl) (hks : (backToKw pos' (keywordEach kws X.env)).filterMap (·.1) = ks := by rfl)
    (hpl : ((backTo pos' (starEach [] X.env)).any (·.1) || (backToKw pos' (keywordEach kws X.env)).any (·.1.isNone)) = false := by rfl)
    (ht : eval (.Call (.Attribute o m apos) [] kws pos') X.env = (do
      let ov ← eval o X.env
      standAt apos.atName
      let (f, first) ← holding [ov] (getMethod ov m pl)
      callWith pos' f first (backTo pos' (starEach [] X.env)) (backToKw pos' (keywordEach kws X.env))) := by rfl) :
    PGen X k (.Call (.Attribute o m apos) [] kws pos') (tMethGK C m ks.length ix sp E ta tk) E := by
  obtain ⟨f, fd, hm, F, G, b⟩ := D.ex
  refine ⟨fun pins s σ H cont I h => ?_⟩
  refine PySem.W.methodCall_KW (pl := pl) (thn (he.run pins s σ H _ I h) fun u s1 ⟨x, H1, I1, rx, a, dx, fs, ex, ea, l, q⟩ => ?_) ht
  subst ex
  obtain rfl : u = Value.ref a := rx
  refine getmeth_ok I1 ea T hm l ?_
  refine PySem.W.callWith_KW0 (first := [.ref a]) (h₀ := X.base) I.ok.mod.kin hm.kp hall ?_ hpl
  refine thn (hkw.run pos' pins s1 σ H1 _ I1 q) fun ws s2 ⟨zs, H2, I2, rz, l2, q2⟩ => ⟨I2.kIn, ?_⟩
  rw [hks]
  have r2 : Vals (V.ref a :: pick ix zs) (Value.ref a :: pick ix ws) := .cons rfl (pick_vals rz ix)
  exact run_gfnK (us := [.ref a]) G hr I2 ((B.kbn F).to s2 [.ref a] ws I2.kIn rfl (rz.length.symm.trans l2)) r2 q2
theorem pe_listGMK {pl : Sem Bool} (he : PE X o ta) (T : Cls X.K C) (D : MGnAt X.prog X.w X.K X.mg X.base C m qual st k ps sp) (hr : Room (k + 3) X.A) (hgl : Gl X "list") (hml : X.mg "list" = none) (hkw : PK X kws tk) (B : KB0 m qual st ps ks 1 ix)
    (hall : (backToKw pos' (keywordEach kws X.env)).all (·.1.isSome) = true := by rfl) (hks : (backToKw pos' (keywordEach kws X.env)).filterMap (·.1) = ks := by rfl)
    (hpl : ((backTo pos' (starEach [] X.env)).any (·.1) || (backToKw pos' (keywordEach kws X.env)).any (·.1.isNone)) = false := by rfl)
    (ht : eval (.Call (.Attribute o m apos) [] kws pos') X.env = (do
      let ov ← eval o X.env
      standAt apos.atName
      let (f, first) ← holding [ov] (getMethod ov m pl)
      callWith pos' f first (backTo pos' (starEach [] X.env)) (backToKw pos' (keywordEach kws X.env))) := by rfl)
    (he2 : starEach [.Call (.Attribute o m apos) [] kws pos'] X.env = (false, eval (.Call (.Attribute o m apos) [] kws pos') X.env) :: starEach [] X.env := by rfl) :
    PE X (.Call (.Name "list" p0) [.Call (.Attribute o m apos) [] kws pos'] [] pos) (tListG (tMethGK C m ks.length ix sp E0 ta tk)) :=
  pe_listG (pgen_methK he T D (hr.mono (by omega)) hkw B hall hks hpl ht) (fun _ _ _ _ _ _ _ z => by
    obtain ⟨_, _, _, _, _, _, _, _, _, _, _, _, q⟩ := z
    exact q.elim) (fun _ _ _ z => z.elim) hr hgl hml boot_list (by decide) (by decide) he2
/-- f(k = v, ..) of a generator def -/
def tCallGK (n : Nat) (ix : List Nat) (sp : SpG) (E : XK) (tk : TA) : TGen := fun σ H cont => tk σ H fun zs H2 => zs.length = n ∧ sp (pick ix zs) H2 cont E
theorem pgen_callK {E : XK} (D : GnAt X.prog X.w X.K X.mg X.base x st k ps sp) (hr : Room k X.A) (hkw : PK X kws tk) (B : KB0 x x st ps ks 0 ix) (hg : Gl X x := by rfl)
    (hall : (backToKw pos' (keywordEach kws X.env)).all (·.1.isSome) = true := by rfl) (hks : (backToKw pos' (keywordEach kws X.env)).filterMap (·.1) = ks := by rfl) (hdb : (x == ("__debug__" : Str)) = false := by decide)
    (hpl : ((backTo pos' (starEach [] X.env)).any (·.1) || (backToKw pos' (keywordEach kws X.env)).any (·.1.isNone)) = false := by rfl) :
    PGen X k (.Call (.Name x p) [] kws pos') (tCallGK ks.length ix sp E tk) E := by
  obtain ⟨f, fd, hm, F, G, b⟩ := D.ex
  refine ⟨fun pins s σ H cont I h => ?_⟩
  refine wpAny_Call_Name_kw (ld_glob I hg hm ?_ hdb)
  refine PySem.W.callWith_KW0 (h₀ := X.base) I.ok.mod.kin F.kp hall ?_ hpl
  refine thn (hkw.run pos' pins s σ H _ I h) fun ws s2 ⟨zs, H2, I2, rz, l2, q2⟩ => ⟨I2.kIn, ?_⟩
  rw [hks]
  exact run_gfnK (us := []) G hr I2 ((B.kbn F).to s2 [] ws I2.kIn rfl (rz.length.symm.trans l2)) (pick_vals rz ix) q2
theorem pe_listGDK (D : GnAt X.prog X.w X.K X.mg X.base x st k ps sp) (hr : Room (k + 3) X.A) (hgl : Gl X "list") (hml : X.mg "list" = none) (hkw : PK X kws tk) (B : KB0 x x st ps ks 0 ix) (hg : Gl X x := by rfl)
    (hall : (backToKw pos' (keywordEach kws X.env)).all (·.1.isSome) = true := by rfl) (hks : (backToKw pos' (keywordEach kws X.env)).filterMap (·.1) = ks := by rfl) (hdb : (x == ("__debug__" : Str)) = false := by decide)
    (hpl : ((backTo pos' (starEach [] X.env)).any (·.1) || (backToKw pos' (keywordEach kws X.env)).any (·.1.isNone)) = false := by rfl)
    (he2 : starEach [.Call (.Name x p) [] kws pos'] X.env = (false, eval (.Call (.Name x p) [] kws pos') X.env) :: starEach [] X.env := by rfl) :
    PE X (.Call (.Name "list" p0) [.Call (.Name x p) [] kws pos'] [] pos) (tListG (tCallGK ks.length ix sp E0 tk)) :=
  pe_listG (pgen_callK D (hr.mono (by omega)) hkw B hg hall hks hdb hpl) (fun _ _ _ _ _ _ _ z => by
    obtain ⟨_, _, _, _, _, _, _, _, _, _, _, _, q⟩ := z
    exact q.elim) (fun _ _ _ z => z.elim) hr hgl hml boot_list (by decide) (by decide) he2
section
variable {D : GEnds} {ys : List V} {σ : L2.St} {H : Hp} {sp : SpG} {dvs : List V} {E : XK} {cont : List V → Hp → Prop} {n : Nat} {a dx : Addr} {fs : List (Str × V)} {y : V}
def GRunE (sp : SpG) (E : XK) (cont : List V → Hp → Prop) : V → List V → Hp → Prop := fun x vs H2 => sp (x :: (vs ++ [])) H2 cont E
def GKwE (n : Nat) (ix : List Nat) (sp : SpG) (E : XK) (cont : List V → Hp → Prop) : V → List V → Hp → Prop := fun x zs H2 => zs.length = n ∧ sp (x :: pick ix zs) H2 cont E
def GKw0 (n : Nat) (ix : List Nat) (sp : SpG) (E : XK) (cont : List V → Hp → Prop) : List V → Hp → Prop := fun zs H2 => zs.length = n ∧ sp (pick ix zs) H2 cont E
theorem w_methG (h : ta σ H (MethXE C m t (GRunE sp E cont) σ)) : tMethG C m sp [] E ta t σ H cont := h
theorem w_methGK (h : ta σ H (MethXE C m tk (GKwE n ix sp E cont) σ)) : tMethGK C m n ix sp E ta tk σ H cont := h
theorem w_grunE {vs : List V} (h : sp (y :: (vs ++ [])) H cont E) : GRunE sp E cont y vs H := h
theorem w_gkwE {zs : List V} (e : zs.length = n) (h : sp (y :: pick ix zs) H cont E) : GKwE n ix sp E cont y zs H := ⟨e, h⟩
theorem w_callGK (h : tk σ H (GKw0 n ix sp E cont)) : tCallGK n ix sp E tk σ H cont := h
theorem w_gkw0 {zs : List V} (e : zs.length = n) (h : sp (pick ix zs) H cont E) : GKw0 n ix sp E cont zs H := ⟨e, h⟩
/-- the loop over what is walked -/
def GForB (g : TG) (tb : TGn) (D : GEnds) (ys : List V) (σ : L2.St) : It → Hp → Prop := fun J H1 => ∃ W : Nat → Nat → List V → L2.St → Hp → Prop, (∃ m, W 0 m ys σ H1) ∧ ∀ i m ys σ H, W i m ys σ H →
  (J.stop i H ∧ D.nx ys σ H) ∨ (J.go i H ∧ ∃ N : List V → L2.St → Hp → Prop, (∀ ys' σ' H', N ys' σ' H' → ∃ m', m' < m ∧ W (i + 1) m' ys' σ' H') ∧ ∀ x H', J.yld i H x H' → g x σ H' fun σ2 H2 => tb { D with nx := N, ct := N, bk := D.nx } ys σ2 H2)
theorem w_gFor {wi : TI} {g : TG} {tb : TGn} (h : wi σ H (GForB g tb D ys σ)) : tGFor wi g tb D ys σ H := h
/-- a for over a list that stays as it is -/
theorem g_list {K : PySem.W.Frag} {g : TG} {tb : TGn} (xs : List V) (Pv : Nat → List V → L2.St → Hp → Prop) (h0 : Pv 0 ys σ H) (hl : ∀ i ys σ H, i ≤ xs.length → Pv i ys σ H → SqL K H a xs)
    (hs : ∀ i x ys σ H, xs[i]? = some x → Pv i ys σ H → g x σ H fun σ2 H2 => tb { D with nx := Pv (i + 1), ct := Pv (i + 1), bk := D.nx } ys σ2 H2) (hd : ∀ ys σ H, Pv xs.length ys σ H → D.nx ys σ H) : GForB g tb D ys σ (Itl K a) H := by
  refine ⟨fun i m ys σ H => m = xs.length - i ∧ i ≤ xs.length ∧ Pv i ys σ H, ⟨xs.length, by simp, Nat.zero_le _, h0⟩, ?_⟩
  rintro i m ys σ H ⟨rfl, hi, p⟩
  have q := hl i ys σ H hi p
  by_cases hlt : i < xs.length
  · refine .inr ⟨⟨xs, xs[i], q, by simp [hlt]⟩, Pv (i + 1), fun ys' σ' H' p' => ⟨xs.length - (i + 1), by omega, rfl, hlt, p'⟩, fun x H' y => ?_⟩
    obtain ⟨e, y⟩ := y
    subst e
    exact hs i x ys σ _ (y xs q) p
  · have e : i = xs.length := by omega
    subst e
    exact .inl ⟨⟨xs, q, Nat.le_refl _⟩, hd ys σ H p⟩
end
end
/-! ### list(range(..)) -/
def RgLE (Q : VK) : Int → Int → Hp → Prop := fun a b H1 => RgOk a b ∧ ∀ q, H1 q = none → Q (.ref q) (upd H1 q (.lst (rgV a b)))
def Rg2E (R : Int → Int → Hp → Prop) : V → V → Hp → Prop := fun x y H2 => ∃ i j, x = .int i ∧ y = .int j ∧ R i j H2
def Rg1E (R : Int → Int → Hp → Prop) : V → Hp → Prop := fun x H1 => ∃ n, x = .int n ∧ R 0 n H1
def rgI (a b : Int) : List Int := (List.range (b - a).toNat).map fun i => a + (i : Nat)
theorem rgV_ints (a b : Int) : rgV a b = (rgI a b).map V.int := by simp [rgV, rgI]
section
variable {σ : L2.St} {H : Hp} {ta tb : TE} {te : L2.St → Hp → (Int → Int → Hp → Prop) → Prop} {Q : VK} {R : Int → Int → Hp → Prop} {i j : Int}
theorem w_listRg (h : te σ H (RgLE Q)) : tLstRg te σ H Q := h
theorem w_rg2 (h : ta σ H fun x H1 => tb σ H1 (Rg2E R x)) : tRg2 ta tb σ H R := h
theorem w_rg1 (h : ta σ H (Rg1E R)) : tRg1 ta σ H R := h
theorem w_rg2E (h : R i j H) : Rg2E R (.int i) (.int j) H := ⟨i, j, rfl, rfl, h⟩
theorem w_rg1E (h : R 0 i H) : Rg1E R (.int i) H := ⟨i, rfl, h⟩
theorem w_rgLE (h0 : 0 ≤ i) (h1 : j ≤ 16777216) (h2 : i ≤ 16777216) (h3 : 0 ≤ j) (k : ∀ q, H q = none → Q (.ref q) (upd H q (.lst ((rgI i j).map V.int)))) : RgLE Q i j H := ⟨RgOk.of_le h0 h1 h2 h3, fun q hq => by rw [rgV_ints]; exact k q hq⟩
end
end Pg
namespace L2
open PySem PySem.Spec PyProof.Rows GenW
/-! ### generators that raise when they are woken -/
def RErr (P : Program) (w : World) (outer : List Env) (H : Hp) (s : Shared) (a : Addr) (g : Nat) (E : XK) : GenEnd := fun n s₀ r s1 => ((r = .ok (.ret .none) ∨ r = .ok .next) ∧ False) ∨ ∃ e, r = .error e ∧ (CX P w outer H s E e s1 ∧ s1.heap.IsGen a g)
def GRMade (P : Program) (w : World) (k : Nat) (outer : List Env) (H : Hp) (s : Shared) (E : XK) (u : Value) (s' : Shared) : Prop :=
  ∃ (a : Addr) (g : Nat) (c : Code), u = .ref a ∧ s.heap.objs.size ≤ a ∧ a < s'.heap.objs.size ∧ s'.heap.IsGen a g ∧ s'.gens[g]? = some (.fresh c) ∧ s'.os = s.os ∧ AllBare s'.gens ∧ s'.heap.NoLimit ∧ (∀ b o, s.heap.get? b = some o → s'.heap.get? b = some o) ∧
    ∀ (A : Around) (s2 : Shared), Room k A → A.frames = some outer → (∀ b o, s'.heap.get? b = some o → s2.heap.get? b = some o) → s2.os = s.os → AllBare s2.gens →
      Seg (model P w) A (RErr P w outer H s a g E) (fun _ _ _ _ _ => False) 0 s2 c ((model P w).den c) [] s2
abbrev SpR := List V → Hp → XK → Prop
structure GRFn (P : Program) (w : World) (K : PySem.W.Frag) (mg : Str → Option Value) (base : Heap) (k : Nat) (f : Addr) (fd : FuncData) (ps : List Str) (sp : SpR) : Prop where
  len : ∀ vs H E, sp vs H E → vs.length = ps.length
  run : ∀ (A : Around) (outer : List Env) (s : Shared) (H : Hp) (args : Args) (us : List Value) (vs : List V) (E : XK), Room k A → Env0 P w K mg base A outer s H → BindsTo s fd args (ps.zip us) → Vals vs us → sp vs H E →
    codeAny (model P w) A (.call (.ref f) args) (fun r s' => match r with | .ok (.ret u) => GRMade P w k outer H s E u s' | _ => False) s
theorem grfn_of {P : Program} {w : World} {K : PySem.W.Frag} {mg : Str → Option Value} {base : Heap} {k : Nat} {f : Addr} {name qual : Str} {params : Arguments} {st : Stmt} {rest : List Stmt} {scope : Scope} {dV kV doc pm cdv ct oc : Value} {an od : Option Addr}
    {osl : Array (Option Value)} {N ps : List Str} {sp : SpR} (lk : K.lookup f = some ⟨oc, od, .func (PySem.W.fnOf name qual params (st :: rest) scope dV kV doc pm an cdv ct), osl⟩) (hcd : PySem.W.codeIn K cdv qual = true) (S : GScope N ps scope)
    (len : ∀ vs H E, sp vs H E → vs.length = ps.length)
    (hbody : ∀ (A : Around) (outer : List Env) (s : Shared) (H : Hp) (vs : List V) (E : XK) (pn : List (Addr × Obj)), Room k (A.deeper (envOfC qual scope s.heap.objs.size f cdv)) → sp vs H E →
      ∃ t, PS (gcxOf P w K mg base N qual scope f cdv A outer s H E pn) st t ∧ t { nx := fun _ _ => False, rt := fun _ _ => False } (start N vs) H) :
    GRFn P w K mg base (k + 1) f (PySem.W.fnOf name qual params (st :: rest) scope dV kV doc pm an cdv ct) ps sp := by
  refine ⟨len, fun A outer s H args us vs E hr e0 hb r hsp => ?_⟩
  have hl := len _ _ _ hsp
  have KX : K.In s.heap := e0.mod.kin.keeps fun b o e => (e0.bs b o e).1
  have lim : s.heap.NoLimit := e0.mod.nolimit.keeps fun b o e => (e0.bs b o e).1
  have hkind : ∀ y ∈ ps.zip us, scope.names.lookup y.1 = some .local ∨ (scope.names.lookup y.1 = some .cell ∧ ((cellsFrom (s.heap.objs.size + 1) scope.names []).lookup y.1).isSome = true) := fun ⟨n, v⟩ hy => by
    rcases S.par n (List.of_mem_zip hy).1 with q | q
    · exact .inl q
    · exact .inr ⟨q, PySem.W.cellsFrom_some _ _ _ (.inl q)⟩
  refine codeAny_call_generator hr.depth (KX _ _ lk) rfl S.co S.gen rfl (PySem.W.codeRec_of KX hcd) (hb _ _ _ _ ?_)
  refine wpAny_newFunctionEnv_cells S.kind hkind fun env he s1 x => ?_
  subst he
  have lim1 : s1.heap.NoLimit := lim.keeps x.toInCall.keep
  refine ⟨lim1, ?_⟩
  obtain ⟨h1, tk, es1, hk1⟩ := x.done
  have os1 : s1.os = s.os := by rw [es1]
  have gen1 : s1.gens = s.gens := by rw [es1]
  have lt1 : s.heap.objs.size < s1.heap.objs.size := x.toInCall.ns.lt
  have sz1 : s.heap.objs.size ≤ s1.heap.objs.size := Nat.le_of_lt lt1
  have kp1 : ∀ b o, s.heap.get? b = some o → s1.heap.get? b = some o := x.toInCall.keep
  have main : ∀ (go : Obj) (nm qn : Value) (tk2 : Nat), go.cls = .type "generator" → go.data = .fields #[.int s1.gens.size 0, nm, qn] → go.slots = #[] → (∀ h : Heap, (h.push go).get? h.objs.size = some go) →
      GRMade P w (k + 1) outer H s E (.ref s1.heap.objs.size) { s1 with gens := s1.gens.push (.fresh (.func (st :: rest) (envOfC qual scope s.heap.objs.size f cdv))), toks := tk2, heap := s1.heap.push go } := by
    intro go nm qn tk2 hgc hgd0 hgs hgp
    have hgen : ∀ h : Heap, h.get? s1.heap.objs.size = some go → h.IsGen s1.heap.objs.size s1.gens.size := fun h e => ⟨go, nm, qn, e, hgc, hgd0, hgs⟩
    have hpushed : (s1.heap.push go).get? s1.heap.objs.size = some go := hgp _
    refine ⟨s1.heap.objs.size, s1.gens.size, _, rfl, sz1, ?_, hgen _ hpushed, Array.getElem?_push_size .., os1, ?_, lim1.keeps fun b o e => Heap.get?_push_of_some _ e, fun b o e => Heap.get?_push_of_some _ (kp1 b o e), ?_⟩
    · show _ < (s1.heap.push _).objs.size
      rw [Heap.size_push]; exact Nat.lt_succ_self _
    · exact AllBare.push (by rw [gen1]; exact e0.bare) rfl
    intro Aw s2 hrw hfr hk2 hos hba
    have e0w : Env0 P w K mg base Aw outer s H := ⟨hfr, e0.mod, e0.bs, e0.bsz, e0.funs, e0.frf, e0.hok, e0.bare⟩
    obtain ⟨t, ht, hq⟩ := hbody Aw outer s H vs E [(s1.heap.objs.size, go)] (hrw.deeper _) hsp
    have I1 : Inv (gcxOf P w K mg base N qual scope f cdv Aw outer s H E []) [] (start N vs) H s1 := inv_startG S hrw.hd e0w hl r x
    have kp2 : ∀ b o, s1.heap.get? b = some o → s2.heap.get? b = some o := fun b o e => hk2 b o (Heap.get?_push_of_some _ e)
    have I2 : Inv (gcxOf P w K mg base N qual scope f cdv Aw outer s H E []) [] (start N vs) H s2 :=
      I1.call' (ch := []) (hos.trans os1.symm) (Un.kept kp2) (I1.hok.kept kp2) hba fun b z => by simp at z
    have hea : s2.heap.get? s1.heap.objs.size = some go := hk2 s1.heap.objs.size go hpushed
    have hgd : ∀ v, go.data ≠ .cell v := fun v q => by rw [hgd0] at q; cases q
    have I3 : Inv (gcxOf P w K mg base N qual scope f cdv Aw outer s H E [(s1.heap.objs.size, go)]) [] (start N vs) H s2 := Inv.pinnedG I2 fun p hp => by
      rw [List.append_nil] at hp
      rw [List.mem_singleton.mp hp]
      exact ⟨hea, I1.hok.fresh (Nat.le_refl _), Nat.ne_of_gt lt1, I1.nofs (Nat.le_refl _), hgd⟩
    refine seg_func ?_
    refine seg_execs_cons ?_
    refine seg_wrap ?_
    rw [over_func]
    refine wpAny_mono (ht.run [] s2 (start N vs) H _ I3 hq) (fun fl s' hs => ?_) fun e s' hx => ?_
    · cases fl with
      | next => obtain ⟨_, _, _, q⟩ := hs; exact False.elim q
      | brk => obtain ⟨_, _, _, q⟩ := hs; exact False.elim q
      | cont => obtain ⟨_, _, _, q⟩ := hs; exact False.elim q
      | ret u => obtain ⟨_, _, _, _, _, q⟩ := hs; exact False.elim q
    · refine seg_wrap ?_
      rw [over_func]
      refine wpAny_mono (show wpAny (model P w) (Aw.deeper (envOfC qual scope s.heap.objs.size f cdv)) (leaving (envOfC qual scope s.heap.objs.size f cdv) e) (fun _ s'' => CX P w outer H s E e s'' ∧ ∀ p ∈ [(s1.heap.objs.size, go)], s''.heap.get? p.1 = some p.2) (fun _ _ => False) s' from hx) (fun _ s'' q => ?_) fun _ s'' q => q.elim
      exact seg_end (.error e) (.inr ⟨e, rfl, q.1, hgen _ (q.2 (s1.heap.objs.size, go) (List.mem_singleton.mpr rfl))⟩)
  exact main _ _ _ _ rfl rfl rfl fun h => Heap.get?_push_size _ rfl
/-- an expression whose value is a generator that raises when it is woken -/
abbrev TGr := L2.St → Hp → XK → Prop
structure PGenR (X : Cx) (k : Nat) (e : Expr) (tg : TGr) : Prop where
  run : ∀ (pins : List (Addr × Obj)) (s : Shared) (σ : L2.St) (H : Hp) (E : XK), Inv X pins σ H s → tg σ H E → wpAny (model X.prog X.w) X.A (eval e X.env)
    (fun u s' => ∃ H1 sc, Inv X pins σ H1 sc ∧ GRMade X.prog X.w k X.stack H1 sc E u s') X.xe s
def tForGR (K : PySem.W.Frag) (tg : TGr) (W : WX) : TS := fun D σ H => tg σ H fun cls d H' => PySem.W.subIn K cls (.type "StopIteration") = some false ∧ W cls d σ H'
theorem ps_forGR {X : Cx} {k : Nat} {tg iter : Expr} {body : List Stmt} {pos : Pos} {tr : TGr} {W : WX} (hp : PassesOwn (model X.prog X.w) X.A X.env X.xe) (hc : X.calm = true) (tkn : Takes X W) (h : PGenR X k iter tr) (hr : Room (k + 3) X.A)
    (hs : ∀ x, foldedSetIterable iter X.env x = pure x := by intro _; rfl) : PS X (.For tg iter body [] pos) (tForGR X.K tr W) := by
  refine ⟨fun pins s σ H D I hw => ?_⟩
  refine wpAny_For (thn (h.run pins s σ H _ I hw) fun v s1 h1 => ?_) hs
  obtain ⟨H1, sc, I1, a, g, c, rfl, ha1, ha2, hg, hgs, hos, hb, hl, hkp, wake⟩ := h1
  refine wpAny_pyIter_gen hg ?_
  refine codeAny_forLoop_any (fun n s' => s' = s1) (fun n s2 e => ?_) 0 rfl
  subst e
  refine wpAny_passesOwn hp ?_
  refine next_genG (P := X.prog) (w := X.w) (A := X.A) (F := fun _ _ _ => False) (Er := fun e s1' => CX X.prog X.w X.stack H1 sc (fun cls d H' => PySem.W.subIn X.K cls (.type "StopIteration") = some false ∧ W cls d σ H') e s1' ∧ s1'.heap.IsGen a g) (Y := fun _ _ _ _ _ => False) (n := 0) hr.hd hl (by have := hr.dp; omega) hg hgs ⟨rfl, ?_⟩ (fun _ _ _ _ q => q.elim) (fun _ q => q.elim) (fun e s₁ he => ?_)
  · refine wake _ _ ⟨hr.hd, ?_, ?_⟩ I1.ok.frames (fun b o e => e) hos (allBare_setGen hb rfl)
    · have := hr.dp
      show X.A.depth + 3 * k + 5 < _
      omega
    · have := hr.un
      show X.A.units + 1 + 16 * k + 200 < _
      omega
  · obtain ⟨hcx, hgen⟩ := he
    have kin : X.K.In s₁.heap := by
      obtain ⟨a', B, H', cls, d, _, fl, _, ub, _⟩ := id hcx
      refine I1.ok.mod.kin.keeps fun b o eb => fl.1 b o (ub.keep b o (I1.bs b o eb).1 (I1.bs b o eb).2 fun hm => ?_)
      rcases List.mem_cons.mp (I1.stkSub b hm) with z | z
      · have h1 := Heap.lt_size eb
        have h2 := Nat.le_trans I1.ok.bsz I1.ok.above
        rw [z] at h1
        exact absurd (Nat.lt_of_lt_of_le h1 h2) (Nat.lt_irrefl _)
      · exact I1.ok.nofr eb z
    refine ⟨hgen, notStop_of (fun cls d H' z => z.1) kin hcx, ?_⟩
    refine tkn e _ (XE.of_call I1 (E := fun cls d H' => PySem.W.subIn X.K cls (.type "StopIteration") = some false ∧ W cls d σ H') (fun _ _ _ h => h.2) ?_)
    obtain ⟨a', B, H', cls, d, z1, fl, z2, ub, z3, z4, z5, z6⟩ := hcx
    exact ⟨a', B, H', cls, d, z1, fl, z2, ub, z3, z4, allBare_setGen z5 rfl, z6⟩
end L2
namespace Pg
open PySem PySem.Spec PyProof.Rows L2
/-! ### generator methods that raise when they are woken -/
structure MGRAt (P : Program) (w : World) (K : PySem.W.Frag) (mg : Str → Option Value) (base : Heap) (C : Addr) (m qual : Str) (st : Stmt) (k : Nat) (ps : List Str) (sp : SpR) : Prop where
  ex : ∃ f fd, Meth K C m f ∧ Fun K m qual st f fd ∧ GRFn P w K mg base k f fd ps sp ∧ Binds K fd ps []
theorem MethAt.okGR {P : Program} {w : World} {K : PySem.W.Frag} {mg : Str → Option Value} {base : Heap} {C : Addr} {m qual : Str} {st b₀ : Stmt} {rest : List Stmt} {k : Nat} {ps N : List Str} {sp : SpR} (F : MethAt K C m qual st) (S : GScope N ps (defScope st)) (eb : defBody st = b₀ :: rest) (len : ∀ vs H E, sp vs H E → vs.length = ps.length)
    (hb : ∀ (kV doc pm : Value) (an : Option Addr) (cdv ct : Value) (us : List Value), us.length = ps.length → bindArgs (PySem.W.fnOf m qual (defArgs st) (defBody st) (defScope st) .none kV doc pm an cdv ct) ⟨us, []⟩ = pure (ps.zip us))
    (hbody : ∀ (f : Addr) (cdv : Value) (A : Around) (outer : List Env) (s : Shared) (H : Hp) (vs : List V) (E : XK) (pn : List (Addr × Obj)), Room k (A.deeper (envOfC qual (defScope st) s.heap.objs.size f cdv)) → sp vs H E →
      ∃ t, PS (gcxOf P w K mg base N qual (defScope st) f cdv A outer s H E pn) b₀ t ∧ t { nx := fun _ _ => False, rt := fun _ _ => False } (start N vs) H) : MGRAt P w K mg base C m qual st (k + 1) ps sp := by
  obtain ⟨f, fd, hm, F⟩ := F.ex
  refine ⟨f, fd, hm, F, ?_, F.binds hb⟩
  obtain ⟨oc, od, kV, doc, pm, an, cdv, ct, osl, rfl, lk, hcd⟩ := F.ex
  rw [eb] at lk ⊢
  exact grfn_of lk hcd S len fun A outer s H vs E pn hr h => hbody f cdv A outer s H vs E pn hr h
def GRunR (sp : SpR) (E : XK) : V → List V → Hp → Prop := fun x vs H2 => sp (x :: vs) H2 E
def tMethGR (C : Addr) (m : Str) (sp : SpR) (ta : TE) (t : TA) : TGr := fun σ H E => ta σ H (MethXE C m t (GRunR sp E) σ)
section
variable {X : Cx} {x y m qual : Str} {st : Stmt} {k i : Nat} {ps : List Str} {C : Addr} {e o : Expr} {es : List Expr} {t : TA} {ta : TE} {p p0 pos pos' apos : Pos}
theorem pgenR_meth {sp : SpR} {pl : Sem Bool} (he : PE X o ta) (T : Cls X.K C) (D : MGRAt X.prog X.w X.K X.mg X.base C m qual st k ps sp) (hr : Room k X.A) (ha : PA X (e :: es) t)
    (hst : starEach (e :: es) X.env = (false, eval e X.env) :: starEach es X.env := by rfl) (hpl : (backTo pos' (starEach es X.env)).any (·.1) = false := by rfl)
    (ht : eval (.Call (.Attribute o m apos) (e :: es) [] pos') X.env = (do
      let ov ← eval o X.env
      standAt apos.atName
      let (f, first) ← holding [ov] (getMethod ov m pl)
      callWith pos' f first (backTo pos' (starEach (e :: es) X.env)) (backToKw pos' (keywordEach [] X.env))) := by rfl) :
    PGenR X k (.Call (.Attribute o m apos) (e :: es) [] pos') (tMethGR C m sp ta t) := by
  obtain ⟨f, fd, hm, F, G, b⟩ := D.ex
  refine ⟨fun pins s σ H E I h => ?_⟩
  refine PySem.W.methodCall_KW (pl := pl) (thn (he.run pins s σ H _ I h) fun u s1 ⟨x, H1, I1, rx, a, dx, fs, ex, ea, l, q⟩ => ?_) ht
  subst ex
  obtain rfl : u = Value.ref a := rx
  refine getmeth_ok I1 ea T hm l ?_
  refine PySem.W.callWith_K (first := [.ref a]) (h₀ := X.base) I.ok.mod.kin hm.kp (thn (ha.run pos' pins s1 σ H1 _ I1 q) fun us s2 ⟨vs, H2, I2, r, q2⟩ => ⟨I2.kIn, ?_⟩) hst hpl
  have r2 : Vals (V.ref a :: vs) (Value.ref a :: us) := .cons rfl r
  refine wpAny_call (codeAny_mono (G.run X.A X.stack s2 H2 ⟨.ref a :: us, []⟩ (.ref a :: us) (.ref a :: vs) E hr I2.env0 (binds0 b r2 (G.len _ _ _ q2) I2.kIn) r2 q2) fun r s' hq => ?_)
  cases r with
  | error e => exact False.elim hq
  | ok fl =>
    cases fl with
    | ret u => exact ⟨H2, s2, I2, hq⟩
    | next => exact False.elim hq
    | brk => exact False.elim hq
    | cont => exact False.elim hq
theorem ps_forGRM {sp : SpR} {W : WX} {pl : Sem Bool} {tg : Expr} {body : List Stmt} (hp : PassesOwn (model X.prog X.w) X.A X.env X.xe) (hc : X.calm = true) (tkn : Takes X W) (he : PE X o ta) (T : Cls X.K C) (D : MGRAt X.prog X.w X.K X.mg X.base C m qual st k ps sp) (hr : Room (k + 3) X.A) (ha : PA X (e :: es) t)
    (hst : starEach (e :: es) X.env = (false, eval e X.env) :: starEach es X.env := by rfl) (hpl : (backTo pos' (starEach es X.env)).any (·.1) = false := by rfl)
    (ht : eval (.Call (.Attribute o m apos) (e :: es) [] pos') X.env = (do
      let ov ← eval o X.env
      standAt apos.atName
      let (f, first) ← holding [ov] (getMethod ov m pl)
      callWith pos' f first (backTo pos' (starEach (e :: es) X.env)) (backToKw pos' (keywordEach [] X.env))) := by rfl)
    (hs : ∀ x, foldedSetIterable (.Call (.Attribute o m apos) (e :: es) [] pos') X.env x = pure x := by intro _; rfl) :
    PS X (.For tg (.Call (.Attribute o m apos) (e :: es) [] pos') body [] pos) (tForGR X.K (tMethGR C m sp ta t) W) :=
  ps_forGR hp hc tkn (pgenR_meth he T D (hr.mono (by omega)) ha hst hpl ht) hr hs
theorem kc_forGR {K : PySem.W.Frag} {st : Stmt} {tg : TGr} {W : WX} (h : PS X st (tForGR X.K tg W)) (q : X.K = K) : PS X st (tForGR K tg W) := q ▸ h
/-! ### classmethods, classes held in a local -/
structure CMethAt (K : PySem.W.Frag) (C : Addr) (m qual : Str) (st : Stmt) : Prop where
  ex : ∃ p g fd mc, ClX.CRead K C mc ∧ ClX.CMet K C mc m p g ∧ Fun K m qual st g fd
structure CMDefAtX (P : Program) (w : World) (K : PySem.W.Frag) (mg : Str → Option Value) (base : Heap) (C : Addr) (m qual : Str) (st : Stmt) (k : Nat) (ps : List Str) (sp : Sp) : Prop where
  ex : ∃ p g fd mc, ClX.CRead K C mc ∧ ClX.CMet K C mc m p g ∧ Fun K m qual st g fd ∧ FnOk P w K mg base (L2.CX P w) k g fd ps sp ∧ Binds K fd ps []
theorem CMethAt.okX {P : Program} {w : World} {K : PySem.W.Frag} {mg : Str → Option Value} {base : Heap} {N : List Str} {sp : Sp} (F : CMethAt K C m qual st) (S : FnScope N ps (defScope st)) (len : ∀ vs H Q E, sp vs H Q E → vs.length = ps.length)
    (hb : ∀ (kV doc pm : Value) (an : Option Addr) (cdv ct : Value) (us : List Value), us.length = ps.length → bindArgs (PySem.W.fnOf m qual (defArgs st) (defBody st) (defScope st) .none kV doc pm an cdv ct) ⟨us, []⟩ = pure (ps.zip us))
    (hbody : ∀ (f : Addr) (cdv : Value) (A : Around) (outer : List Env) (s : Shared) (H : Hp) (vs : List V) (Q : VK) (E : XK), Room k (A.deeper (envOfC qual (defScope st) s.heap.objs.size f cdv)) → sp vs H Q E →
      ∃ t, PSs (cxOf (L2.CX P w) P w K mg base N qual (defScope st) f cdv A outer s H E) (defBody st) t ∧ t { nx := fun _ H' => Q .non H', rt := Q } (start N vs) H) : CMDefAtX P w K mg base C m qual st (k + 1) ps sp := by
  obtain ⟨p, g, fd, mc, h1, h2, F⟩ := F.ex
  exact ⟨p, g, fd, mc, h1, h2, F, F.okX S len (fun cdv A outer s H vs Q E hr h => hbody g cdv A outer s H vs Q E hr h), F.binds hb⟩
def CMetE (C : Addr) (t : TA) (R : V → List V → Hp → Prop) (σ : L2.St) : V → Hp → Prop := fun x H1 => x = .ref C ∧ t σ H1 (R (.ref C))
def tCMethX (C : Addr) (sp : Sp) (W : WX) (ta : TE) (t : TA) : TE := fun σ H Q => ta σ H (CMetE C t (MRunXE sp W σ Q) σ)
theorem pe_cmethX {sp : Sp} {W : WX} {pl : Sem Bool} (he : PE X o ta) (D : CMDefAtX X.prog X.w X.K X.mg X.base C m qual st k ps sp) (hr : Room k X.A) (tkn : Takes X W) (ha : PA X (e :: es) t)
    (hst : starEach (e :: es) X.env = (false, eval e X.env) :: starEach es X.env := by rfl) (hpl : (backTo pos (starEach es X.env)).any (·.1) = false := by rfl)
    (ht : eval (.Call (.Attribute o m apos) (e :: es) [] pos) X.env = (do
      let ov ← eval o X.env
      standAt apos.atName
      let (f, first) ← holding [ov] (getMethod ov m pl)
      callWith pos f first (backTo pos (starEach (e :: es) X.env)) (backToKw pos (keywordEach [] X.env))) := by rfl) :
    PE X (.Call (.Attribute o m apos) (e :: es) [] pos) (tCMethX C sp W ta t) := by
  obtain ⟨p, g, fd, mc, r, c, F, G, b⟩ := D.ex
  refine ⟨fun pins s σ H Q I h => ?_⟩
  refine PySem.W.methodCall_KW (pl := pl) (thn (he.run pins s σ H _ I h) fun u s1 ⟨x, H1, I1, rx, ex, q⟩ => ?_) ht
  subst ex
  obtain rfl : u = Value.ref C := rx
  refine ClX.getmethcm_ok I1 r c fun s2 I2 => ?_
  refine ClX.callwith_cm I2 (ClX.base_none I1 (Nat.le_refl _)) c.fi (thn (ha.run pos _ s2 σ H1 _ I2 q) fun us s3 ⟨vs, H2, I3, rv, q2⟩ => ⟨⟨ClX.pin_at I3, I3.kIn⟩, ?_⟩) hst hpl
  have r2 : Vals (V.ref C :: vs) (Value.ref C :: us) := .cons rfl rv
  have z : wpAny (model X.prog X.w) X.A (call (.ref s1.heap.objs.size) us) (EP X ((s1.heap.objs.size, PySem.W.methodObj (.ref g) (.ref C)) :: pins) σ Q) X.xe s3 := by
    refine wpAny_call (PySem.W.method_call (ClX.pin_at I3) (codeAny_mono (G.run X.A X.stack s3 H2 ⟨.ref C :: us, []⟩ (.ref C :: us) (.ref C :: vs) Q _ hr I3.env0 (binds0 b r2 (G.len _ _ _ _ q2) I3.kIn) r2 q2) fun q s' hq => ?_))
    cases q with
    | error e => exact (L2.passAt tkn σ) _ H2 s3 e s' I3 hq
    | ok fl =>
      cases fl with
      | ret u => exact I3.after hq
      | next => exact False.elim hq
      | brk => exact False.elim hq
      | cont => exact False.elim hq
  exact thn z fun _ _ y => ClX.unpinE y
def tMakeLX (i : Nat) (C : Addr) (sp : Sp) (W : WX) (t : TA) : TE := fun σ H Q => σ[i]? = some (some (.ref C)) ∧ tMakeX C sp W t σ H Q
theorem pe_makeLX {sp : Sp} {W : WX} (hv : PE X (.Name x p) (tVar i)) (T : ClsAt X.K X.mg y C) (D : MDefAtX X.prog X.w X.K X.mg X.base C "__init__" qual st k ps sp) (hr : Room (k + 1) X.A) (tkn : Takes X W) (ha : PA X (e :: es) t)
    (he : starEach (e :: es) X.env = (false, eval e X.env) :: starEach es X.env := by rfl) (hpl : (backTo pos (starEach es X.env)).any (·.1) = false := by rfl) :
    PE X (.Call (.Name x p) (e :: es) [] pos) (tMakeLX i C sp W t) := by
  obtain ⟨f, fd, hm, F, G, b⟩ := D.ex
  refine ⟨fun pins s σ H Q I h => ?_⟩
  obtain ⟨hs, h⟩ := h
  refine wpAny_Call_Name_kw (thn (hv.run pins s σ H (fun v H1 => v = .ref C ∧ H1 = H) I ⟨.ref C, hs, rfl, rfl⟩) fun u s1 ⟨v, H1, I1, r1, q1⟩ => ?_)
  obtain ⟨rfl, rfl⟩ := q1
  obtain rfl : u = Value.ref C := r1
  refine PySem.W.callWith_K (h₀ := X.base) I.ok.mod.kin T.kp (thn (ha.run pos pins s1 σ _ _ I1 h) fun us s2 ⟨vs, H2, I2, r, q⟩ => ⟨I2.kIn, ?_⟩) he hpl
  refine run_makeAt (us := us) ⟨T.mks, hm.at_, hm.fn, T.kp⟩ G hr (L2.passAt tkn σ) I2 (fun s' a hl hk => ?_) r q
  have r2 : Vals (V.ref a :: vs) (Value.ref a :: us) := .cons rfl r
  exact binds0 b r2 hl hk
end
section
variable {D : Ends} {σ : L2.St} {H : Hp} {K : PySem.W.Frag} {sp : Sp} {sr : SpR} {W : WX} {E : XK} {Q : VK} {C a : Addr} {m : Str} {i : Nat} {ta : TE} {t : TA} {tg : TGr} {y : V}
theorem w_forGR (h : tg σ H fun cls d H' => PySem.W.subIn K cls (.type "StopIteration") = some false ∧ W cls d σ H') : tForGR K tg W D σ H := h
theorem w_methGR (h : ta σ H (MethXE C m t (GRunR sr E) σ)) : tMethGR C m sr ta t σ H E := h
theorem w_grunR {vs : List V} (h : sr (y :: vs) H E) : GRunR sr E y vs H := h
theorem w_cmetX (h : ta σ H (CMetE C t (MRunXE sp W σ Q) σ)) : tCMethX C sp W ta t σ H Q := h
theorem w_cmetE {R : V → List V → Hp → Prop} (h : t σ H (R (.ref C))) : CMetE C t R σ (.ref C) H := ⟨rfl, h⟩
theorem w_makeLX (e : σ[i]? = some (some (.ref C))) (h : tMakeX C sp W t σ H Q) : tMakeLX i C sp W t σ H Q := ⟨e, h⟩
end
end Pg


/-! generators that sleep while other code runs: their states stay -/
namespace GenW
open PySem
open Sem (wp)
theorem no_runs {M : Model} {u : String} : ∀ {Γ : Ctx} {p : Pos} {fs : List Frame} {s s' : Shared} {e : End}, ¬ Runs M Γ p (.unsupported u) fs s e s' := by
  intro Γ p fs s s' e h
  generalize ht : (Sem.unsupported u : Sem PySem.Fin) = t at h
  induction h <;> cases ht <;> exact (by assumption : (Sem.unsupported u : Sem PySem.Fin) = Sem.unsupported u → False) rfl
def Susp : GenState → Bool
  | .suspended .. => true
  | _ => false
def stFrame (F : Frame) : Frame := .ret (fun _ => .unsupported "") none false [] F.where_.1 F.where_.2 []
/-- seen alike, but nobody can wake it -/
def stuck : GenState → GenState
  | .suspended _ l c p fs cl => .suspended (fun _ => .unsupported "") l c p (fs.map stFrame) cl
  | y => y
theorem st_where (F : Frame) : (stFrame F).where_ = F.where_ := rfl
theorem stuck_seen (y : GenState) : (stuck y).seen = y.seen := by
  cases y with
  | suspended k l c p fs cl =>
    show (GenStatus.suspended, some ((c, p) :: (fs.map stFrame).map Frame.where_)) = (GenStatus.suspended, some ((c, p) :: fs.map Frame.where_))
    rw [List.map_map]
    rfl
  | _ => rfl
theorem stuck_bare (y : GenState) : (stuck y).bare = y.bare := by cases y <;> rfl
theorem split_st : ∀ fs : List Frame, splitAtGen (fs.map stFrame) = none
  | [] => rfl
  | F :: fs => by
    show (splitAtGen (fs.map stFrame)).map _ = none
    rw [split_st fs]
    rfl
def pick (G : Array GenState) (i : Nat) (x : GenState) : GenState := match G[i]? with
  | some y => if Susp y = true then y else x
  | none => x
def mer (G W : Array GenState) : Array GenState := W.mapIdx (pick G)
def un (G : Array GenState) (s : Shared) : Shared := { s with gens := mer G s.gens }
structure Slp (G : Array GenState) (s : Shared) : Prop where
  sz : G.size ≤ s.gens.size
  old : ∀ (i : Nat) (y : GenState), G[i]? = some y → Susp y = true → s.gens[i]? = some (stuck y)
  fr : ∀ (i : Nat) k l c p fs cl, s.gens[i]? = some (.suspended k l c p fs cl) → splitAtGen fs = none
theorem mer_at {G W : Array GenState} {i : Nat} : (mer G W)[i]? = (W[i]?).map (pick G i) := by
  unfold mer
  rw [Array.getElem?_mapIdx]
theorem mer_size {G W : Array GenState} : (mer G W).size = W.size := by simp [mer]
theorem pick_new {G : Array GenState} {i : Nat} {x : GenState} (h : G.size ≤ i) : pick G i x = x := by
  unfold pick
  rw [Array.getElem?_eq_none h]
theorem mer_push {G W : Array GenState} {x : GenState} (h : G.size ≤ W.size) : mer G (W.push x) = (mer G W).push x := by
  apply Array.ext_getElem?
  intro i
  rw [mer_at, Array.getElem?_push, Array.getElem?_push, mer_at, mer_size]
  by_cases hi : i = W.size
  · rw [if_pos hi, if_pos hi, hi]
    show some (pick G W.size x) = some x
    rw [pick_new h]
  · rw [if_neg hi, if_neg hi]
theorem pick_no {G : Array GenState} {i : Nat} {x : GenState} (h : ∀ y, G[i]? = some y → Susp y = true → False) : pick G i x = x := by
  unfold pick
  split
  · rename_i y e
    rw [if_neg (fun z => h y e z)]
  · rfl
theorem mer_set {G W : Array GenState} {g : Nat} {x : GenState} (h : ∀ y, G[g]? = some y → Susp y = true → False) : mer G (W.setIfInBounds g x) = (mer G W).setIfInBounds g x := by
  apply Array.ext_getElem?
  intro i
  rw [mer_at, Array.getElem?_setIfInBounds, Array.getElem?_setIfInBounds, mer_at, mer_size]
  by_cases hi : g = i
  · subst hi
    rw [if_pos rfl, if_pos rfl]
    split
    · show some (pick G g x) = some x
      rw [pick_no h]
    · rfl
  · rw [if_neg hi, if_neg hi]
theorem un_set {G : Array GenState} {s : Shared} {g : Nat} {x : GenState} (h : ∀ y, G[g]? = some y → Susp y = true → False) : un G (s.setGen g x) = (un G s).setGen g x := by
  unfold un Shared.setGen
  rw [mer_set h]
theorem Slp.set {G : Array GenState} {s : Shared} {g : Nat} {x : GenState} (S : Slp G s) (h : ∀ y, G[g]? = some y → Susp y = true → False) (hx : ∀ k l c p fs cl, x = .suspended k l c p fs cl → splitAtGen fs = none) : Slp G (s.setGen g x) := by
  refine ⟨by rw [setGen_size]; exact S.sz, fun i y e z => ?_, fun i k l c p fs cl e => ?_⟩
  · show (s.gens.setIfInBounds g x)[i]? = _
    rw [Array.getElem?_setIfInBounds_ne (fun w => by subst w; exact h y e z)]
    exact S.old i y e z
  · have e : (s.gens.setIfInBounds g x)[i]? = some (.suspended k l c p fs cl) := e
    rw [Array.getElem?_setIfInBounds] at e
    split at e
    · split at e
      · exact hx k l c p fs cl (Option.some.inj e)
      · cases e
    · exact S.fr i k l c p fs cl e
theorem Slp.free {G : Array GenState} {s : Shared} {g : Nat} {x : GenState} (S : Slp G s) (e : s.gens[g]? = some x) (n : Susp x = false) : ∀ y, G[g]? = some y → Susp y = true → False := fun y e2 z => by
  have := S.old g y e2 z
  rw [e] at this
  cases this
  cases y with
  | suspended k l c p fs cl =>
    have n' : true = false := n
    cases n'
  | _ => cases z
theorem un_at {G : Array GenState} {s : Shared} {g : Nat} {x : GenState} (h : ∀ y, G[g]? = some y → Susp y = true → False) (e : s.gens[g]? = some x) : (un G s).gens[g]? = some x := by
  show (mer G s.gens)[g]? = some x
  rw [mer_at, e]
  show some (pick G g x) = some x
  rw [pick_no h]
/-- the state that is woken is none of those that sleep -/
theorem Slp.woken {M : Model} {Γ : Ctx} {p p₀ : Pos} {G : Array GenState} {s s₁ : Shared} {g : Nat} {k₀ : Resume → Sem PySem.Fin} {l₀ : List Value} {c₀ : Code} {fs : List Frame} {cl : Bool} {r : Resume} {e₁ : End} {sx : Shared} (S : Slp G s) (e : s.gens[g]? = some (.suspended k₀ l₀ c₀ p₀ fs cl))
    (h : Runs M Γ p (k₀ r) fs sx e₁ s₁) : ∀ y, G[g]? = some y → Susp y = true → False := fun y e2 z => by
  have := S.old g y e2 z
  rw [e] at this
  cases y with
  | suspended k l c p fs cl =>
    have e3 := Option.some.inj this
    unfold stuck at e3
    cases e3
    exact no_runs h
  | _ => cases z
def End.plain : End → Prop
  | .ret _ => True
  | .susp _ _ _ _ _ _ fs => splitAtGen fs = none
theorem plain_state {e : End} (h : End.plain e) : ∀ k l c p fs cl, e.genState = .suspended k l c p fs cl → splitAtGen fs = none := by
  cases e with
  | ret r => intro k l c p fs cl z; cases z
  | susp v g l k c p fs => intro k' l' c' p' fs' cl z; cases z; exact h
theorem split_app : ∀ {a b : List Frame}, splitAtGen a = none → splitAtGen b = none → splitAtGen (a ++ b) = none
  | [], b, _, h => h
  | .ret k h' g l c p kp :: a, b, ha, hb => by
    have ha' : splitAtGen a = none := by
      have : (splitAtGen a).map _ = none := ha
      exact Option.map_eq_none_iff.mp this
    show (splitAtGen (a ++ b)).map _ = none
    rw [split_app ha' hb]
    rfl
  | .gen .. :: a, b, ha, hb => by cases ha
theorem split_tail {F : Frame} {fs : List Frame} (h : splitAtGen (F :: fs) = none) : splitAtGen fs = none := by
  cases F with
  | ret k h' g l c p kp =>
    have : (splitAtGen fs).map _ = none := h
    exact Option.map_eq_none_iff.mp this
  | gen => cases h
theorem Slp.seen {G : Array GenState} {s : Shared} {g : Nat} {st : GenState} (S : Slp G s) (hg : s.gens[g]? = some st) : (pick G g st).seen = st.seen := by
  unfold pick
  split
  · rename_i y e2
    split
    · rename_i z
      have := S.old g y e2 z
      rw [hg] at this
      rw [Option.some.inj this, stuck_seen]
    · rfl
  · rfl
theorem un_get {G : Array GenState} {s : Shared} {g : Nat} {st : GenState} (hg : s.gens[g]? = some st) : (un G s).gens[g]? = some (pick G g st) := by
  show (mer G s.gens)[g]? = _
  rw [mer_at, hg]
  rfl
theorem un_size {G : Array GenState} {s : Shared} : (un G s).gens.size = s.gens.size := mer_size
theorem Slp.push {G : Array GenState} {s : Shared} {c : Code} (S : Slp G s) : Slp G { s with gens := s.gens.push (.fresh c) } := by
  refine ⟨by show G.size ≤ (s.gens.push _).size; rw [Array.size_push]; have := S.sz; omega, fun i y e z => ?_, fun i k l c p fs cl e => ?_⟩
  · show (s.gens.push _)[i]? = _
    have h1 := (Array.getElem?_eq_some_iff.mp (S.old i y e z)).1
    rw [Array.getElem?_push, if_neg (by omega)]
    exact S.old i y e z
  · have e : (s.gens.push _)[i]? = _ := e
    rw [Array.getElem?_push] at e
    split at e
    · cases e
    · exact S.fr i k l c p fs cl e
theorem un_push {G : Array GenState} {s : Shared} {c : Code} (S : Slp G s) : un G { s with gens := s.gens.push (.fresh c) } = { un G s with gens := (un G s).gens.push (.fresh c) } := by
  unfold un
  show ({ s with gens := mer G (s.gens.push (.fresh c)) } : Shared) = _
  rw [mer_push S.sz]
theorem runs_mer {M : Model} {G : Array GenState} {Γ : Ctx} {p : Pos} {t : Sem PySem.Fin} {fs : List Frame} {s s' : Shared} {e : End} (h : Runs M Γ p t fs s e s') : splitAtGen fs = none → Slp G s → Slp G s' ∧ End.plain e ∧ Runs M Γ p t fs (un G s) e (un G s') := by
  induction h with
  | done => exact fun _ S => ⟨S, trivial, .done⟩
  | raise => exact fun _ S => ⟨S, trivial, .raise⟩
  | again hq _ ih => exact fun f S => let ⟨a, b, c⟩ := ih rfl S; ⟨a, b, .again hq c⟩
  | rule _ ih => exact fun f S => let ⟨a, b, c⟩ := ih rfl S; ⟨a, b, .rule c⟩
  | «at» _ ih => exact fun f S => let ⟨a, b, c⟩ := ih rfl S; ⟨a, b, .at c⟩
  | load ho _ ih => exact fun f S => let ⟨a, b, c⟩ := ih rfl S; ⟨a, b, .load ho c⟩
  | update ho _ ih => exact fun f S => let ⟨a, b, c⟩ := ih rfl ⟨S.sz, S.old, S.fr⟩; ⟨a, b, .update ho c⟩
  | loadIfAlive _ ih => exact fun f S => let ⟨a, b, c⟩ := ih rfl S; ⟨a, b, .loadIfAlive c⟩
  | point _ ih => exact fun f S => let ⟨a, b, c⟩ := ih rfl S; ⟨a, b, .point c⟩
  | alloc _ ih => exact fun f S => let ⟨a, b, c⟩ := ih rfl ⟨S.sz, S.old, S.fr⟩; ⟨a, b, .alloc c⟩
  | fresh _ ih => exact fun f S => let ⟨a, b, c⟩ := ih rfl ⟨S.sz, S.old, S.fr⟩; ⟨a, b, .fresh c⟩
  | ask _ ih => exact fun f S => let ⟨a, b, c⟩ := ih rfl S; ⟨a, b, .ask c⟩
  | choose hn _ ih => exact fun f S => let ⟨a, b, c⟩ := ih rfl ⟨S.sz, S.old, S.fr⟩; ⟨a, b, .choose hn c⟩
  | os _ ih => exact fun f S => let ⟨a, b, c⟩ := ih rfl ⟨S.sz, S.old, S.fr⟩; ⟨a, b, .os c⟩
  | handled _ ih => exact fun f S => let ⟨a, b, c⟩ := ih rfl S; ⟨a, b, .handled c⟩
  | genState hg _ ih =>
    intro f S
    obtain ⟨a, b, c⟩ := ih rfl S
    exact ⟨a, b, .genState (un_get hg) (by rw [S.seen hg]; exact c)⟩
  | stack _ ih => exact fun f S => let ⟨a, b, c⟩ := ih rfl S; ⟨a, b, .stack c⟩
  | thread _ ih => exact fun f S => let ⟨a, b, c⟩ := ih rfl S; ⟨a, b, .thread c⟩
  | newGen _ ih =>
    intro f S
    obtain ⟨a, b, d⟩ := ih rfl S.push
    rw [un_push S] at d
    exact ⟨a, b, .newGen (by rw [un_size]; exact d)⟩
  | call _ _ ih1 ih2 => exact fun f S => let ⟨a, _, c⟩ := ih1 rfl S; let ⟨a2, b2, c2⟩ := ih2 rfl a; ⟨a2, b2, .call c c2⟩
  | callSusp _ ih => exact fun f S => let ⟨a, b, c⟩ := ih rfl S; ⟨a, split_app b rfl, .callSusp c⟩
  | yield => exact fun _ S => ⟨S, rfl, .yield⟩
  | resumeFresh hg _ hq _ ih1 ih2 =>
    intro f S
    have nf := S.free hg rfl
    obtain ⟨a, b, c⟩ := ih1 rfl (S.set nf (fun _ _ _ _ _ _ z => by cases z))
    obtain ⟨a2, b2, c2⟩ := ih2 rfl (a.set nf (plain_state b))
    rw [un_set nf] at c c2
    exact ⟨a2, b2, .resumeFresh (un_at nf hg) c hq c2⟩
  | resumeSuspended hg hr hq _ ih1 ih2 =>
    intro f S
    have nf := S.woken hg hr
    obtain ⟨a, b, c⟩ := ih1 (S.fr _ _ _ _ _ _ _ hg) (S.set nf (fun _ _ _ _ _ _ z => by cases z))
    obtain ⟨a2, b2, c2⟩ := ih2 rfl (a.set nf (plain_state b))
    rw [un_set nf] at c c2
    exact ⟨a2, b2, .resumeSuspended (un_at nf hg) c hq c2⟩
  | resumeJustStarted hg hv _ ih =>
    intro f S
    obtain ⟨a, b, c⟩ := ih rfl S
    exact ⟨a, b, .resumeJustStarted (un_at (S.free hg rfl) hg) hv c⟩
  | resumeThrowFresh hg _ ih =>
    intro f S
    have nf := S.free hg rfl
    obtain ⟨a, b, c⟩ := ih rfl (S.set nf (fun _ _ _ _ _ _ z => by cases z))
    rw [un_set nf] at c
    exact ⟨a, b, .resumeThrowFresh (un_at nf hg) c⟩
  | resumeRunning hg _ ih =>
    intro f S
    obtain ⟨a, b, c⟩ := ih rfl S
    exact ⟨a, b, .resumeRunning (un_at (S.free hg rfl) hg) c⟩
  | resumeFinished hg _ ih =>
    intro f S
    obtain ⟨a, b, c⟩ := ih rfl S
    exact ⟨a, b, .resumeFinished (un_at (S.free hg rfl) hg) c⟩
  | segRet _ _ ih1 ih2 =>
    intro f S
    obtain ⟨a, b, c⟩ := ih1 rfl S
    obtain ⟨a2, b2, c2⟩ := ih2 (split_tail f) a
    exact ⟨a2, b2, .segRet c c2⟩
  | segGen _ _ _ _ => exact fun f S => by cases f
  | segSuspOut hf _ ih =>
    intro f S
    obtain ⟨a, b, c⟩ := ih rfl S
    exact ⟨a, split_app b hf, .segSuspOut hf c⟩
  | segSuspGen hf _ _ _ _ _ => exact fun f S => by rw [hf] at f; cases f
theorem wakes_mer {M : Model} {G : Array GenState} {Γ : Ctx} {p : Pos} {g : Nat} {r : Resume} {s s' : Shared} {res : GenResult} (h : Wakes M Γ p g r s res s') (S : Slp G s) : Slp G s' ∧ Wakes M Γ p g r (un G s) res (un G s') := by
  unfold Wakes at h
  split at h
  · exact h.elim
  · rename_i c hg
    have nf := S.free hg rfl
    have hg' := un_at nf hg
    split at h
    · obtain ⟨e₁, s₁, hr, hq, rfl, rfl⟩ := h
      obtain ⟨a, b, d⟩ := runs_mer hr rfl (S.set nf (fun _ _ _ _ _ _ z => by cases z))
      rw [un_set nf] at d
      refine ⟨a.set nf (plain_state b), ?_⟩
      unfold Wakes
      rw [hg']
      exact ⟨e₁, _, d, hq, rfl, un_set nf⟩
    · rename_i hv
      obtain ⟨rfl, rfl⟩ := h
      refine ⟨S, ?_⟩
      unfold Wakes
      rw [hg']
      dsimp only
      split
      · rename_i z
        injection z with z
        exact absurd z hv
      · exact ⟨rfl, rfl⟩
      · rename_i z
        cases z
    · obtain ⟨rfl, rfl⟩ := h
      refine ⟨S.set nf (fun _ _ _ _ _ _ z => by cases z), ?_⟩
      unfold Wakes
      rw [hg']
      exact ⟨rfl, un_set nf⟩
  · rename_i hg
    obtain ⟨e₁, s₁, hr, hq, rfl, rfl⟩ := h
    have nf := S.woken hg hr
    obtain ⟨a, b, d⟩ := runs_mer hr (S.fr _ _ _ _ _ _ _ hg) (S.set nf (fun _ _ _ _ _ _ z => by cases z))
    rw [un_set nf] at d
    refine ⟨a.set nf (plain_state b), ?_⟩
    unfold Wakes
    rw [un_at nf hg]
    exact ⟨e₁, _, d, hq, rfl, un_set nf⟩
  · rename_i hg
    obtain ⟨rfl, rfl⟩ := h
    refine ⟨S, ?_⟩
    unfold Wakes
    rw [un_at (S.free hg rfl) hg]
    exact ⟨rfl, rfl⟩
  · rename_i hg
    obtain ⟨rfl, rfl⟩ := h
    refine ⟨S, ?_⟩
    unfold Wakes
    rw [un_at (S.free hg rfl) hg]
    exact ⟨rfl, rfl⟩
def Over {α : Type} (G : Array GenState) (Q : α → Pos → Shared → Prop) : α → Pos → Shared → Prop := fun a p s' => ∃ s1, Slp G s1 ∧ s' = un G s1 ∧ Q a p s1
theorem Slp.of {G : Array GenState} {s s' : Shared} (S : Slp G s) (h : s'.gens = s.gens) : Slp G s' := by
  obtain ⟨a, b, c⟩ := S
  exact ⟨by rw [h]; exact a, by rw [h]; exact b, by rw [h]; exact c⟩
theorem wp_mer {α : Type} {M : Model} {Γ : Ctx} {G : Array GenState} (t : Sem α) : ∀ (Q : α → Pos → Shared → Prop) (E : Value → Pos → Shared → Prop) (p : Pos) (s : Shared), Slp G s → wp M Γ t Q E p s → wp M Γ t (Over G Q) (Over G E) p (un G s) := by
  induction t with
  | pure a => intro Q E p s S h; exact ⟨s, S, rfl, h⟩
  | raise e => intro Q E p s S h; exact ⟨s, S, rfl, h⟩
  | unsupported _ => intro Q E p s _ h; exact h
  | finish _ => intro Q E p s _ h; exact h
  | rule _ k ih => intro Q E p s S h; exact ih () Q E p s S h
  | «at» p' k ih => intro Q E p s S h; exact ih () Q E p' s S h
  | load a _ k ih => intro Q E p s S h; obtain ⟨o, ho, h⟩ := h; exact ⟨o, ho, ih o Q E p s S h⟩
  | update a _ f k ih => intro Q E p s S h; exact ⟨h.1, ih () Q E p { s with heap := s.heap.update a f } (S.of rfl) h.2⟩
  | loadIfAlive a k ih => intro Q E p s S h; exact ih _ Q E p s S h
  | point _ k ih => intro Q E p s S h; exact ih () Q E p s S h
  | register _ _ => intro Q E p s _ h; exact h
  | alloc o k ih => intro Q E p s S h; exact ih s.heap.objs.size Q E p { s with heap := s.heap.push o } (S.of rfl) h
  | fresh k ih => intro Q E p s S h; exact ih s.toks Q E p { s with toks := s.toks + 1 } (S.of rfl) h
  | ask k ih => intro Q E p s S h; exact ih _ Q E p s S h
  | choose src m k ih => intro Q E p s S h; exact ⟨h.1, ih (M.w.draws src (s.drawn.get src) % m) Q E p { s with drawn := s.drawn.bump src } (S.of rfl) h.2⟩
  | os q _ k ih => intro Q E p s S h; exact ih (Os.step s.os q).2 Q E p { s with os := (Os.step s.os q).1 } (S.of rfl) h
  | call c hd _ _ k ih =>
    intro Q E p s S h
    obtain ⟨r, s', hr, h⟩ := h
    obtain ⟨a, _, d⟩ := runs_mer hr rfl S
    exact ⟨r, _, d, ih r Q E p s' a h⟩
  | handled own k ih => intro Q E p s S h; exact ih _ Q E p s S h
  | genState g k ih =>
    intro Q E p s S h
    obtain ⟨st, hg, h⟩ := h
    exact ⟨_, un_get hg, by rw [S.seen hg]; exact ih _ Q E p s S h⟩
  | newGen c k ih =>
    intro Q E p s S h
    have d := ih _ Q E p _ S.push h
    rw [un_push S] at d
    show wp M Γ (k (un G s).gens.size) (Over G Q) (Over G E) p { un G s with gens := (un G s).gens.push (.fresh c) }
    rw [un_size]
    exact d
  | resume g r _ k ih =>
    intro Q E p s S h
    obtain ⟨res, s', hw, h⟩ := h
    obtain ⟨a, d⟩ := wakes_mer hw S
    exact ⟨res, _, d, ih res Q E p s' a h⟩
  | yield _ _ _ _ => intro Q E p s _ h; exact h
  | stack k ih => intro Q E p s S h; exact ih _ Q E p s S h
  | fork _ _ => intro Q E p s _ h; exact h
  | thread k ih => intro Q E p s S h; exact ih _ Q E p s S h
  | await _ _ _ _ _ => intro Q E p s _ h; exact h
/-- all that are suspended sleep fast -/
def deep (s : Shared) : Shared := { s with gens := s.gens.map stuck }
theorem deep_slp (s : Shared) : Slp s.gens (deep s) := by
  refine ⟨by show s.gens.size ≤ (s.gens.map stuck).size; rw [Array.size_map]; exact Nat.le_refl _, fun i y e _ => ?_, fun i k l c p fs cl e => ?_⟩
  · show (s.gens.map stuck)[i]? = _
    rw [Array.getElem?_map, e]
    rfl
  · have e : (s.gens.map stuck)[i]? = _ := e
    rw [Array.getElem?_map] at e
    obtain ⟨y, _, e2⟩ := Option.map_eq_some_iff.mp e
    cases y with
    | suspended k' l' c' p' fs' cl' =>
      unfold stuck at e2
      cases e2
      exact split_st fs'
    | _ => cases e2
theorem un_deep (s : Shared) : un s.gens (deep s) = s := by
  have : mer s.gens (s.gens.map stuck) = s.gens := by
    apply Array.ext_getElem?
    intro i
    rw [mer_at, Array.getElem?_map]
    cases e : s.gens[i]? with
    | none => rfl
    | some y =>
      show some (pick s.gens i (stuck y)) = some y
      unfold pick
      rw [e]
      cases y <;> rfl
  show ({ s with gens := mer s.gens (s.gens.map stuck) } : Shared) = s
  rw [this]
/-- what sleeps stays as it is -/
def Stays (s s' : Shared) : Prop := ∀ (g : Nat) (y : GenState), s.gens[g]? = some y → Susp y = true → s'.gens[g]? = some y
theorem Stays.refl (s : Shared) : Stays s s := fun _ _ e _ => e
theorem Stays.trans {a b c : Shared} (h : Stays a b) (k : Stays b c) : Stays a c := fun g y e z => k g y (h g y e z) z
/-- s' is one of the states that Q speaks of, but for what sleeps -/
def Woke (s : Shared) (Q : Shared → Prop) (s' : Shared) : Prop := Stays s s' ∧ ∃ G, Q { s' with gens := G } ∧ (PyProof.Rows.AllBare s.gens → PyProof.Rows.AllBare G → PyProof.Rows.AllBare s'.gens)
theorem bare_deep {s : Shared} (h : PyProof.Rows.AllBare s.gens) : PyProof.Rows.AllBare (deep s).gens := fun y hy => by
  obtain ⟨z, hz, rfl⟩ := Array.mem_map.mp (show y ∈ s.gens.map stuck from hy)
  rw [stuck_bare]
  exact h z hz
theorem wpAny_deep {α : Type} {M : Model} {A : Around} {t : Sem α} {Q : α → Shared → Prop} {E : Value → Shared → Prop} {s : Shared} (h : wpAny M A t Q E (deep s)) :
    wpAny M A t (fun a s' => Woke s (Q a) s') (fun e s' => Woke s (E e) s') s := by
  have go : ∀ {φ : Shared → Prop} {s1 : Shared}, Slp s.gens s1 → φ s1 → Woke s φ (un s.gens s1) := fun {φ s1} S hq => by
    refine ⟨fun g y e z => ?_, s1.gens, hq, fun hb hG y hy => ?_⟩
    · show (mer s.gens s1.gens)[g]? = _
      rw [mer_at, S.old g y e z]
      show some (pick s.gens g (stuck y)) = _
      unfold pick
      rw [e]
      show some (if Susp y = true then y else stuck y) = some y
      rw [if_pos z]
    · obtain ⟨i, hi⟩ := Array.mem_iff_getElem?.mp (show y ∈ mer s.gens s1.gens from hy)
      rw [mer_at] at hi
      obtain ⟨x, hx, e⟩ := Option.map_eq_some_iff.mp hi
      unfold pick at e
      split at e
      · rename_i z ez
        split at e
        · rw [← e]; exact hb z (Array.mem_of_getElem? ez)
        · rw [← e]; exact hG x (Array.mem_of_getElem? hx)
      · rw [← e]; exact hG x (Array.mem_of_getElem? hx)
  intro Γ p hΓ
  have h2 := wp_mer t _ _ p (deep s) (deep_slp s) (h Γ p hΓ)
  rw [un_deep] at h2
  exact Sem.wp_mono M Γ t (fun a _ s' ⟨s1, S, e, q⟩ => by rw [e]; exact go S q) (fun a _ s' ⟨s1, S, e, q⟩ => by rw [e]; exact go S q) p s h2
end GenW

/-! generators whose consumer does other things between their turns: contexts that begin anew at each turn -/
namespace L2
open PySem PySem.Spec PyProof.Rows GenW
/-- the heap below an address -/
def cutH (L : Nat) (h : Heap) : Heap := ⟨h.objs.extract 0 L, h.life⟩
theorem cutH_get {L b : Nat} {h : Heap} : (cutH L h).get? b = if b < L then h.get? b else none := by
  have e : (h.objs.extract 0 L)[b]? = if b < L then h.objs[b]? else none := by
    by_cases hb : b < L
    · rw [if_pos hb]
      by_cases hs : b < h.objs.size
      · rw [Array.getElem?_extract, if_pos (by omega), Nat.zero_add]
      · rw [Array.getElem?_eq_none (by rw [Array.size_extract]; omega), Array.getElem?_eq_none (by omega)]
    · rw [if_neg hb, Array.getElem?_eq_none (by rw [Array.size_extract]; omega)]
  unfold Heap.get? cutH
  dsimp only
  rw [e]
  by_cases hb : b < L
  · rw [if_pos hb, if_pos hb]
  · rw [if_neg hb, if_neg hb]
theorem cutH_of {L : Nat} {h : Heap} {b : Addr} {o : Obj} (e : (cutH L h).get? b = some o) : b < L ∧ h.get? b = some o := by
  rw [cutH_get] at e
  split at e
  · rename_i hb
    exact ⟨hb, e⟩
  · cases e
theorem cutH_in {L : Nat} {h : Heap} {b : Addr} {o : Obj} (hb : b < L) (e : h.get? b = some o) : (cutH L h).get? b = some o := by
  rw [cutH_get, if_pos hb]
  exact e
theorem cutH_size {L : Nat} {h : Heap} : (cutH L h).objs.size ≤ L := by
  show (h.objs.extract 0 L).size ≤ L
  rw [Array.size_extract]
  omega
theorem cutH_big {L : Nat} {h : Heap} {n : Nat} (h1 : n ≤ L) (h2 : n ≤ h.objs.size) : n ≤ (cutH L h).objs.size := by
  show n ≤ (h.objs.extract 0 L).size
  rw [Array.size_extract]
  omega
theorem funs_cut {L : Nat} {base h : Heap} : ∀ {l : List Env}, (∀ b ∈ frs l, b < L) → h.FunFrames base l → (cutH L h).FunFrames base l
  | [], _, _ => trivial
  | env :: r, hl, ⟨hk, ⟨L', o, hf, hn, ho, hd⟩, hr⟩ => by
    have h1 : L' < L := hl L' (by unfold frs; rw [List.filterMap_cons, hf]; exact List.mem_cons_self)
    exact ⟨hk, ⟨L', o, hf, hn, cutH_in h1 ho, hd⟩, funs_cut (fun b hb => hl b (by unfold frs; rw [List.filterMap_cons, hf]; exact List.mem_cons_of_mem _ hb)) hr⟩
theorem frs_lt {base h : Heap} {l : List Env} (x : h.FunFrames base l) : ∀ b ∈ frs l, b < h.objs.size := fun b hb => by
  obtain ⟨_, o, ho, _⟩ := x.mem hb
  exact Heap.lt_size ho
/-- what a consumer does with each turn: at most n turns more than the first; ok: where a turn may begin; yd: what is handed out; rt: the end -/
structure GPost where
  n : Nat
  ok : Nat → Hp → Prop
  yd : Nat → V → Hp → Hp → Prop
  rt : Nat → Hp → Hp → Prop
abbrev SpN := List V → Hp → GPost → Prop
/-- the context of one turn: it began at s, H -/
def ncxOf (P : Program) (w : World) (K : PySem.W.Frag) (mg : Str → Option Value) (base : Heap) (N : List Str) (qual : Str) (scope : Scope) (f : Addr) (cd : Value) (A : Around) (outer : List Env) (L : Addr) (pn : Shared → List (Addr × Obj)) (s : Shared) (H : Hp) : Cx where
  prog := P
  w := w
  K := K
  mg := mg
  base := base
  A := A.deeper (envOfC qual scope L f cd)
  N := N
  s_0 := { s with heap := cutH L s.heap }
  H_0 := H
  env := envOfC qual scope L f cd
  outer := outer
  stack := envOfC qual scope L f cd :: outer
  ex := []
  calm := true
  fn := fun _ => true
  pn := pn s
  xe := fun _ _ => False
theorem owns_ncx {P : Program} {w : World} {K : PySem.W.Frag} {mg : Str → Option Value} {base : Heap} {N : List Str} {qual : Str} {scope : Scope} {f : Addr} {cd : Value} {A : Around} {outer : List Env} {L : Addr} {pn : Shared → List (Addr × Obj)} {s : Shared} {H : Hp} :
    PassesOwn (model P w) (ncxOf P w K mg base N qual scope f cd A outer L pn s H).A (ncxOf P w K mg base N qual scope f cd A outer L pn s H).env (ncxOf P w K mg base N qual scope f cd A outer L pn s H).xe := fun _ _ h => h.elim
theorem takes_ncx {P : Program} {w : World} {K : PySem.W.Frag} {mg : Str → Option Value} {base : Heap} {N : List Str} {qual : Str} {scope : Scope} {f : Addr} {cd : Value} {A : Around} {outer : List Env} {L : Addr} {pn : Shared → List (Addr × Obj)} {s : Shared} {H : Hp} :
    Takes (ncxOf P w K mg base N qual scope f cd A outer L pn s H) (fun _ _ _ _ => False) := fun _ _ ⟨_, _, _, _, _, _, _, _, _, _, _, _, _, _, _, _, h⟩ => h.elim
abbrev Tag := Nat → Shared → Hp → Prop
def Back (P : Program) (w : World) (outer : List Env) (L : Addr) (s₀ s1 : Shared) (H₀ H1 : Hp) : Prop := s1.os = s₀.os ∧ AllBare s1.gens ∧ Un (frs outer) [] H₀ H1 (cutH L s₀.heap) s1.heap ∧ HOk P w H1 s1.heap
def FN (P : Program) (w : World) (outer : List Env) (L : Addr) (pn : Shared → List (Addr × Obj)) (T : Tag) (G : GPost) : Nat → Shared → Shared → Prop := fun n s₀ s1 => ∃ H₀ H1, T n s₀ H₀ ∧ Back P w outer L s₀ s1 H₀ H1 ∧ (∀ p ∈ pn s₀, s1.heap.get? p.1 = some p.2 ∧ H1 p.1 = none) ∧ G.rt (G.n - n) H₀ H1
def NR (P : Program) (w : World) (outer : List Env) (L : Addr) (pn : Shared → List (Addr × Obj)) (T : Tag) (G : GPost) : GenEnd := fun n s₀ r s1 => ((r = .ok (.ret .none) ∨ r = .ok .next) ∧ FN P w outer L pn T G n s₀ s1) ∨ ∃ e, r = .error e ∧ False
def NY (P : Program) (w : World) (outer : List Env) (L : Addr) (pn : Shared → List (Addr × Obj)) (T : Tag) (G : GPost) : Protocol := fun m s₀ v s1 kap =>
  ∃ H₀ x H1 oL, T (m + 1) s₀ H₀ ∧ RelV x v ∧ Back P w outer L s₀ s1 H₀ H1 ∧ s1.heap.get? L = some oL ∧ (∀ v, oL.data ≠ .cell v) ∧ H1 L = none ∧ (∀ p ∈ pn s₀, s1.heap.get? p.1 = some p.2 ∧ H1 p.1 = none) ∧ s1.heap.NoLimit ∧ G.yd (G.n - (m + 1)) x H₀ H1 ∧
    ∀ s2 H2, T m s2 H2 → s2.heap.get? L = some oL → kap (.send .none) s2
def TagOk (P : Program) (w : World) (K : PySem.W.Frag) (mg : Str → Option Value) (base : Heap) (A : Around) (outer : List Env) (L : Addr) (pn : Shared → List (Addr × Obj)) (T : Tag) (G : GPost) : Prop :=
  ∀ n s H, T n s H → 1 ≤ n ∧ n ≤ G.n ∧ G.ok (G.n - n) H ∧ Env0 P w K mg base A outer s H ∧ H L = none ∧ ∀ p ∈ pn s, (s.heap.get? p.1 = some p.2 ∧ H p.1 = none) ∧ p.1 ≠ L ∧ p.1 ∉ frs outer ∧ ∀ v, p.2.data ≠ .cell v
/-- what stands fast about a generator's frame -/
structure NStat (N : List Str) (scope : Scope) (base : Heap) (A : Around) (outer : List Env) (L : Addr) (pn : Shared → List (Addr × Obj)) : Prop where
  kind : scope.kind = .function
  hd : A.handled = none
  nc : cellsFrom (L + 1) scope.names [] = []
  no : ∀ x, scope.names.lookup x ≠ some .cell ∧ scope.names.lookup x ≠ some .free
  bl : base.objs.size ≤ L
  fl : ∀ b ∈ frs outer, b < L
section
variable {P : Program} {w : World} {K : PySem.W.Frag} {mg : Str → Option Value} {base : Heap} {N : List Str} {qual : Str} {scope : Scope} {f : Addr} {cd : Value} {A : Around} {outer : List Env} {L : Addr} {pn : Shared → List (Addr × Obj)} {T : Tag} {G : GPost}
theorem ncx_ok (S : NStat N scope base A outer L pn) {s : Shared} {H : Hp} (e : Env0 P w K mg base A outer s H) : (ncxOf P w K mg base N qual scope f cd A outer L pn s H).Ok := by
  have nc : ∀ x c, (cellsFrom (L + 1) scope.names []).lookup x = some c → False := fun x c h => by
    rw [S.nc] at h
    cases h
  refine ⟨e.mod, S.kind, rfl, rfl, cutH_size, fun y z c h1 _ => (nc y c h1).elim, fun y hy => ?_, fun y c _ h => (nc y c h).elim, fun _ => S.hd, Around.frames_deeper e.frames, .inr ⟨rfl, rfl⟩, (fun b z => nomatch z), fun b o h => ?_, cutH_big S.bl e.bsz, (fun b _ _ z => nomatch z), (fun b z => nomatch z), funs_cut S.fl e.funs, e.frf⟩
  · have hy : scope.names.lookup y = some .cell ∨ scope.names.lookup y = some .free := hy
    rcases hy with hy | hy
    · exact absurd hy (S.no y).1
    · exact absurd hy (S.no y).2
  · obtain ⟨h1, h2⟩ := e.bs b o h
    exact ⟨cutH_in (Nat.lt_of_lt_of_le (Heap.lt_size h) S.bl) h1, h2⟩
/-- where the generator's names stand -/
def NLoc (N : List Str) (qual : Str) (scope : Scope) (L f : Addr) (cd : Value) (σ : L2.St) (h : Heap) : Prop := ∃ m, h.Ns L m ∧ ∀ (i : Nat) (x : Str) (v : V), N[i]? = some x → σ[i]? = some (some v) → Vis scope x → ∃ u, RelV v u ∧ Look (envOfC qual scope L f cd) h m x u
/-- the next turn begins: its own dict is as it was -/
theorem ncx_wake (S : NStat N scope base A outer L pn) {s1 s2 : Shared} {H2 : Hp} {σ : L2.St} {oL : Obj} (Il : NLoc N qual scope L f cd σ s1.heap) (Ilen : σ.length = N.length) (e1 : s1.heap.get? L = some oL)
    (e : Env0 P w K mg base A outer s2 H2) (e2 : s2.heap.get? L = some oL) (hL : H2 L = none) (hp : ∀ p ∈ pn s2, (s2.heap.get? p.1 = some p.2 ∧ H2 p.1 = none) ∧ p.1 ≠ L ∧ p.1 ∉ frs outer ∧ ∀ v, p.2.data ≠ .cell v) : Inv (ncxOf P w K mg base N qual scope f cd A outer L pn s2 H2) [] σ H2 s2 := by
  have nc : ∀ x c, (cellsFrom (L + 1) scope.names []).lookup x = some c → False := fun x c h => by
    rw [S.nc] at h
    cases h
  obtain ⟨m, ⟨o, es, ep, ho, r⟩, hl⟩ := Il
  have eo : o = oL := Option.some.inj (ho.symm.trans e1)
  subst eo
  refine ⟨ncx_ok S e, rfl, e.bare, Un.kept fun b u q => (cutH_of q).2, ⟨m, ⟨o, es, ep, e2, r⟩, fun i x v h1 h2 h3 => ?_⟩, fun x c h => (nc x c h).elim, hL, fun x c h => (nc x c h).elim, fun p hm => ?_, e.hok, Ilen⟩
  · obtain ⟨u, ru, l⟩ := hl i x v h1 h2 h3
    refine ⟨u, ru, ?_⟩
    rcases l with l | ⟨_, c, h, _⟩
    · exact .inl l
    · exact (nc x c h).elim
  · have hm : p ∈ pn s2 := by
      have hm : p ∈ pn s2 ++ [] := hm
      rwa [List.append_nil] at hm
    exact ⟨(hp p hm).1.1, (hp p hm).1.2, (hp p hm).2.1, (hp p hm).2.2.1, (hp p hm).2.2.2⟩
/-- ends of a statement: the turn's number, its heap at the beginning -/
structure GEn where
  nx : Nat → Hp → L2.St → Hp → Prop
  rt : Nat → Hp → VK
  bk : Nat → Hp → L2.St → Hp → Prop := fun _ _ _ _ => False
  ct : Nat → Hp → L2.St → Hp → Prop := fun _ _ _ _ => False
def GEn.at (D : GEn) (j : Nat) (H₀ : Hp) : Ends := { nx := D.nx j H₀, rt := D.rt j H₀, bk := D.bk j H₀, ct := D.ct j H₀ }
abbrev TGm := GPost → GEn → Nat → Hp → L2.St → Hp → Prop
structure NC (A : Around) (qual : Str) (scope : Scope) (L f : Addr) (cd : Value) (c : Code) (fs : List Frame) (gd : Bool → Bool) : Prop where
  over : A.over c fs = A.deeper (envOfC qual scope L f cd)
  split : splitAtGen fs = none
  guard : fs.any Frame.guarded = false
  gd : gd false = false
structure NK (P : Program) (w : World) (K : PySem.W.Frag) (mg : Str → Option Value) (base : Heap) (N : List Str) (qual : Str) (scope : Scope) (f : Addr) (cd : Value) (A : Around) (outer : List Env) (L : Addr) (pn : Shared → List (Addr × Obj)) (T : Tag) (G : GPost) (c : Code) (fs : List Frame) (k : Flow → Sem PySem.Fin) (D : GEn) : Prop where
  ok : ∀ (n : Nat) (s₀ : Shared) (H₀ : Hp) (s : Shared) (fl : Flow), n ≤ G.n → T n s₀ H₀ → SP (ncxOf P w K mg base N qual scope f cd A outer L pn s₀ H₀) [] (D.at (G.n - n) H₀) fl s → Seg (model P w) A (NR P w outer L pn T G) (NY P w outer L pn T G) n s₀ c (k fl) fs s
structure NS (P : Program) (w : World) (K : PySem.W.Frag) (mg : Str → Option Value) (base : Heap) (N : List Str) (qual : Str) (scope : Scope) (f : Addr) (cd : Value) (A : Around) (outer : List Env) (L : Addr) (pn : Shared → List (Addr × Obj)) (st : Stmt) (t : TGm) : Prop where
  run : ∀ (T : Tag) (G : GPost) (n : Nat) (s₀ : Shared) (H₀ : Hp) (c : Code) (fs : List Frame) (k : Flow → Sem PySem.Fin) (J : Value → Sem PySem.Fin) (gd : Bool → Bool) (lv : List Value → List Value) (s : Shared) (σ : L2.St) (H : Hp) (D : GEn),
    NStat N scope base A outer L pn → TagOk P w K mg base A outer L pn T G → NC A qual scope L f cd c fs gd → n ≤ G.n → T n s₀ H₀ → NK P w K mg base N qual scope f cd A outer L pn T G c fs k D → Inv (ncxOf P w K mg base N qual scope f cd A outer L pn s₀ H₀) [] σ H s → t G D (G.n - n) H₀ σ H →
    Seg (model P w) A (NR P w outer L pn T G) (NY P w outer L pn T G) n s₀ c ((exec st (envOfC qual scope L f cd)).wrap k J gd lv) fs s
structure NSs (P : Program) (w : World) (K : PySem.W.Frag) (mg : Str → Option Value) (base : Heap) (N : List Str) (qual : Str) (scope : Scope) (f : Addr) (cd : Value) (A : Around) (outer : List Env) (L : Addr) (pn : Shared → List (Addr × Obj)) (st : List Stmt) (t : TGm) : Prop where
  run : ∀ (T : Tag) (G : GPost) (n : Nat) (s₀ : Shared) (H₀ : Hp) (c : Code) (fs : List Frame) (k : Flow → Sem PySem.Fin) (J : Value → Sem PySem.Fin) (gd : Bool → Bool) (lv : List Value → List Value) (s : Shared) (σ : L2.St) (H : Hp) (D : GEn),
    NStat N scope base A outer L pn → TagOk P w K mg base A outer L pn T G → NC A qual scope L f cd c fs gd → n ≤ G.n → T n s₀ H₀ → NK P w K mg base N qual scope f cd A outer L pn T G c fs k D → Inv (ncxOf P w K mg base N qual scope f cd A outer L pn s₀ H₀) [] σ H s → t G D (G.n - n) H₀ σ H →
    Seg (model P w) A (NR P w outer L pn T G) (NY P w outer L pn T G) n s₀ c ((execs st (envOfC qual scope L f cd)).wrap k J gd lv) fs s
def tN0 (t : TS) : TGm := fun _ D j H₀ σ H => t (D.at j H₀) σ H
theorem ns_ps {st : Stmt} {t : TS} (h : ∀ s H, PS (ncxOf P w K mg base N qual scope f cd A outer L pn s H) st t) : NS P w K mg base N qual scope f cd A outer L pn st (tN0 t) := by
  refine ⟨fun T G n s₀ H₀ c fs k J gd lv s σ H D S tg g hn hT kk I ht => ?_⟩
  refine seg_wrap ?_
  rw [g.over]
  exact wpAny_mono ((h s₀ H₀).run _ s σ H _ I ht) (fun fl s' hs => kk.ok n s₀ H₀ s' fl hn hT hs) fun x s' hx => hx.elim
def tNil0 : TGm := fun _ D j H₀ σ H => D.nx j H₀ σ H
theorem nss_nil : NSs P w K mg base N qual scope f cd A outer L pn [] tNil0 := by
  refine ⟨fun T G n s₀ H₀ c fs k J gd lv s σ H D S tg g hn hT kk I ht => ?_⟩
  exact seg_execs_nil (kk.ok n s₀ H₀ s .next hn hT ⟨σ, H, I, ht⟩)
def tNThen (t u : TGm) : TGm := fun G D j H₀ σ H => t G { D with nx := fun j' H₀' σ' H' => u G D j' H₀' σ' H' } j H₀ σ H
theorem nss_cons {st : Stmt} {rest : List Stmt} {t u : TGm} (a : NS P w K mg base N qual scope f cd A outer L pn st t) (b : NSs P w K mg base N qual scope f cd A outer L pn rest u) : NSs P w K mg base N qual scope f cd A outer L pn (st :: rest) (tNThen t u) := by
  refine ⟨fun T G n s₀ H₀ c fs k J gd lv s σ H D S tg g hn hT kk I ht => ?_⟩
  refine seg_execs_cons ?_
  refine a.run T G n s₀ H₀ c fs _ J gd lv s σ H { D with nx := fun j' H₀' σ' H' => u G D j' H₀' σ' H' } S tg g hn hT ⟨fun n' s₀' H₀' s' fl hn' hT' hs => ?_⟩ I ht
  cases fl with
  | next =>
    obtain ⟨σ', H', I', q⟩ := hs
    exact b.run T G n' s₀' H₀' c fs k J gd lv s' σ' H' D S tg g hn' hT' kk I' q
  | brk => exact kk.ok n' s₀' H₀' s' .brk hn' hT' hs
  | cont => exact kk.ok n' s₀' H₀' s' .cont hn' hT' hs
  | ret u => exact kk.ok n' s₀' H₀' s' (.ret u) hn' hT' hs
def tNYield (te : TE) : TGm := fun G D j H₀ σ H => te σ H fun x H1 => G.yd j x H₀ H1 ∧ ∀ H2, G.ok (j + 1) H2 → D.nx (j + 1) H2 σ H2
theorem ns_yield {e : Expr} {yp pos : Pos} {te : TE} (he : ∀ s H, PE (ncxOf P w K mg base N qual scope f cd A outer L pn s H) e te) (hco : (envOfC qual scope L f cd).scope.isCoroutine = false := by rfl) (hi : interactive (envOfC qual scope L f cd) = false := by rfl) :
    NS P w K mg base N qual scope f cd A outer L pn (.Expr (.Yield (some e) yp) pos) (tNYield te) := by
  refine ⟨fun T G n s₀ H₀ c fs k J gd lv s σ H D S tg g hn hT kk I ht => ?_⟩
  have hlt := (tg n s₀ H₀ hT).1
  obtain ⟨m, rfl⟩ : ∃ m, n = m + 1 := ⟨n - 1, by omega⟩
  refine seg_Expr_Yield g.split g.gd g.guard ?_ hco hi
  rw [g.over]
  refine wpAny_mono ((he s₀ H₀).run _ s σ H _ I ht) (fun v s' hv => ?_) fun x s' hx => hx.elim
  obtain ⟨x, H1, I1, rv, hy, hn2⟩ := hv
  intro kap hk
  obtain ⟨mm, ⟨oL, es, ep, hoL, r⟩, _⟩ := id I1.loc
  refine ⟨H₀, x, H1, oL, hT, rv, ⟨I1.os, I1.bare, I1.base, I1.hok⟩, hoL, fun v q => ?_, I1.free, fun p hp => ?_, I1.nolimit, hy, fun s2 H2 hT2 e2 => hk .none s2 ?_⟩
  · have := r.1
    rw [this] at q
    cases q
  · have := I1.pin p (List.mem_append_left _ hp)
    exact ⟨this.1, this.2.1⟩
  · obtain ⟨_, q1, q2, q3, q4, q5⟩ := tg m s2 H2 hT2
    refine kk.ok m s2 H2 s2 .next q1 hT2 ⟨σ, H2, ncx_wake S I1.loc I1.len hoL q3 e2 q4 q5, ?_⟩
    have e3 : G.n - (m + 1) + 1 = G.n - m := by omega
    rw [e3] at hn2
    exact hn2 H2 q2
def tNWhile (c : TT) (tb : TGm) : TGm := fun G D j H₀ σ H => ∃ W : Nat → Nat → Hp → L2.St → Hp → Prop, (∃ m, W m j H₀ σ H) ∧ ∀ m j H₀ σ H, W m j H₀ σ H →
  c σ H fun b H1 => if b = true then ∃ M : Nat → Hp → L2.St → Hp → Prop, (∀ j' H₀' σ' H', M j' H₀' σ' H' → ∃ m', m' < m ∧ W m' j' H₀' σ' H') ∧ tb G { D with nx := M, ct := M, bk := D.nx } j H₀ σ H1 else D.nx j H₀ σ H1
theorem nc_loop {c c' : Code} {fs : List Frame} {gd : Bool → Bool} {k : Result → Sem PySem.Fin} {l kp : List Value} {p : Pos} (g : NC A qual scope L f cd c fs gd) (hw : c'.weight = 0) (hu : c'.cUnits = 0) : NC A qual scope L f cd c' (.ret k none (gd false) l c p kp :: fs) id where
  over := (over_loop hw hu).trans g.over
  split := by
    show (splitAtGen fs).map _ = none
    rw [g.split]; rfl
  guard := by
    show (gd false || fs.any Frame.guarded) = false
    rw [g.gd, g.guard]; rfl
  gd := rfl
theorem ns_while {test : Expr} {body : List Stmt} {pos : Pos} {tc : TT} {tb : TGm} (hc : ∀ s H, PT (ncxOf P w K mg base N qual scope f cd A outer L pn s H) test tc) (hb : NSs P w K mg base N qual scope f cd A outer L pn body tb) : NS P w K mg base N qual scope f cd A outer L pn (.While test body [] pos) (tNWhile tc tb) := by
  refine ⟨fun T G n s₀ H₀ c fs k J gd lv s σ H D S tg g hn hT kk I ht => ?_⟩
  obtain ⟨W, ⟨m0, w0⟩, turn⟩ := ht
  refine seg_While fun p => ?_
  have gl := fun (q : Result → Sem PySem.Fin) => nc_loop (k := q) (c' := .whileLoop test body [] (envOfC qual scope L f cd)) (l := lv []) (kp := []) (p := p) g rfl rfl
  have loop : ∀ (m n : Nat) (s₀ : Shared) (H₀ : Hp) (s : Shared) (σ : L2.St) (H : Hp), n ≤ G.n → T n s₀ H₀ → W m (G.n - n) H₀ σ H → Inv (ncxOf P w K mg base N qual scope f cd A outer L pn s₀ H₀) [] σ H s →
      Seg (model P w) A (NR P w outer L pn T G) (NY P w outer L pn T G) n s₀ (.whileLoop test body [] (envOfC qual scope L f cd)) ((model P w).den (.whileLoop test body [] (envOfC qual scope L f cd)))
        (.ret (fun r => ((match r with | .ok f => (.pure f : Sem Flow) | .error e => .raise e).onRaise (cameBack (envOfC qual scope L f cd))).wrap k J gd lv) none (gd false) (lv []) c p [] :: fs) s := by
    intro m
    induction m using Nat.strongRecOn with
    | ind m ih =>
      intro n s₀ H₀ s σ H hn hT w I
      refine seg_whileLoop ?_
      rw [(gl _).over]
      refine wpAny_mono ((hc s₀ H₀).run _ s σ H _ I (turn m (G.n - n) H₀ σ H w)) (fun b s' hb' => ?_) fun x s' hx => hx.elim
      obtain ⟨H2, I2, q2⟩ := hb'
      cases b with
      | true =>
        obtain ⟨M, hM, q2⟩ := q2
        rw [if_pos rfl]
        refine hb.run T G n s₀ H₀ _ _ _ _ id id s' σ H2 { D with nx := M, ct := M, bk := D.nx } S tg (gl _) hn hT ⟨fun n' s₀' H₀' s3 fl hn' hT' hs => ?_⟩ I2 q2
        cases fl with
        | next =>
          obtain ⟨σ3, H3, I3, n3⟩ := hs
          obtain ⟨m', hm, w3⟩ := hM _ _ σ3 H3 n3
          exact seg_again rfl (ih m' hm n' s₀' H₀' s3 σ3 H3 hn' hT' w3 I3)
        | cont =>
          obtain ⟨σ3, H3, I3, n3⟩ := hs
          obtain ⟨m', hm, w3⟩ := hM _ _ σ3 H3 n3
          exact seg_again rfl (ih m' hm n' s₀' H₀' s3 σ3 H3 hn' hT' w3 I3)
        | brk => exact seg_leaf (.ok .next) (kk.ok n' s₀' H₀' s3 .next hn' hT' hs)
        | ret v => exact seg_leaf (.ok (.ret v)) (kk.ok n' s₀' H₀' s3 (.ret v) hn' hT' hs)
      | false =>
        rw [if_neg Bool.false_ne_true]
        refine seg_execs_nil ?_
        exact seg_leaf (.ok .next) (kk.ok n s₀ H₀ s' .next hn hT ⟨σ, H2, I2, q2⟩)
  exact loop m0 n s₀ H₀ s σ H hn hT w0 I
end
/-! ### a call makes one -/
def NMade (P : Program) (w : World) (K : PySem.W.Frag) (mg : Str → Option Value) (base : Heap) (k : Nat) (outer : List Env) (s : Shared) (PG : GPost → Prop) (u : Value) (s' : Shared) : Prop :=
  ∃ (L a : Addr) (g : Nat) (c : Code) (go oL : Obj), u = .ref a ∧ s.heap.objs.size ≤ L ∧ L < a ∧ a < s'.heap.objs.size ∧ s'.heap.get? L = some oL ∧ (∀ v, oL.data ≠ .cell v) ∧ s'.heap.get? a = some go ∧ (∀ v, go.data ≠ .cell v) ∧ (∀ h : Heap, h.get? a = some go → h.IsGen a g) ∧
    s'.gens[g]? = some (.fresh c) ∧ s'.os = s.os ∧ AllBare s'.gens ∧ (∀ b o, s.heap.get? b = some o → s'.heap.get? b = some o) ∧
    ∀ (A : Around) (T : Tag) (G : GPost) (pn : Shared → List (Addr × Obj)), PG G → Room k A → A.frames = some outer → TagOk P w K mg base A outer L pn T G → ∀ s2 H2, T G.n s2 H2 → s2.heap.get? L = some oL →
      Seg (model P w) A (NR P w outer L pn T G) (NY P w outer L pn T G) G.n s2 c ((model P w).den c) [] s2
structure NFn (P : Program) (w : World) (K : PySem.W.Frag) (mg : Str → Option Value) (base : Heap) (k : Nat) (f : Addr) (fd : FuncData) (ps : List Str) (sp : SpN) : Prop where
  run : ∀ (A : Around) (outer : List Env) (s : Shared) (H : Hp) (args : Args) (us : List Value) (vs : List V), Room k A → Env0 P w K mg base A outer s H → BindsTo s fd args (ps.zip us) → Vals vs us → vs.length = ps.length →
    codeAny (model P w) A (.call (.ref f) args) (fun r s' => match r with | .ok (.ret u) => NMade P w K mg base k outer s (sp vs H) u s' | _ => False) s
theorem nfn_of {P : Program} {w : World} {K : PySem.W.Frag} {mg : Str → Option Value} {base : Heap} {k : Nat} {f : Addr} {name qual : Str} {params : Arguments} {body : List Stmt} {scope : Scope} {dV kV doc pm cdv ct oc : Value} {an od : Option Addr}
    {osl : Array (Option Value)} {N ps : List Str} {sp : SpN} (lk : K.lookup f = some ⟨oc, od, .func (PySem.W.fnOf name qual params body scope dV kV doc pm an cdv ct), osl⟩) (hcd : PySem.W.codeIn K cdv qual = true) (S : GScope N ps scope)
    (hnc : ∀ n, cellsFrom n scope.names [] = []) (hno : ∀ x, scope.names.lookup x ≠ some .cell ∧ scope.names.lookup x ≠ some .free)
    (hbody : ∀ (A : Around) (outer : List Env) (L : Addr) (pn : Shared → List (Addr × Obj)) (vs : List V) (H : Hp), Room k (A.deeper (envOfC qual scope L f cdv)) →
      ∃ t, NSs P w K mg base N qual scope f cdv A outer L pn body t ∧ ∀ G, sp vs H G → ∀ H₀, G.ok 0 H₀ → t G { nx := fun j H₀ _ H' => G.rt j H₀ H', rt := fun j H₀ v H' => v = .non ∧ G.rt j H₀ H' } 0 H₀ (start N vs) H₀) :
    NFn P w K mg base (k + 1) f (PySem.W.fnOf name qual params body scope dV kV doc pm an cdv ct) ps sp := by
  refine ⟨fun A outer s H args us vs hr e0 hb r hl => ?_⟩
  have KX : K.In s.heap := e0.mod.kin.keeps fun b o e => (e0.bs b o e).1
  have lim : s.heap.NoLimit := e0.mod.nolimit.keeps fun b o e => (e0.bs b o e).1
  have hkind : ∀ y ∈ ps.zip us, scope.names.lookup y.1 = some .local ∨ (scope.names.lookup y.1 = some .cell ∧ ((cellsFrom (s.heap.objs.size + 1) scope.names []).lookup y.1).isSome = true) := fun ⟨n, v⟩ hy => by
    rcases S.par n (List.of_mem_zip hy).1 with q | q
    · exact .inl q
    · exact absurd q (hno n).1
  refine codeAny_call_generator hr.depth (KX _ _ lk) rfl S.co S.gen rfl (PySem.W.codeRec_of KX hcd) (hb _ _ _ _ ?_)
  refine wpAny_newFunctionEnv_cells S.kind hkind fun env he s1 x => ?_
  subst he
  have lim1 : s1.heap.NoLimit := lim.keeps x.toInCall.keep
  refine ⟨lim1, ?_⟩
  obtain ⟨h1, tk, es1, hk1⟩ := x.done
  have os1 : s1.os = s.os := by rw [es1]
  have gen1 : s1.gens = s.gens := by rw [es1]
  have lt1 : s.heap.objs.size < s1.heap.objs.size := x.toInCall.ns.lt
  have kp1 : ∀ b o, s.heap.get? b = some o → s1.heap.get? b = some o := x.toInCall.keep
  have main : ∀ (go : Obj) (nm qn : Value) (tk2 : Nat), go.cls = .type "generator" → go.data = .fields #[.int s1.gens.size 0, nm, qn] → go.slots = #[] → (∀ h : Heap, (h.push go).get? h.objs.size = some go) →
      NMade P w K mg base (k + 1) outer s (sp vs H) (.ref s1.heap.objs.size) { s1 with gens := s1.gens.push (.fresh (.func body (envOfC qual scope s.heap.objs.size f cdv))), toks := tk2, heap := s1.heap.push go } := by
    intro go nm qn tk2 hgc hgd0 hgs hgp
    have hgen : ∀ h : Heap, h.get? s1.heap.objs.size = some go → h.IsGen s1.heap.objs.size s1.gens.size := fun h e => ⟨go, nm, qn, e, hgc, hgd0, hgs⟩
    have hgd : ∀ v, go.data ≠ .cell v := fun v q => by rw [hgd0] at q; cases q
    have I1 : Inv (gcxOf P w K mg base N qual scope f cdv A outer s H (fun _ _ _ => False) []) [] (start N vs) H s1 := inv_startG S hr.hd e0 hl r x
    obtain ⟨m, ⟨oL, es, ep, hoL, rL⟩, hlk⟩ := id I1.loc
    have hoL : s1.heap.get? s.heap.objs.size = some oL := hoL
    have hLd : ∀ v, oL.data ≠ .cell v := fun v q => by
      have := rL.1
      rw [this] at q
      cases q
    refine ⟨s.heap.objs.size, s1.heap.objs.size, s1.gens.size, _, go, oL, rfl, Nat.le_refl _, lt1, ?_, Heap.get?_push_of_some _ hoL, hLd, hgp _, hgd, hgen, Array.getElem?_push_size .., os1, ?_, fun b o e => Heap.get?_push_of_some _ (kp1 b o e), ?_⟩
    · show _ < (s1.heap.push _).objs.size
      rw [Heap.size_push]; exact Nat.lt_succ_self _
    · exact AllBare.push (by rw [gen1]; exact e0.bare) rfl
    intro Aw T G pn hPG hrw hfr tg s2 H2 hT e2
    obtain ⟨t, ht, hq⟩ := hbody Aw outer s.heap.objs.size pn vs H (hrw.deeper _)
    have St : NStat N scope base Aw outer s.heap.objs.size pn := ⟨S.kind, hrw.hd, hnc _, hno, e0.bsz, frs_lt e0.funs⟩
    obtain ⟨q0, q1, q2, q3, q4, q5⟩ := tg G.n s2 H2 hT
    have I2 : Inv (ncxOf P w K mg base N qual scope f cdv Aw outer s.heap.objs.size pn s2 H2) [] (start N vs) H2 s2 := ncx_wake St I1.loc I1.len hoL q3 e2 q4 q5
    rw [Nat.sub_self] at q2
    refine seg_func ?_
    refine ht.run T G G.n s2 H2 _ [] _ _ id id s2 (start N vs) H2 { nx := fun j H₀ _ H' => G.rt j H₀ H', rt := fun j H₀ v H' => v = .non ∧ G.rt j H₀ H' } St tg ⟨over_func, rfl, rfl, rfl⟩ (Nat.le_refl _) hT ⟨fun n s₀ H₀ s' fl hn hT' hs => ?_⟩ I2 (by rw [Nat.sub_self]; exact hq G hPG H2 q2)
    cases fl with
    | next =>
      obtain ⟨σ', H', I', hQ⟩ := hs
      exact seg_end (.ok (.ret .none)) (.inl ⟨.inl rfl, H₀, H', hT', ⟨I'.os, I'.bare, I'.base, I'.hok⟩, fun p hp => ⟨(I'.pin p (List.mem_append_left _ hp)).1, (I'.pin p (List.mem_append_left _ hp)).2.1⟩, hQ⟩)
    | brk => obtain ⟨_, _, _, q⟩ := hs; exact q.elim
    | cont => obtain ⟨_, _, _, q⟩ := hs; exact q.elim
    | ret u =>
      obtain ⟨v, σ', H', I', rv, ev, hQ⟩ := hs
      subst ev
      have eu : u = Value.none := rv
      subst eu
      exact seg_end (.ok (.ret .none)) (.inl ⟨.inl rfl, H₀, H', hT', ⟨I'.os, I'.bare, I'.base, I'.hok⟩, fun p hp => ⟨(I'.pin p (List.mem_append_left _ hp)).1, (I'.pin p (List.mem_append_left _ hp)).2.1⟩, hQ⟩)
  exact main _ _ _ _ rfl rfl rfl fun h => Heap.get?_push_size _ rfl
end L2

/-! a for over a generator, with a body -/
namespace L2
open PySem PySem.Spec PyProof.Rows GenW
section
variable {P : Program} {w : World} {A : Around} {s : Shared}
def KapN (M : Model) (A : Around) (R : GenEnd) (Y : Protocol) (gs : GenState) : Nat → Resume → Shared → Prop
  | 0 => fun _ _ => False
  | m + 1 => fun r s => gs.Goes M A R Y m r s
theorem wake_susp {M : Model} {R : GenEnd} {Y : Protocol} {n : Nat} {E : Value → Shared → Prop} {g : Nat} {gs : GenState}
    {r : Resume} {l : List Value} {α : Type} {k : GenResult → Sem α} {Q : α → Shared → Prop} (hg : s.gens[g]? = some gs)
    (hgo : gs.Goes M A R Y n r (s.setGen g .running))
    (hR : ∀ x s₁, R n (s.setGen g .running) x s₁ → wpAny M A (k (End.ret x).result) Q E (s₁.setGen g .finished))
    (hY : ∀ v s₁ gs', gs'.bare = true → Susp gs' = true → Y (n - 1) (s.setGen g .running) v s₁ (KapN M A R Y gs' n) →
      wpAny M A (k (.yielded v)) Q E (s₁.setGen g gs')) :
    wpAny M A (.resume g r l k) Q E s := by
  intro Γ p hΓ
  rw [Sem.wp_resume]
  have hB : ∀ c, (Γ.wake c p).Woken A := fun c => hΓ.wake c p
  have fin : ∀ e₁ s₁, SegEnd R Y n (Seg.next M A R Y n) (s.setGen g .running) e₁ s₁ →
      Sem.wp M Γ (k e₁.result) (fun a _ s' => Q a s') (fun e _ s' => E e s') p (s₁.setGen g e₁.genState) := by
    intro e₁ s₁ he
    cases e₁ with
    | ret x => exact hR x s₁ he Γ p hΓ
    | susp v g₀ l₀ k₀ c₀ p₀ fs₀ =>
      refine hY v s₁ _ (End.bare_of_quiet he.1) rfl ?_ Γ p hΓ
      cases n with
      | zero => exact he.2
      | succ m => exact he.2
  have hqt : ∀ e₁ s₁, SegEnd R Y n (Seg.next M A R Y n) (s.setGen g .running) e₁ s₁ → e₁.quiet = true := by
    intro e₁ s₁ he
    cases e₁ with
    | ret x => rfl
    | susp v g₀ l₀ k₀ c₀ p₀ fs₀ => exact he.1
  cases gs with
  | fresh c =>
    obtain ⟨rfl, hs⟩ := hgo
    obtain ⟨e₁, s₁, hr, he⟩ := seg_iff.mp hs (Γ.wake c p) p rfl (hB c)
    exact ⟨_, _, by unfold Wakes; rw [hg]; exact ⟨e₁, s₁, hr, hqt e₁ s₁ he, rfl, rfl⟩, fin e₁ s₁ he⟩
  | suspended k₀ l₀ c₀ p₀ fs₀ cl =>
    obtain ⟨e₁, s₁, hr, he⟩ := seg_iff.mp hgo (Γ.wake c₀ p) p₀ rfl (hB c₀)
    exact ⟨_, _, by unfold Wakes; rw [hg]; exact ⟨e₁, s₁, hr, hqt e₁ s₁ he, rfl, rfl⟩, fin e₁ s₁ he⟩
  | running => exact hgo.elim
  | finished => exact hgo.elim
theorem next_susp {E : Value → Shared → Prop} {a : Addr} {g n : Nat} {gs : GenState} {F : Nat → Shared → Shared → Prop} {Y : Protocol} {Q : Option Value → Shared → Prop} (hh : A.handled = none)
    (hl : s.heap.NoLimit) (hroom : A.depth < recursionLimit) (hg : s.heap.IsGen a g) (hgs : s.gens[g]? = some gs)
    (hgo : gs.Goes (model P w) A.in1 (fun n s₀ r s₁ => ((r = .ok (.ret .none) ∨ r = .ok .next) ∧ F n s₀ s₁) ∨ ∃ e, r = .error e ∧ False) Y n (.send .none) (s.setGen g .running))
    (hY : ∀ v s₁ gs', gs'.bare = true → Susp gs' = true → Y (n - 1) (s.setGen g .running) v s₁ (KapN (model P w) A.in1 (fun n s₀ r s₁ => ((r = .ok (.ret .none) ∨ r = .ok .next) ∧ F n s₀ s₁) ∨ ∃ e, r = .error e ∧ False) Y gs' n) → Q (some v) (s₁.setGen g gs'))
    (hP : ∀ s₁, F n (s.setGen g .running) s₁ → ∀ h', (∀ b o, s₁.heap.get? b = some o → h'.get? b = some o) → Q none { s₁.setGen g .finished with heap := h' }) :
    wpAny (model P w) A (pyNext (.ref a)) Q E s := by
  unfold pyNext
  refine wpAny_bind (wpAny_attempt (wpAny_callSpecial?_slot (name := Str.ofString "__next__") hg.typeIs slot_gen_next
    (wpAny_call_entry slot_gen_next hg.typeIs entry_gen_next ?_ (args_gen_next _))))
  show wpAny _ A.in1 (Builtin.Generator.genWake (.ref a) (.send .none)) _ _ s
  unfold Builtin.Generator.genWake
  refine wpAny_bind (wpAny_holding (wpAny_genNumber hg (wpAny_bind (wpAny_genState hgs ?_))))
  cases gs with
  | running => exact hgo.elim
  | finished => exact hgo.elim
  | _ =>
    refine wpAny_bind (wpAny_roomToWake hl hroom ?_)
    show wpAny _ A.in1 (.resume g (.send .none) [] _) _ _ s
    refine wake_susp hgs hgo (fun x s₁ hx => ?_) (fun v s₁ gs' hb hsu hv => ?_)
    · rcases hx with ⟨hr, hp⟩ | ⟨e, rfl, he⟩
      · have hres : End.result (.ret x) = .returned .none := by
          rcases hr with hr | hr <;> rw [hr] <;> rfl
        first | rw [hres] | simp only [hres]
        show wpAny _ A.in1 (newExc (.type "StopIteration") [] >>= _) _ _ _
        refine wpAny_bind ?_
        simp only [newExc, newTuple]
        refine wpAny_bind (wpAny_newObj_type ?_ (by size_fits))
        refine wpAny_bind (m := firstArgMember _ _) (wpAny_of_eq (a := Value.none) (by first | rfl | (simp only [firstArgMember]; rfl)) ?_)
        refine wpAny_newObj_type ?_ (by size_fits)
        simp only [raiseNew]
        refine wpAny_bind (wpAny_bind (wpAny_handled ?_))
        first | rw [show A.in1.handled = none from hh] | rw [hh]
        refine wpAny_throw ?_
        refine wpAny_bind (wpAny_isInstance (T := "StopIteration") (b := true) ⟨_, Heap.get?_push_size _ rfl, rfl⟩ isSubtype_stop ?_)
        exact wpAny_pure (hP s₁ hp _ fun b o hb => Heap.get?_push_of_some _ (Heap.get?_push_of_some _ hb))
      · exact he.elim
    · exact wpAny_pure ⟨v, rfl, wpAny_pure (hY v s₁ gs' hb hsu hv)⟩
end
section
variable {X : Cx} {pins : List (Addr × Obj)} {σ : L2.St} {H H1 : Hp} {s s' : Shared}
theorem Inv.regen {G : Array GenState} (I : Inv X pins σ H s) (h : AllBare G) : Inv X pins σ H { s with gens := G } := ⟨I.ok, I.os, h, I.base, I.loc, I.cell, I.free, I.freeC, I.pin, I.hok, I.len⟩
theorem Inv.deep (I : Inv X pins σ H s) : Inv X pins σ H (deep s) := I.regen (bare_deep I.bare)
theorem Inv.woke {G : Array GenState} (I : Inv X pins σ H { s with gens := G }) (h : AllBare s.gens) : Inv X pins σ H s := ⟨I.ok, I.os, h, I.base, I.loc, I.cell, I.free, I.freeC, I.pin, I.hok, I.len⟩
/-- behind a turn of a generator -/
theorem Inv.back {L : Nat} {s1 : Shared} (I : Inv X pins σ H s) (h0 : X.env.locals < L) (hc : ∀ x c, X.env.cells.lookup x = some c → c < L) (hp : ∀ p ∈ X.pn ++ pins, p.1 < L) (B : Back X.prog X.w X.stack L s s1 H H1) : Inv X pins σ H1 s1 := by
  obtain ⟨os, bare, un, hok⟩ := B
  have mem : ∀ b : Nat, b ∈ List.range' L (s.heap.objs.size - L) ↔ L ≤ b ∧ b < s.heap.objs.size := fun b => by
    rw [List.mem_range'_1]
    constructor
    · rintro ⟨h1, h2⟩
      exact ⟨h1, by omega⟩
    · rintro ⟨h1, h2⟩
      exact ⟨h1, by omega⟩
  have cut : ∀ b o, s.heap.get? b = some o → b ∉ List.range' L (s.heap.objs.size - L) → (cutH L s.heap).get? b = some o := fun b o e hx => by
    have h1 := Heap.lt_size e
    refine cutH_in ?_ e
    exact Nat.lt_of_not_le fun z => hx ((mem b).mpr ⟨z, h1⟩)
  have u : Un (frs X.stack) (List.range' L (s.heap.objs.size - L)) H H1 s.heap s1.heap :=
    ⟨fun b o q n hb hx => un.keep b o (cut b o q hx) n hb (by simp), fun b o q n hb hx => un.slot b o (cut b o q hx) n hb (by simp), fun b o q n hx => un.free b o (cut b o q hx) n (by simp), fun b o q hx => un.there b o (cut b o q hx) (by simp), un.tups, un.frzs, un.tbls⟩
  refine I.call' os u hok bare fun b hb => ?_
  have hb1 := ((mem b).mp hb).1
  have h2 := I.ok.above
  refine ⟨.inr (Nat.le_trans h2 (Nat.le_trans (Nat.le_of_lt h0) hb1)), fun z => Nat.lt_irrefl _ (Nat.lt_of_lt_of_le (z ▸ h0) hb1), fun x c e z => ?_, fun p hm z => ?_⟩
  · exact Nat.lt_irrefl _ (Nat.lt_of_lt_of_le (z ▸ hc x c e) hb1)
  · exact Nat.lt_irrefl _ (Nat.lt_of_lt_of_le (z ▸ hp p hm) hb1)
end
theorem PSs.stays {X : Cx} {body : List Stmt} {tb : TS} (hb : PSs X.nox body tb) {pins : List (Addr × Obj)} {σ : L2.St} {H : Hp} {s : Shared} {D : Ends} (I : Inv X pins σ H s) (h : tb D σ H) :
    wpAny (model X.prog X.w) X.A (execs body X.env) (fun f s' => SP X pins D f s' ∧ Stays s s') (fun _ _ => False) s := by
  refine wpAny_mono (wpAny_deep (hb.run pins (deep s) σ H D ((I.wish _).deep) h)) (fun f s' hw => ?_) fun e s' hw => ?_
  · obtain ⟨st, G, q, hbr⟩ := hw
    refine ⟨?_, st⟩
    cases f with
    | next => obtain ⟨σ', H', I', q⟩ := q; exact ⟨σ', H', I'.unwish.woke (hbr I.bare I'.bare), q⟩
    | brk => obtain ⟨σ', H', I', q⟩ := q; exact ⟨σ', H', I'.unwish.woke (hbr I.bare I'.bare), q⟩
    | cont => obtain ⟨σ', H', I', q⟩ := q; exact ⟨σ', H', I'.unwish.woke (hbr I.bare I'.bare), q⟩
    | ret u => obtain ⟨v, σ', H', I', r, q⟩ := q; exact ⟨v, σ', H', I'.unwish.woke (hbr I.bare I'.bare), r, q⟩
  · obtain ⟨_, _, q, _⟩ := hw
    exact q.elim
theorem PG.stays {X : Cx} {tg : Expr} {g : TG} (hg : PG X.nox tg g) {pins : List (Addr × Obj)} {σ : L2.St} {H : Hp} {s : Shared} {v : V} {u : Value} {Q : L2.St → Hp → Prop} (I : Inv X pins σ H s) (r : RelV v u) (h : g v σ H Q) :
    wpAny (model X.prog X.w) X.A (assign tg X.env u) (fun _ s' => (∃ σ' H', Inv X pins σ' H' s' ∧ Q σ' H') ∧ Stays s s') (fun _ _ => False) s := by
  refine wpAny_mono (wpAny_deep (hg.run pins (deep s) σ H v u Q ((I.wish _).deep) r h)) (fun f s' hw => ?_) fun e s' hw => ?_
  · obtain ⟨st, G, ⟨σ', H', I', q⟩, hbr⟩ := hw
    exact ⟨⟨σ', H', I'.unwish.woke (hbr I.bare I'.bare), q⟩, st⟩
  · obtain ⟨_, _, q, _⟩ := hw
    exact q.elim
abbrev TGenN := L2.St → Hp → ((GPost → Prop) → Hp → Prop) → Prop
structure PGenN (X : Cx) (k : Nat) (e : Expr) (tg : TGenN) : Prop where
  run : ∀ (pins : List (Addr × Obj)) (s : Shared) (σ : L2.St) (H : Hp) (C : (GPost → Prop) → Hp → Prop), Inv X pins σ H s → tg σ H C → wpAny (model X.prog X.w) X.A (eval e X.env)
    (fun u s' => ∃ H1 sc PG, Inv X pins σ H1 sc ∧ NMade X.prog X.w X.K X.mg X.base k X.stack sc PG u s' ∧ C PG H1) X.xe s
/-- the consumer's wish: n turns at most, Pv ahead of each -/
def forG (n : Nat) (Pv : Nat → L2.St → Hp → Prop) (D : Ends) (g : TG) (tb : TS) : GPost where
  n := n + 1
  ok := fun j H => ∃ σ, Pv j σ H
  yd := fun j x H1 H2 => j < n ∧ ∀ σ, Pv j σ H1 → g x σ H2 fun σ2 H3 => tb { D with nx := Pv (j + 1), ct := Pv (j + 1), bk := D.nx } σ2 H3
  rt := fun j H1 H2 => ∀ σ, Pv j σ H1 → D.nx σ H2
def tForN (tr : TGenN) (g : TG) (tb : TS) : TS := fun D σ H => tr σ H fun PG H1 => ∃ (n : Nat) (Pv : Nat → L2.St → Hp → Prop), Pv 0 σ H1 ∧ PG (forG n Pv D g tb)
theorem ps_forN {X : Cx} {k : Nat} {tg iter : Expr} {body : List Stmt} {pos : Pos} {tr : TGenN} {g : TG} {tb : TS} (hp : PassesOwn (model X.prog X.w) X.A X.env X.xe) (hc : X.calm = true) (h : PGenN X k iter tr) (hr : Room (k + 3) X.A) (hg : PG X.nox tg g) (hb : PSs X.nox body tb)
    (hs : ∀ x, foldedSetIterable iter X.env x = pure x := by intro _; rfl) : PS X (.For tg iter body [] pos) (tForN tr g tb) := by
  refine ⟨fun pins s σ H D I hw => ?_⟩
  refine wpAny_For (thn (h.run pins s σ H _ I hw) fun v s1 h1 => ?_) hs
  obtain ⟨H1, sc, PG, I1, ⟨L, a, gn, c, go, oL, rfl, hL1, hLa, ha2, eL, dL, ea, da, hgen, hgs, hos, hbr, kp, wake⟩, n, Pv, p0, hPG⟩ := h1
  have hL0 : X.env.locals < L := Nat.lt_of_lt_of_le I1.lt hL1
  have hLc : ∀ x c, X.env.cells.lookup x = some c → c < L := fun x c e => by
    obtain ⟨v, o, ho, _⟩ := I1.cell x c e
    exact Nat.lt_of_lt_of_le (Heap.lt_size ho) hL1
  have hLp : ∀ p ∈ X.pn ++ pins, p.1 < L := fun p hp => Nat.lt_of_lt_of_le (Heap.lt_size (I1.pin p hp).1) hL1
  have hfs : ∀ b ∈ X.fs, b < L := fun b hb => Nat.lt_of_lt_of_le (frs_lt I1.funs b hb) hL1
  have hst : ∀ b ∈ frs X.stack, b < L := fun b hb => Nat.lt_of_lt_of_le (frs_lt I1.env0.funs b hb) hL1
  have nofs : ∀ b, L ≤ b → b ∉ X.fs := fun b hb z => absurd (hfs b z) (Nat.not_lt.mpr hb)
  have I2 : Inv X pins σ H1 s1 := I1.call' (ch := []) hos (Un.kept kp) (I1.hok.kept kp) hbr fun b z => by simp at z
  have hHL : H1 L = none := I1.hok.fresh hL1
  have hHa : H1 a = none := I1.hok.fresh (Nat.le_trans hL1 (Nat.le_of_lt hLa))
  have pinned : ∀ {oL' : Obj} {σ' : L2.St} {H' : Hp} {s' : Shared}, Inv X pins σ' H' s' → s'.heap.get? L = some oL' → (∀ v, oL'.data ≠ .cell v) → H' L = none → s'.heap.get? a = some go → H' a = none → Inv X ((L, oL') :: (a, go) :: pins) σ' H' s' := fun {oL' σ' H' s'} J e d n e2 n2 => J.pins_of fun p hp => by
    rcases List.mem_cons.mp hp with z | hp
    · rw [z]
      exact ⟨e, n, Nat.ne_of_gt hL0, nofs L (Nat.le_refl _), d⟩
    rcases List.mem_cons.mp hp with z | hp
    · rw [z]
      exact ⟨e2, n2, Nat.ne_of_gt (Nat.lt_trans hL0 hLa), nofs a (Nat.le_of_lt hLa), da⟩
    · exact J.pin p (List.mem_append_right _ hp)
  have unpin : ∀ {oL' : Obj} {σ' : L2.St} {H' : Hp} {s' : Shared}, Inv X ((L, oL') :: (a, go) :: pins) σ' H' s' → Inv X pins σ' H' s' ∧ s'.heap.get? L = some oL' ∧ H' L = none ∧ s'.heap.get? a = some go ∧ H' a = none := fun {oL' σ' H' s'} J => by
    have q1 := J.pin (L, oL') (List.mem_append_right _ List.mem_cons_self)
    have q2 := J.pin (a, go) (List.mem_append_right _ (List.mem_cons_of_mem _ List.mem_cons_self))
    exact ⟨J.pins_of fun p hp => J.pin p (List.mem_append_right _ (List.mem_cons_of_mem _ (List.mem_cons_of_mem _ hp))), q1.1, q1.2.1, q2.1, q2.2.1⟩
  obtain ⟨G, hG⟩ : ∃ G, G = forG n Pv D g tb := ⟨_, rfl⟩
  have hGn : G.n = n + 1 := by rw [hG]; rfl
  have hGok : G.ok = fun j H => ∃ σ, Pv j σ H := by rw [hG]; rfl
  have hGyd : ∀ j x H1 H2, G.yd j x H1 H2 → j < n ∧ ∀ σ, Pv j σ H1 → g x σ H2 fun σ2 H3 => tb { D with nx := Pv (j + 1), ct := Pv (j + 1), bk := D.nx } σ2 H3 := by rw [hG]; exact fun _ _ _ _ z => z
  have hGrt : ∀ j H1 H2, G.rt j H1 H2 → ∀ σ, Pv j σ H1 → D.nx σ H2 := by rw [hG]; exact fun _ _ _ z => z
  rw [← hG] at hPG
  clear hG
  obtain ⟨T, hT⟩ : ∃ T : Tag, T = fun m s H => 1 ≤ m ∧ m ≤ n + 1 ∧ ∃ σ oL, Inv X ((L, oL) :: (a, go) :: pins) σ H s ∧ Pv (n + 1 - m) σ H := ⟨_, rfl⟩
  have Tm : ∀ {m : Nat} {s : Shared} {H : Hp} {σ : L2.St} {oL : Obj}, 1 ≤ m → m ≤ n + 1 → Inv X ((L, oL) :: (a, go) :: pins) σ H s → Pv (n + 1 - m) σ H → T m s H := fun h1 h2 J p => by
    rw [hT]
    exact ⟨h1, h2, _, _, J, p⟩
  have Tg : ∀ {m : Nat} {s : Shared} {H : Hp}, T m s H → 1 ≤ m ∧ m ≤ n + 1 ∧ ∃ σ oL, Inv X ((L, oL) :: (a, go) :: pins) σ H s ∧ Pv (n + 1 - m) σ H := fun z => by
    rw [hT] at z
    exact z
  clear hT
  have hd : X.A.handled = none := I1.ok.hd hc
  have tag : TagOk X.prog X.w X.K X.mg X.base X.A.in1 X.stack L (fun _ => [(a, go)]) T G := fun m s' H' z => by
    obtain ⟨h1, h2, σ', oL', J, p⟩ := Tg z
    obtain ⟨J', q1, q2, q3, q4⟩ := unpin J
    refine ⟨h1, by rw [hGn]; exact h2, by rw [hGok, hGn]; exact ⟨σ', p⟩, J.env0.in1, q2, fun p hp => ?_⟩
    rw [List.mem_singleton.mp hp]
    exact ⟨⟨q3, q4⟩, Nat.ne_of_gt hLa, fun z => absurd (hst a z) (Nat.not_lt.mpr (Nat.le_of_lt hLa)), da⟩
  have room : Room k X.A.in1 := ⟨hd, by have := hr.dp; show X.A.depth + 3 * k + 5 < _; omega, by have := hr.un; show X.A.units + 1 + 16 * k + 200 < _; omega⟩
  have wake2 := wake X.A.in1 T G (fun _ => [(a, go)]) hPG room I1.ok.frames tag
  clear wake hPG
  refine wpAny_pyIter_gen (hgen _ ea) ?_
  refine codeAny_forLoop_any (fun m s' => 1 ≤ m ∧ m ≤ n + 1 ∧ ∃ σ' H' oL' st, Inv X ((L, oL') :: (a, go) :: pins) σ' H' s' ∧ Pv (n + 1 - m) σ' H' ∧ s'.gens[gn]? = some st ∧ ∀ s2 H2, T m s2 H2 → s2.heap.get? L = some oL' →
    st.Goes (model X.prog X.w) X.A.in1 (NR X.prog X.w X.stack L (fun _ => [(a, go)]) T G) (NY X.prog X.w X.stack L (fun _ => [(a, go)]) T G) m (.send .none) s2) ?_ (n + 1)
    ⟨by omega, Nat.le_refl _, σ, H1, oL, _, pinned I2 eL dL hHL ea hHa, by rw [Nat.sub_self]; exact p0, hgs, fun s2 H2 hT2 e2 => ⟨rfl, by rw [hGn] at wake2; exact wake2 s2 H2 hT2 e2⟩⟩
  rintro m s3 ⟨hm1, hmn, σ3, H3, oL3, st, I3, p3, hgs3, hgo⟩
  obtain ⟨I3', e3L, n3L, e3a, n3a⟩ := unpin I3
  have I3r : Inv X ((L, oL3) :: (a, go) :: pins) σ3 H3 (s3.setGen gn .running) := I3.regen (allBare_setGen I3.bare rfl)
  have goes := hgo (s3.setGen gn .running) H3 (Tm hm1 hmn I3r p3) e3L
  have hgn3 : gn < s3.gens.size := (Array.getElem?_eq_some_iff.mp hgs3).1
  refine wpAny_passesOwn hp ?_
  refine wpAny_gsz (n := gn + 1) hgn3 ?_
  refine next_susp (P := X.prog) (w := X.w) (A := X.A) (F := FN X.prog X.w X.stack L (fun _ => [(a, go)]) T G) (Y := NY X.prog X.w X.stack L (fun _ => [(a, go)]) T G) (n := m) hd I3.nolimit (by have := hr.dp; omega) (hgen _ e3a) hgs3 goes (fun v s4 gs' hbare hsusp hv => ?_) (fun s4 hv h' hk => ?_)
  · intro hsz
    obtain ⟨H₀, x, H4, oL4, hT4, rv, B, eL4, dL4, nL4, hpn4, nl4, hy, hk⟩ := hv
    obtain ⟨m', rfl⟩ : ∃ m', m = m' + 1 := ⟨m - 1, by omega⟩
    have em : m' + 1 - 1 = m' := rfl
    rw [em] at hT4 hy hk
    obtain ⟨_, _, σ₀, oL₀, I0, p4⟩ := Tg hT4
    obtain ⟨I0', e0L, n0L, e0a, n0a⟩ := unpin I0
    obtain ⟨eA, nA⟩ := hpn4 (a, go) (List.mem_singleton.mpr rfl)
    have I4 : Inv X pins σ₀ H4 s4 := I0'.back hL0 hLc hLp B
    have hgn4 : gn < s4.gens.size := by
      have q : (s4.setGen gn gs').gens.size = s4.gens.size := setGen_size _ _ _
      have hsz' : gn + 1 ≤ (s4.setGen gn gs').gens.size := hsz
      omega
    have I5 : Inv X ((L, oL4) :: (a, go) :: pins) σ₀ H4 (s4.setGen gn gs') := (pinned I4 eL4 dL4 nL4 eA nA).regen (allBare_setGen I4.bare hbare)
    have st5 : (s4.setGen gn gs').gens[gn]? = some gs' := setGen_at hgn4
    rw [hGn] at hy
    obtain ⟨hjn, hy⟩ := hGyd _ _ _ _ hy
    have hy2 := hy σ₀ p4
    refine wpAny_passesOwn hp ?_
    obtain ⟨o, nm, qn, ho, hgc, hgd, hgsl⟩ := hgen _ eA
    refine go_of (s := s4.setGen gn gs') (o := o) ho hgc hgd (by decide) ?_
    refine wpAny_passesOwn hp (wpAny_mono (hg.stays I5 rv hy2) (fun _ s6 h6 => ?_) fun _ _ z => z.elim)
    obtain ⟨⟨σ6, H6, I6, q6⟩, stay6⟩ := h6
    refine wpAny_passesOwn hp (wpAny_mono (hb.stays I6 q6) (fun fl s7 h7 => ?_) fun _ _ z => z.elim)
    obtain ⟨q7, stay7⟩ := h7
    have gs7 : s7.gens[gn]? = some gs' := stay7 gn gs' (stay6 gn gs' st5 hsusp) hsusp
    have again : ∀ {σ7 : L2.St} {H7 : Hp}, Inv X ((L, oL4) :: (a, go) :: pins) σ7 H7 s7 → Pv (n + 1 - (m' + 1) + 1) σ7 H7 → ∃ m, m < m' + 1 ∧ 1 ≤ m ∧ m ≤ n + 1 ∧ ∃ σ' H' oL' st, Inv X ((L, oL') :: (a, go) :: pins) σ' H' s7 ∧ Pv (n + 1 - m) σ' H' ∧ s7.gens[gn]? = some st ∧ ∀ s2 H2, T m s2 H2 → s2.heap.get? L = some oL' →
        st.Goes (model X.prog X.w) X.A.in1 (NR X.prog X.w X.stack L (fun _ => [(a, go)]) T G) (NY X.prog X.w X.stack L (fun _ => [(a, go)]) T G) m (.send .none) s2 := fun {σ7 H7} J q => by
      have e : n + 1 - (m' + 1) + 1 = n + 1 - m' := by omega
      rw [e] at q
      exact ⟨m', Nat.lt_succ_self _, by omega, by omega, σ7, H7, oL4, gs', J, q, gs7, fun s2 H2 z e2 => hk s2 H2 z e2⟩
    cases fl with
    | next => obtain ⟨σ7, H7, I7, n7⟩ := q7; exact again I7 n7
    | cont => obtain ⟨σ7, H7, I7, n7⟩ := q7; exact again I7 n7
    | brk => obtain ⟨σ7, H7, I7, n7⟩ := q7; exact ⟨σ7, H7, (unpin I7).1, n7⟩
    | ret u => obtain ⟨x7, σ7, H7, I7, r7, n7⟩ := q7; exact ⟨x7, σ7, H7, (unpin I7).1, r7, n7⟩
  · intro _
    obtain ⟨H₀, H4, hT4, B, _, hrt⟩ := hv
    obtain ⟨_, _, σ₀, oL₀, I0, p4⟩ := Tg hT4
    have I4 : Inv X pins σ₀ H4 s4 := (unpin I0).1.back hL0 hLc hLp B
    have I5 : Inv X pins σ₀ H4 { s4.setGen gn .finished with heap := h' } := (I4.regen (allBare_setGen I4.bare rfl)).kept (t' := s4.toks) hk
    rw [hGn] at hrt
    exact wpAny_execs_nil ⟨σ₀, H4, I5, hGrt _ _ _ hrt σ₀ p4⟩
end L2

/-! defs that are such generators, where they stand; steps -/
namespace L2
open PySem PySem.Spec PyProof.Rows GenW
def tEither (t u : TS) : TS := fun D σ H => t D σ H ∨ u D σ H
theorem ps_either {X : Cx} {st : Stmt} {t u : TS} (a : PS X st t) (b : PS X st u) : PS X st (tEither t u) := ⟨fun pins s σ H D I h => h.elim (fun z => a.run pins s σ H D I z) fun z => b.run pins s σ H D I z⟩
/-- a generator whose first or second statement raises -/
theorem grfn2_of {P : Program} {w : World} {K : PySem.W.Frag} {mg : Str → Option Value} {base : Heap} {k : Nat} {f : Addr} {name qual : Str} {params : Arguments} {st st2 : Stmt} {rest : List Stmt} {scope : Scope} {dV kV doc pm cdv ct oc : Value} {an od : Option Addr}
    {osl : Array (Option Value)} {N ps : List Str} {sp : SpR} (lk : K.lookup f = some ⟨oc, od, .func (PySem.W.fnOf name qual params (st :: st2 :: rest) scope dV kV doc pm an cdv ct), osl⟩) (hcd : PySem.W.codeIn K cdv qual = true) (S : GScope N ps scope)
    (len : ∀ vs H E, sp vs H E → vs.length = ps.length)
    (hbody : ∀ (A : Around) (outer : List Env) (s : Shared) (H : Hp) (vs : List V) (E : XK) (pn : List (Addr × Obj)), Room k (A.deeper (envOfC qual scope s.heap.objs.size f cdv)) → sp vs H E →
      ∃ t t2, PS (gcxOf P w K mg base N qual scope f cdv A outer s H E pn) st t ∧ PS (gcxOf P w K mg base N qual scope f cdv A outer s H E pn) st2 t2 ∧ t { nx := fun σ' H' => t2 { nx := fun _ _ => False, rt := fun _ _ => False } σ' H', rt := fun _ _ => False } (start N vs) H) :
    GRFn P w K mg base (k + 1) f (PySem.W.fnOf name qual params (st :: st2 :: rest) scope dV kV doc pm an cdv ct) ps sp := by
  refine ⟨len, fun A outer s H args us vs E hr e0 hb r hsp => ?_⟩
  have hl := len _ _ _ hsp
  have KX : K.In s.heap := e0.mod.kin.keeps fun b o e => (e0.bs b o e).1
  have lim : s.heap.NoLimit := e0.mod.nolimit.keeps fun b o e => (e0.bs b o e).1
  have hkind : ∀ y ∈ ps.zip us, scope.names.lookup y.1 = some .local ∨ (scope.names.lookup y.1 = some .cell ∧ ((cellsFrom (s.heap.objs.size + 1) scope.names []).lookup y.1).isSome = true) := fun ⟨n, v⟩ hy => by
    rcases S.par n (List.of_mem_zip hy).1 with q | q
    · exact .inl q
    · exact .inr ⟨q, PySem.W.cellsFrom_some _ _ _ (.inl q)⟩
  refine codeAny_call_generator hr.depth (KX _ _ lk) rfl S.co S.gen rfl (PySem.W.codeRec_of KX hcd) (hb _ _ _ _ ?_)
  refine wpAny_newFunctionEnv_cells S.kind hkind fun env he s1 x => ?_
  subst he
  have lim1 : s1.heap.NoLimit := lim.keeps x.toInCall.keep
  refine ⟨lim1, ?_⟩
  obtain ⟨h1, tk, es1, hk1⟩ := x.done
  have os1 : s1.os = s.os := by rw [es1]
  have gen1 : s1.gens = s.gens := by rw [es1]
  have lt1 : s.heap.objs.size < s1.heap.objs.size := x.toInCall.ns.lt
  have sz1 : s.heap.objs.size ≤ s1.heap.objs.size := Nat.le_of_lt lt1
  have kp1 : ∀ b o, s.heap.get? b = some o → s1.heap.get? b = some o := x.toInCall.keep
  have main : ∀ (go : Obj) (nm qn : Value) (tk2 : Nat), go.cls = .type "generator" → go.data = .fields #[.int s1.gens.size 0, nm, qn] → go.slots = #[] → (∀ h : Heap, (h.push go).get? h.objs.size = some go) →
      GRMade P w (k + 1) outer H s E (.ref s1.heap.objs.size) { s1 with gens := s1.gens.push (.fresh (.func (st :: st2 :: rest) (envOfC qual scope s.heap.objs.size f cdv))), toks := tk2, heap := s1.heap.push go } := by
    intro go nm qn tk2 hgc hgd0 hgs hgp
    have hgen : ∀ h : Heap, h.get? s1.heap.objs.size = some go → h.IsGen s1.heap.objs.size s1.gens.size := fun h e => ⟨go, nm, qn, e, hgc, hgd0, hgs⟩
    have hpushed : (s1.heap.push go).get? s1.heap.objs.size = some go := hgp _
    refine ⟨s1.heap.objs.size, s1.gens.size, _, rfl, sz1, ?_, hgen _ hpushed, Array.getElem?_push_size .., os1, ?_, lim1.keeps fun b o e => Heap.get?_push_of_some _ e, fun b o e => Heap.get?_push_of_some _ (kp1 b o e), ?_⟩
    · show _ < (s1.heap.push _).objs.size
      rw [Heap.size_push]; exact Nat.lt_succ_self _
    · exact AllBare.push (by rw [gen1]; exact e0.bare) rfl
    intro Aw s2 hrw hfr hk2 hos hba
    have e0w : Env0 P w K mg base Aw outer s H := ⟨hfr, e0.mod, e0.bs, e0.bsz, e0.funs, e0.frf, e0.hok, e0.bare⟩
    obtain ⟨t, t2, ht, ht2, hq⟩ := hbody Aw outer s H vs E [(s1.heap.objs.size, go)] (hrw.deeper _) hsp
    have I1 : Inv (gcxOf P w K mg base N qual scope f cdv Aw outer s H E []) [] (start N vs) H s1 := inv_startG S hrw.hd e0w hl r x
    have kp2 : ∀ b o, s1.heap.get? b = some o → s2.heap.get? b = some o := fun b o e => hk2 b o (Heap.get?_push_of_some _ e)
    have I2 : Inv (gcxOf P w K mg base N qual scope f cdv Aw outer s H E []) [] (start N vs) H s2 :=
      I1.call' (ch := []) (hos.trans os1.symm) (Un.kept kp2) (I1.hok.kept kp2) hba fun b z => by simp at z
    have hea : s2.heap.get? s1.heap.objs.size = some go := hk2 s1.heap.objs.size go hpushed
    have hgd : ∀ v, go.data ≠ .cell v := fun v q => by rw [hgd0] at q; cases q
    have I3 : Inv (gcxOf P w K mg base N qual scope f cdv Aw outer s H E [(s1.heap.objs.size, go)]) [] (start N vs) H s2 := Inv.pinnedG I2 fun p hp => by
      rw [List.append_nil] at hp
      rw [List.mem_singleton.mp hp]
      exact ⟨hea, I1.hok.fresh (Nat.le_refl _), Nat.ne_of_gt lt1, I1.nofs (Nat.le_refl _), hgd⟩
    have out : ∀ (e : Value) (s' : Shared), (gcxOf P w K mg base N qual scope f cdv Aw outer s H E [(s1.heap.objs.size, go)]).xe e s' → Seg (model P w) Aw (RErr P w outer H s s1.heap.objs.size s1.gens.size E) (fun _ _ _ _ _ => False) 0 s2 (.func (st :: st2 :: rest) (envOfC qual scope s.heap.objs.size f cdv)) ((leaving (envOfC qual scope s.heap.objs.size f cdv) e).wrap (fun _ => .raise e) .raise id id) [] s' := fun e s' hx => by
      refine seg_wrap ?_
      rw [over_func]
      refine wpAny_mono (show wpAny (model P w) (Aw.deeper (envOfC qual scope s.heap.objs.size f cdv)) (leaving (envOfC qual scope s.heap.objs.size f cdv) e) (fun _ s'' => CX P w outer H s E e s'' ∧ ∀ p ∈ [(s1.heap.objs.size, go)], s''.heap.get? p.1 = some p.2) (fun _ _ => False) s' from hx) (fun _ s'' q => ?_) fun _ s'' q => q.elim
      exact seg_end (.error e) (.inr ⟨e, rfl, q.1, hgen _ (q.2 (s1.heap.objs.size, go) (List.mem_singleton.mpr rfl))⟩)
    refine seg_func ?_
    refine seg_execs_cons ?_
    refine seg_wrap ?_
    rw [over_func]
    refine wpAny_mono (ht.run [] s2 (start N vs) H _ I3 hq) (fun fl s' hs => ?_) fun e s' hx => ?_
    · cases fl with
      | next =>
        obtain ⟨σ', H', I4, q4⟩ := hs
        refine seg_execs_cons ?_
        refine seg_wrap ?_
        rw [over_func]
        refine wpAny_mono (ht2.run [] s' σ' H' _ I4 q4) (fun fl2 s5 hs2 => ?_) fun e s5 hx => ?_
        · cases fl2 with
          | next => obtain ⟨_, _, _, q⟩ := hs2; exact False.elim q
          | brk => obtain ⟨_, _, _, q⟩ := hs2; exact False.elim q
          | cont => obtain ⟨_, _, _, q⟩ := hs2; exact False.elim q
          | ret u => obtain ⟨_, _, _, _, _, q⟩ := hs2; exact False.elim q
        · exact out e s5 hx
      | brk => obtain ⟨_, _, _, q⟩ := hs; exact False.elim q
      | cont => obtain ⟨_, _, _, q⟩ := hs; exact False.elim q
      | ret u => obtain ⟨_, _, _, _, _, q⟩ := hs; exact False.elim q
    · exact out e s' hx
  exact main _ _ _ _ rfl rfl rfl fun h => Heap.get?_push_size _ rfl
end L2
namespace Pg
open PySem PySem.Spec PyProof.Rows L2 GenW
structure NnAt (P : Program) (w : World) (K : PySem.W.Frag) (mg : Str → Option Value) (base : Heap) (x : Str) (st : Stmt) (k : Nat) (ps : List Str) (sp : SpN) : Prop where
  ex : ∃ f fd, mg x = some (.ref f) ∧ Fun K x x st f fd ∧ NFn P w K mg base k f fd ps sp ∧ Binds K fd ps []
theorem FunAt.okN {P : Program} {w : World} {K : PySem.W.Frag} {mg : Str → Option Value} {base : Heap} {x : Str} {st : Stmt} {k : Nat} {ps N : List Str} {sp : SpN} (F : FunAt K mg x st) (S : GScope N ps (defScope st))
    (hnc : ∀ n, cellsFrom n (defScope st).names [] = []) (hno : ∀ y, (defScope st).names.lookup y ≠ some .cell ∧ (defScope st).names.lookup y ≠ some .free)
    (hb : ∀ (kV doc pm : Value) (an : Option Addr) (cdv ct : Value) (us : List Value), us.length = ps.length → bindArgs (PySem.W.fnOf x x (defArgs st) (defBody st) (defScope st) .none kV doc pm an cdv ct) ⟨us, []⟩ = pure (ps.zip us))
    (hbody : ∀ (f : Addr) (cdv : Value) (A : Around) (outer : List Env) (L : Addr) (pn : Shared → List (Addr × Obj)) (vs : List V) (H : Hp), Room k (A.deeper (envOfC x (defScope st) L f cdv)) →
      ∃ t, NSs P w K mg base N x (defScope st) f cdv A outer L pn (defBody st) t ∧ ∀ G, sp vs H G → ∀ H₀, G.ok 0 H₀ → t G { nx := fun j H₀ _ H' => G.rt j H₀ H', rt := fun j H₀ v H' => v = .non ∧ G.rt j H₀ H' } 0 H₀ (start N vs) H₀) : NnAt P w K mg base x st (k + 1) ps sp := by
  obtain ⟨f, fd, hm, F⟩ := F.ex
  refine ⟨f, fd, hm, F, ?_, F.binds hb⟩
  obtain ⟨oc, od, kV, doc, pm, an, cdv, ct, osl, rfl, lk, hcd⟩ := F.ex
  exact nfn_of lk hcd S hnc hno fun A outer L pn vs H hr => hbody f cdv A outer L pn vs H hr
structure NRAt (P : Program) (w : World) (K : PySem.W.Frag) (mg : Str → Option Value) (base : Heap) (x : Str) (st : Stmt) (k : Nat) (ps : List Str) (sp : SpR) : Prop where
  ex : ∃ f fd, mg x = some (.ref f) ∧ Fun K x x st f fd ∧ GRFn P w K mg base k f fd ps sp ∧ Binds K fd ps []
theorem FunAt.okR2 {P : Program} {w : World} {K : PySem.W.Frag} {mg : Str → Option Value} {base : Heap} {x : Str} {st b₁ b₂ : Stmt} {rest : List Stmt} {k : Nat} {ps N : List Str} {sp : SpR} (F : FunAt K mg x st) (S : GScope N ps (defScope st)) (eb : defBody st = b₁ :: b₂ :: rest) (len : ∀ vs H E, sp vs H E → vs.length = ps.length)
    (hb : ∀ (kV doc pm : Value) (an : Option Addr) (cdv ct : Value) (us : List Value), us.length = ps.length → bindArgs (PySem.W.fnOf x x (defArgs st) (defBody st) (defScope st) .none kV doc pm an cdv ct) ⟨us, []⟩ = pure (ps.zip us))
    (hbody : ∀ (f : Addr) (cdv : Value) (A : Around) (outer : List Env) (s : Shared) (H : Hp) (vs : List V) (E : XK) (pn : List (Addr × Obj)), Room k (A.deeper (envOfC x (defScope st) s.heap.objs.size f cdv)) → sp vs H E →
      ∃ t t2, PS (gcxOf P w K mg base N x (defScope st) f cdv A outer s H E pn) b₁ t ∧ PS (gcxOf P w K mg base N x (defScope st) f cdv A outer s H E pn) b₂ t2 ∧ t { nx := fun σ' H' => t2 { nx := fun _ _ => False, rt := fun _ _ => False } σ' H', rt := fun _ _ => False } (start N vs) H) : NRAt P w K mg base x st (k + 1) ps sp := by
  obtain ⟨f, fd, hm, F⟩ := F.ex
  refine ⟨f, fd, hm, F, ?_, F.binds hb⟩
  obtain ⟨oc, od, kV, doc, pm, an, cdv, ct, osl, rfl, lk, hcd⟩ := F.ex
  rw [eb] at lk ⊢
  exact grfn2_of lk hcd S len fun A outer s H vs E pn hr h => hbody f cdv A outer s H vs E pn hr h
def tCallN (m : Nat) (sp : SpN) (t : TA) : TGenN := fun σ H C => t σ H fun vs H1 => vs.length = m ∧ C (sp vs H1) H1
def tCallR (sp : SpR) (t : TA) : TGr := fun σ H E => t σ H fun vs H1 => sp vs H1 E
section
variable {X : Cx} {x : Str} {st : Stmt} {k : Nat} {ps : List Str} {e : Expr} {es : List Expr} {t : TA} {p pos' : Pos}
theorem pgenN_call {sp : SpN} (D : NnAt X.prog X.w X.K X.mg X.base x st k ps sp) (hr : Room k X.A) (ha : PA X (e :: es) t) (hg : Gl X x := by rfl)
    (hdb : (x == ("__debug__" : Str)) = false := by decide) (he : starEach (e :: es) X.env = (false, eval e X.env) :: starEach es X.env := by rfl) (hpl : (backTo pos' (starEach es X.env)).any (·.1) = false := by rfl) :
    PGenN X k (.Call (.Name x p) (e :: es) [] pos') (tCallN ps.length sp t) := by
  obtain ⟨f, fd, hm, F, G, b⟩ := D.ex
  refine ⟨fun pins s σ H C I h => ?_⟩
  refine wpAny_Call_Name_kw (ld_glob I hg hm ?_ hdb)
  refine PySem.W.callWith_K (h₀ := X.base) I.ok.mod.kin F.kp (thn (ha.run pos' pins s σ H _ I h) fun us s1 ⟨vs, H1, I1, r, hl, q⟩ => ⟨I1.kIn, ?_⟩) he hpl
  refine wpAny_call (codeAny_mono (G.run X.A X.stack s1 H1 ⟨us, []⟩ us vs hr I1.env0 (binds0 b r hl I1.kIn) r hl) fun r s' hq => ?_)
  cases r with
  | error e => exact False.elim hq
  | ok fl =>
    cases fl with
    | ret u => exact ⟨H1, s1, _, I1, hq, q⟩
    | next => exact False.elim hq
    | brk => exact False.elim hq
    | cont => exact False.elim hq
theorem pgenR_call {sp : SpR} (D : NRAt X.prog X.w X.K X.mg X.base x st k ps sp) (hr : Room k X.A) (ha : PA X (e :: es) t) (hg : Gl X x := by rfl)
    (hdb : (x == ("__debug__" : Str)) = false := by decide) (he : starEach (e :: es) X.env = (false, eval e X.env) :: starEach es X.env := by rfl) (hpl : (backTo pos' (starEach es X.env)).any (·.1) = false := by rfl) :
    PGenR X k (.Call (.Name x p) (e :: es) [] pos') (tCallR sp t) := by
  obtain ⟨f, fd, hm, F, G, b⟩ := D.ex
  refine ⟨fun pins s σ H E I h => ?_⟩
  refine wpAny_Call_Name_kw (ld_glob I hg hm ?_ hdb)
  refine PySem.W.callWith_K (h₀ := X.base) I.ok.mod.kin F.kp (thn (ha.run pos' pins s σ H _ I h) fun us s1 ⟨vs, H1, I1, r, q⟩ => ⟨I1.kIn, ?_⟩) he hpl
  refine wpAny_call (codeAny_mono (G.run X.A X.stack s1 H1 ⟨us, []⟩ us vs E hr I1.env0 (binds0 b r (G.len _ _ _ q) I1.kIn) r q) fun r s' hq => ?_)
  cases r with
  | error e => exact False.elim hq
  | ok fl =>
    cases fl with
    | ret u => exact ⟨H1, s1, I1, hq⟩
    | next => exact False.elim hq
    | brk => exact False.elim hq
    | cont => exact False.elim hq
theorem ps_forGRC {sp : SpR} {W : WX} {tg : Expr} {body : List Stmt} {pos : Pos} (hp : PassesOwn (model X.prog X.w) X.A X.env X.xe) (hc : X.calm = true) (tkn : Takes X W) (D : NRAt X.prog X.w X.K X.mg X.base x st k ps sp) (hr : Room (k + 3) X.A) (ha : PA X (e :: es) t) (hg : Gl X x := by rfl)
    (hdb : (x == ("__debug__" : Str)) = false := by decide) (he : starEach (e :: es) X.env = (false, eval e X.env) :: starEach es X.env := by rfl) (hpl : (backTo pos' (starEach es X.env)).any (·.1) = false := by rfl)
    (hs : ∀ y, foldedSetIterable (.Call (.Name x p) (e :: es) [] pos') X.env y = pure y := by intro _; rfl) :
    PS X (.For tg (.Call (.Name x p) (e :: es) [] pos') body [] pos) (tForGR X.K (tCallR sp t) W) :=
  ps_forGR hp hc tkn (pgenR_call D (hr.mono (by omega)) ha hg hdb he hpl) hr hs
theorem ps_forNC {sp : SpN} {g : TG} {tb : TS} {tg : Expr} {body : List Stmt} {pos : Pos} (hp : PassesOwn (model X.prog X.w) X.A X.env X.xe) (hc : X.calm = true) (D : NnAt X.prog X.w X.K X.mg X.base x st k ps sp) (hr : Room (k + 3) X.A) (ha : PA X (e :: es) t) (hg' : PG X.nox tg g) (hb : PSs X.nox body tb) (hg : Gl X x := by rfl)
    (hdb : (x == ("__debug__" : Str)) = false := by decide) (he : starEach (e :: es) X.env = (false, eval e X.env) :: starEach es X.env := by rfl) (hpl : (backTo pos' (starEach es X.env)).any (·.1) = false := by rfl)
    (hs : ∀ y, foldedSetIterable (.Call (.Name x p) (e :: es) [] pos') X.env y = pure y := by intro _; rfl) :
    PS X (.For tg (.Call (.Name x p) (e :: es) [] pos') body [] pos) (tForN (tCallN ps.length sp t) g tb) :=
  ps_forN hp hc (pgenN_call D (hr.mono (by omega)) ha hg hdb he hpl) hr hg' hb hs
end
/-! ### steps -/
section
variable {G : GPost} {D : GEn} {j : Nat} {H₀ H : Hp} {σ : L2.St} {t u : TGm} {te : TE} {tc : TT} {tb : TGm} {ts : TS}
theorem w_nStart {N : List Str} {vs : List V} {σ' : L2.St} (e : L2.start N vs = σ') (h : t G D j H₀ σ' H) : t G D j H₀ (L2.start N vs) H := e ▸ h
theorem w_nThen (h : t G { D with nx := fun j' H₀' σ' H' => u G D j' H₀' σ' H' } j H₀ σ H) : tNThen t u G D j H₀ σ H := h
theorem w_n0 (h : ts (D.at j H₀) σ H) : tN0 ts G D j H₀ σ H := h
theorem w_nNil (h : D.nx j H₀ σ H) : tNil0 G D j H₀ σ H := h
theorem w_nAt (h : D.nx j H₀ σ H) : (D.at j H₀).nx σ H := h
def NYE (G : GPost) (D : GEn) (j : Nat) (H₀ : Hp) (σ : L2.St) : V → Hp → Prop := fun x H1 => G.yd j x H₀ H1 ∧ ∀ H2, G.ok (j + 1) H2 → D.nx (j + 1) H2 σ H2
theorem w_nYield (h : te σ H (NYE G D j H₀ σ)) : tNYield te G D j H₀ σ H := h
def NWh (W : Nat → Nat → Hp → L2.St → Hp → Prop) (m : Nat) (tb : TGm) (G : GPost) (D : GEn) (j : Nat) (H₀ : Hp) (σ : L2.St) (H1 : Hp) : Prop := ∃ M : Nat → Hp → L2.St → Hp → Prop, (∀ j' H₀' σ' H', M j' H₀' σ' H' → ∃ m', m' < m ∧ W m' j' H₀' σ' H') ∧ tb G { D with nx := M, ct := M, bk := D.nx } j H₀ σ H1
theorem w_nWhile (W : Nat → Nat → Hp → L2.St → Hp → Prop) (m0 : Nat) (h0 : W m0 j H₀ σ H) (hs : ∀ m j H₀ σ H, W m j H₀ σ H → tc σ H fun b H1 => if b = true then NWh W m tb G D j H₀ σ H1 else D.nx j H₀ σ H1) : tNWhile tc tb G D j H₀ σ H := ⟨W, ⟨m0, h0⟩, hs⟩
theorem w_nWh {W : Nat → Nat → Hp → L2.St → Hp → Prop} {m : Nat} (q : tb G { D with nx := fun j' H₀' σ' H' => ∃ m', m' < m ∧ W m' j' H₀' σ' H', ct := fun j' H₀' σ' H' => ∃ m', m' < m ∧ W m' j' H₀' σ' H', bk := D.nx } j H₀ σ H) : NWh W m tb G D j H₀ σ H := ⟨_, fun _ _ _ _ h => h, q⟩
end
section
variable {D : Ends} {σ : L2.St} {H : Hp} {g : TG} {tb : TS} {tr : TGenN} {t : TA}
def ForNE (D : Ends) (g : TG) (tb : TS) (σ : L2.St) : (GPost → Prop) → Hp → Prop := fun PG H1 => ∃ (n : Nat) (Pv : Nat → L2.St → Hp → Prop), Pv 0 σ H1 ∧ PG (forG n Pv D g tb)
theorem w_forN (h : tr σ H (ForNE D g tb σ)) : tForN tr g tb D σ H := h
def CallNE (m : Nat) (sp : SpN) (C : (GPost → Prop) → Hp → Prop) : List V → Hp → Prop := fun vs H1 => vs.length = m ∧ C (sp vs H1) H1
theorem w_callN {m : Nat} {sp : SpN} {C : (GPost → Prop) → Hp → Prop} (h : t σ H (CallNE m sp C)) : tCallN m sp t σ H C := h
theorem w_callNE {m : Nat} {sp : SpN} {C : (GPost → Prop) → Hp → Prop} {vs : List V} (e : vs.length = m) (h : C (sp vs H) H) : CallNE m sp C vs H := ⟨e, h⟩
theorem w_forNE {PG : GPost → Prop} (n : Nat) (Pv : Nat → L2.St → Hp → Prop) (h0 : Pv 0 σ H) (h : PG (forG n Pv D g tb)) : ForNE D g tb σ PG H := ⟨n, Pv, h0, h⟩
def CallRE (sp : SpR) (E : XK) : List V → Hp → Prop := fun vs H1 => sp vs H1 E
theorem w_callR {sp : SpR} {E : XK} (h : t σ H (CallRE sp E)) : tCallR sp t σ H E := h
theorem w_callRE {sp : SpR} {E : XK} {vs : List V} (h : sp vs H E) : CallRE sp E vs H := h
end
end Pg
namespace Pg
open PySem
/-- neither cells nor free names: by looking at all names -/
theorem nocells {ns : List (Str × NameKind)} (h : (ns.all fun y => y.2 != .cell && y.2 != .free) = true) (y : Str) : ns.lookup y ≠ some .cell ∧ ns.lookup y ≠ some .free := by
  have go : ∀ z, ns.lookup y = some z → z ≠ .cell ∧ z ≠ .free := fun z e => by
    have m := PySem.mem_of_lookup e
    have := List.all_eq_true.mp h _ m
    simpa using this
  exact ⟨fun e => (go _ e).1 rfl, fun e => (go _ e).2 rfl⟩
end Pg
namespace Pg
open PySem PySem.Spec PyProof.Rows L2
theorem ps_raiseXn {X : Cx} {mg0 : Str → Option Value} {K0 : PySem.W.Frag} {x : Str} {C : Addr} {qual : Str} {st : Stmt} {k : Nat} {W : WX} {e : Expr} {te : TE} {p pos pos2 : Pos} (T : ExAt K0 mg0 x C) (D : MDefAt X.prog X.w K0 mg0 X.base C "__init__" qual st k ["self", "value"] (spEInit K0 C)) (hr : Room (k + 1) X.A) (tk : Takes X W) (he : PE X e te)
    (hK : X.K = K0 := by rfl) (hM : X.mg = mg0 := by rfl) (hc : X.calm = true := by rfl) (hg : Gl X x := by rfl)
    (hdb : (x == ("__debug__" : Str)) = false := by decide) (hst : starEach [e] X.env = (false, eval e X.env) :: starEach [] X.env := by rfl) (hpl : (backTo pos (starEach [] X.env)).any (·.1) = false := by rfl) :
    PS X (.Raise (some (.Call (.Name x p) [e] [] pos)) none pos2) (tRaiseX K0 C W te) := by
  subst hK hM
  exact ps_raiseX T D hr tk he hc hg hdb hst hpl
end Pg

/-! a list comprehension over a generator: its turns and the block's own steps, by turns -/
namespace L2
open PySem PySem.Spec PyProof.Rows GenW
theorem rng_mem {L S b : Nat} : b ∈ List.range' L (S - L) ↔ L ≤ b ∧ b < S := by
  rw [List.mem_range'_1]
  omega
/-- an expression, and what sleeps stays -/
theorem PE.stays {X : Cx} {e : Expr} {te : TE} (he : PE X.nox e te) {pins : List (Addr × Obj)} {σ : L2.St} {H : Hp} {s : Shared} {Q : VK} (I : Inv X pins σ H s) (h : te σ H Q) :
    wpAny (model X.prog X.w) X.A (eval e X.env) (fun u s' => (∃ v H', Inv X pins σ H' s' ∧ RelV v u ∧ Q v H') ∧ Stays s s') (fun _ _ => False) s := by
  refine wpAny_mono (wpAny_deep (he.run pins (deep s) σ H Q ((I.wish _).deep) h)) (fun u s' hw => ?_) fun e s' hw => ?_
  · obtain ⟨st, G, ⟨v, H', I', r, q⟩, hbr⟩ := hw
    exact ⟨⟨v, H', I'.unwish.woke (hbr I.bare I'.bare), r, q⟩, st⟩
  · obtain ⟨_, _, q, _⟩ := hw
    exact q.elim
theorem app_stays {X : Cx} {pins : List (Addr × Obj)} {σ : L2.St} {H : Hp} {s : Shared} {D : Addr} {xs : List V} {y : V} {v : Value} (I : Inv X pins σ H s) (hD : H D = some (.lst xs)) (hz : xs.length < sizeLine) (r : RelV y v) :
    wpAny (model X.prog X.w) X.A (call (.builtin "list.append") [.ref D, v]) (fun _ s' => Inv X pins σ (upd H D (.lst (xs ++ [y]))) s' ∧ Stays s s') (fun _ _ => False) s := by
  refine wpAny_mono (wpAny_deep (app_ok (E := fun _ _ => False) (Q := fun _ s' => Inv X pins σ (upd H D (.lst (xs ++ [y]))) s') I.deep hD hz r fun s' I' => I')) (fun u s' hw => ?_) fun e s' hw => ?_
  · obtain ⟨st, G, I', hbr⟩ := hw
    exact ⟨I'.woke (hbr I.bare I'.bare), st⟩
  · obtain ⟨_, _, q, _⟩ := hw
    exact q.elim
def lcG (n : Nat) (Pv : Nat → Hp → Prop) (D : Addr) (g : TG) (te : TE) (σ0 : L2.St) (vs : List Nat) (Q : VK) : GPost where
  n := n + 1
  ok := Pv
  yd := fun j x H1 H2 => j < n ∧ (∃ acc, H2 D = some (.lst acc)) ∧ g x σ0 H2 fun σ2 H3 => wipe σ2 vs = σ0 ∧ te σ2 H3 fun y H4 => ∃ acc, H4 D = some (.lst acc) ∧ acc.length < sizeLine ∧ Pv (j + 1) (upd H4 D (.lst (acc ++ [y])))
  rt := fun j H1 H2 => (∃ acc, H2 D = some (.lst acc)) ∧ Q (.ref D) H2
def tLcN (tr : TGenN) (g : TG) (te : TE) (vs : List Nat) : TE := fun σ H Q => tr σ H fun PG H1 => ∀ D, H1 D = none → ∃ (n : Nat) (Pv : Nat → Hp → Prop), Pv 0 (upd H1 D (.lst [])) ∧ (∀ j H, Pv j H → ∃ acc, H D = some (.lst acc)) ∧ PG (lcG n Pv D g te (wipe σ vs) vs Q)
theorem pe_lcN {X : Cx} {k : Nat} {elt tg iter : Expr} {scope : Scope} {own : List (Str × Nat)} {pos : Pos} {tr : TGenN} {g : TG} {te : TE} (hc : X.calm = true) (hN : X.N.Nodup) (h : PGenN X k iter tr) (hr : Room (k + 3) X.A) (ok : BlkOk X.N X.env.scope scope own) (hnc : ∀ y ∈ scope.names, y.2 ≠ .cell)
    (hg : ∀ (s : Shared) (H : Hp) (C : Addr) (cl : List (Str × Addr)) (fp : List Addr), PG (X.blk s H scope (compEnvC scope cl C X.env) fp).nox tg g)
    (he : ∀ (s : Shared) (H : Hp) (C : Addr) (cl : List (Str × Addr)) (fp : List Addr), PE (X.blk s H scope (compEnvC scope cl C X.env) fp).nox elt te) (hs : ∀ x, foldedSetIterable iter X.env x = pure x := by intro _; rfl) :
    PE X (.ListComp elt [⟨tg, iter, [], 0⟩] scope pos) (tLcN tr g te (own.map (·.2))) := by
  refine ⟨fun pins s σ H Q I hw => ?_⟩
  rw [eval_ListComp]
  have hfree : ∀ y ∈ scope.names, y.2 = .free → ∃ c, X.env.cells.lookup y.1 = some c := fun y hy e => by
    rcases ok.free y hy e with k | k
    · exact I.ok.has _ (.inl k)
    · exact I.ok.has _ (.inr k)
  refine wpAny_comprehension_free (use := none) rfl hs (closure_ok hfree) ok.kind (fun y hy e => by rw [ok.uniq y hy, e]) (thn (h.run pins s σ H _ I hw) fun v s1 h1 => ?_)
  obtain ⟨H1, sc, PG, I1, ⟨L, a, gn, c, go, oL, rfl, hL1, hLa, ha2, eL, dL, ea, da, hgen, hgs, hos, hbr, kp, wake⟩, q⟩ := h1
  have hL0 : X.env.locals < L := Nat.lt_of_lt_of_le I1.lt hL1
  have hLc : ∀ x c, X.env.cells.lookup x = some c → c < L := fun x c e => by
    obtain ⟨v, o, ho, _⟩ := I1.cell x c e
    exact Nat.lt_of_lt_of_le (Heap.lt_size ho) hL1
  have hLp : ∀ p ∈ X.pn ++ pins, p.1 < L := fun p hp => Nat.lt_of_lt_of_le (Heap.lt_size (I1.pin p hp).1) hL1
  have hfs : ∀ b ∈ X.fs, b < L := fun b hb => Nat.lt_of_lt_of_le (frs_lt I1.funs b hb) hL1
  have hst : ∀ b ∈ frs X.stack, b < L := fun b hb => Nat.lt_of_lt_of_le (frs_lt I1.env0.funs b hb) hL1
  have nofs : ∀ b, L ≤ b → b ∉ X.fs := fun b hb z => absurd (hfs b z) (Nat.not_lt.mpr hb)
  have nost : ∀ b, L ≤ b → b ∉ frs X.stack := fun b hb z => absurd (hst b z) (Nat.not_lt.mpr hb)
  have I2 : Inv X pins σ H1 s1 := I1.call' (ch := []) hos (Un.kept kp) (I1.hok.kept kp) hbr fun b z => by simp at z
  have hHge : ∀ b, L ≤ b → H1 b = none := fun b hb => I1.hok.fresh (Nat.le_trans hL1 hb)
  have hab : X.s_0.heap.objs.size ≤ L := Nat.le_trans I1.ok.above (Nat.le_of_lt hL0)
  refine wpAny_pyIter_gen (hgen _ ea) ?_
  refine wpAny_newObj_type (newEnv_comp ?_) (by show 0 ≤ sizeLine; decide)
  generalize hD : s1.heap.objs.size = D
  have haD : a < D := by rw [← hD]; exact ha2
  have hLD : L < D := Nat.lt_trans hLa haD
  have hDn : H1 D = none := I2.hok.fresh (Nat.le_of_eq hD)
  obtain ⟨n, Pv, p0, pD, hPG⟩ := q D hDn
  generalize hs3 : ({ s1 with heap := s1.heap.push { cls := .type "list", data := .seq ([] : List Value).toArray } } : Shared) = s3
  have I3 : Inv X pins σ (upd H1 D (.lst [])) s3 := by
    rw [← hs3]
    refine I2.laid (t' := s1.toks) (fun b o e => Heap.get?_push_of_some _ e) (Nat.le_of_eq hD) ⟨Nat.zero_le _, [], 0, .nil, ?_⟩
    rw [← hD]
    exact Heap.get?_push_size _ rfl
  have h3 : s3.heap = s1.heap.push { cls := .type "list", data := .seq ([] : List Value).toArray } := by rw [← hs3]
  have hC : s3.heap.objs.size = D + 1 := by rw [h3, Heap.size_push, hD]
  have g3 : s3.gens = s1.gens := by rw [← hs3]
  have kp3 : ∀ b o, s1.heap.get? b = some o → s3.heap.get? b = some o := fun b o e => by rw [h3]; exact Heap.get?_push_of_some _ e
  obtain ⟨fp, hfp⟩ : ∃ fp, fp = List.range' L (D - L) := ⟨_, rfl⟩
  have memfp : ∀ b : Nat, b ∈ fp ↔ L ≤ b ∧ b < D := fun b => by
    rw [hfp, List.mem_range'_1]
    constructor
    · rintro ⟨h1, h2⟩
      exact ⟨h1, by omega⟩
    · rintro ⟨h1, h2⟩
      exact ⟨h1, by omega⟩
  clear hfp
  have f3 : ∀ b ∈ fp, FpOk X pins (upd H1 D (.lst [])) b ∧ b < s3.heap.objs.size := fun b hb => by
    obtain ⟨h1, h2⟩ := (memfp b).mp hb
    refine ⟨⟨?_, Nat.ne_of_gt (Nat.lt_of_lt_of_le hL0 h1), nofs b h1, .inr (Nat.le_trans hab h1), fun x c e z => ?_, fun p hp z => ?_⟩, by rw [hC]; exact Nat.lt_succ_of_lt h2⟩
    · rw [upd_ne (Nat.ne_of_lt h2)]
      exact hHge b h1
    · exact absurd (hLc x c e) (Nat.not_lt.mpr (z ▸ h1))
    · exact absurd (hLp p hp) (Nat.not_lt.mpr (z ▸ h1))
  have I4 := block_start I3 ok hN f3
  have pg := hg s3 (upd H1 D (.lst [])) s3.heap.objs.size (cellsFrom (s3.heap.objs.size + 1) scope.names (cloFrom X.env.cells scope.names [])) fp
  have pe := he s3 (upd H1 D (.lst [])) s3.heap.objs.size (cellsFrom (s3.heap.objs.size + 1) scope.names (cloFrom X.env.cells scope.names [])) fp
  have cC : ∀ x c, (cellsFrom (s3.heap.objs.size + 1) scope.names (cloFrom X.env.cells scope.names [])).lookup x = some c → c < L := fun x c e => by
    rw [← Heap.size_push s3.heap { cls := .type "dict", data := .dict #[] }] at e
    rcases cells_mem (PySem.mem_of_lookup e) with hm | ⟨h1, _, _⟩
    · rcases cloFrom_mem hm with hm | ⟨h1, rfl⟩
      · cases hm
      · obtain ⟨c, hc⟩ := hfree _ h1 rfl
        rw [hc]
        exact hLc _ _ hc
    · exact absurd rfl (hnc _ h1)
  show codeAny _ _ (.compStart (.ListComp elt [⟨tg, iter, [], 0⟩] scope pos) 0 (.ref a) (.ref D) (compEnvC scope (cellsFrom (s3.heap.objs.size + 1) scope.names (cloFrom X.env.cells scope.names [])) s3.heap.objs.size X.env)) (compPost (model X.prog X.w) X.A X.xe none _ (.ref D) s3.heap.objs.size) { s3 with heap := pushCells (s3.heap.push { cls := .type "dict", data := .dict #[] }) scope.names }
  have cC2 : ∀ x c, (compEnvC scope (cellsFrom (s3.heap.objs.size + 1) scope.names (cloFrom X.env.cells scope.names [])) s3.heap.objs.size X.env).cells.lookup x = some c → c < L := cC
  generalize hce : compEnvC scope (cellsFrom (s3.heap.objs.size + 1) scope.names (cloFrom X.env.cells scope.names [])) s3.heap.objs.size X.env = ce at I4 pg pe cC2 ⊢
  have cL : ce.locals = D + 1 := by subst hce; exact hC
  generalize hH3 : upd H1 D (.lst []) = H3 at I3 I4 pg pe p0 f3
  have nH3 : ∀ b, L ≤ b → b ≠ D → H3 b = none := fun b h1 h2 => by
    rw [← hH3, upd_ne h2]
    exact hHge b h1
  generalize hs4 : ({ s3 with heap := pushCells (s3.heap.push { cls := .type "dict", data := .dict #[] }) scope.names } : Shared) = s4 at I4 ⊢
  have kp4 : ∀ b o, s1.heap.get? b = some o → s4.heap.get? b = some o := fun b o e => by rw [← hs4]; exact pushCells_keeps _ _ _ _ (Heap.get?_push_of_some _ (kp3 b o e))
  have g4 : s4.gens = s1.gens := by rw [← hs4, ← g3]
  generalize hσ : wipe σ (own.map (·.2)) = σ0 at I4 hPG ⊢
  obtain ⟨G, hG⟩ : ∃ G, G = lcG n Pv D g te σ0 (own.map (·.2)) Q := ⟨_, rfl⟩
  have hGn : G.n = n + 1 := by rw [hG]; rfl
  have hGok : G.ok = Pv := by rw [hG]; rfl
  have hGyd : ∀ j x H1 H2, G.yd j x H1 H2 → j < n ∧ (∃ acc, H2 D = some (.lst acc)) ∧ g x σ0 H2 fun σ2 H3 => wipe σ2 (own.map (·.2)) = σ0 ∧ te σ2 H3 fun y H4 => ∃ acc, H4 D = some (.lst acc) ∧ acc.length < sizeLine ∧ Pv (j + 1) (upd H4 D (.lst (acc ++ [y]))) := by rw [hG]; exact fun _ _ _ _ z => z
  have hGrt : ∀ j H1 H2, G.rt j H1 H2 → (∃ acc, H2 D = some (.lst acc)) ∧ Q (.ref D) H2 := by rw [hG]; exact fun _ _ _ z => z
  rw [← hG] at hPG
  clear hG
  -- back in the def's context
  have backX : ∀ {σ' : L2.St} {pins' : List (Addr × Obj)} {H' : Hp} {s' : Shared}, Inv (X.blk s3 H3 scope ce fp) pins' σ' H' s' → Inv X pins σ H' s' := fun {σ' pins' H' s'} J =>
    I3.call' (ch := fp) J.os J.base J.hok J.bare fun b hb => ⟨(f3 b hb).1.2.2.2.1, (f3 b hb).1.2.1, (f3 b hb).1.2.2.2.2.1, (f3 b hb).1.2.2.2.2.2⟩
  have pinned : ∀ {oL' : Obj} {σ' : L2.St} {pins' : List (Addr × Obj)} {H' : Hp} {s' : Shared}, Inv (X.blk s3 H3 scope ce fp) pins' σ' H' s' → s'.heap.get? L = some oL' → (∀ v, oL'.data ≠ .cell v) → H' L = none → s'.heap.get? a = some go → H' a = none → Inv (X.blk s3 H3 scope ce fp) [(L, oL'), (a, go)] σ' H' s' := fun {oL' σ' pins' H' s'} J e d n e2 n2 => J.pins_of fun p hp => by
    rcases List.mem_cons.mp hp with z | hp
    · rw [z]
      exact ⟨e, n, by show L ≠ ce.locals; rw [cL]; exact Nat.ne_of_lt (Nat.lt_succ_of_lt hLD), nost L (Nat.le_refl _), d⟩
    · rw [List.mem_singleton.mp hp]
      exact ⟨e2, n2, by show a ≠ ce.locals; rw [cL]; exact Nat.ne_of_lt (Nat.lt_succ_of_lt haD), nost a (Nat.le_of_lt hLa), da⟩
  have unpin : ∀ {oL' : Obj} {σ' : L2.St} {H' : Hp} {s' : Shared}, Inv (X.blk s3 H3 scope ce fp) [(L, oL'), (a, go)] σ' H' s' → s'.heap.get? L = some oL' ∧ H' L = none ∧ s'.heap.get? a = some go ∧ H' a = none := fun {oL' σ' H' s'} J => by
    have q1 := J.pin (L, oL') (List.mem_append_right _ List.mem_cons_self)
    have q2 := J.pin (a, go) (List.mem_append_right _ (List.mem_cons_of_mem _ List.mem_cons_self))
    exact ⟨q1.1, q1.2.1, q2.1, q2.2.1⟩
  obtain ⟨T, hT⟩ : ∃ T : Tag, T = fun m s H => 1 ≤ m ∧ m ≤ n + 1 ∧ (∃ oL, Inv (X.blk s3 H3 scope ce fp) [(L, oL), (a, go)] σ0 H s) ∧ Pv (n + 1 - m) H := ⟨_, rfl⟩
  have Tm : ∀ {m : Nat} {s : Shared} {H : Hp} {oL : Obj}, 1 ≤ m → m ≤ n + 1 → Inv (X.blk s3 H3 scope ce fp) [(L, oL), (a, go)] σ0 H s → Pv (n + 1 - m) H → T m s H := fun h1 h2 J p => by
    rw [hT]
    exact ⟨h1, h2, ⟨_, J⟩, p⟩
  have Tg : ∀ {m : Nat} {s : Shared} {H : Hp}, T m s H → 1 ≤ m ∧ m ≤ n + 1 ∧ (∃ oL, Inv (X.blk s3 H3 scope ce fp) [(L, oL), (a, go)] σ0 H s) ∧ Pv (n + 1 - m) H := fun z => by
    rw [hT] at z
    exact z
  clear hT
  obtain ⟨pn, hpn⟩ : ∃ pn : Shared → List (Addr × Obj), pn = fun s => match s.heap.get? (D + 1) with | some o => [(a, go), (D + 1, o)] | none => [(a, go)] := ⟨_, rfl⟩
  have pnm : ∀ {s : Shared} {p : Addr × Obj}, p ∈ pn s → p = (a, go) ∨ (p.1 = D + 1 ∧ s.heap.get? (D + 1) = some p.2) := fun {s p} hp => by
    rw [hpn] at hp
    dsimp only at hp
    split at hp
    · rename_i o ho
      rcases List.mem_cons.mp hp with z | hp
      · exact .inl z
      · rw [List.mem_singleton.mp hp]
        exact .inr ⟨rfl, ho⟩
    · exact .inl (List.mem_singleton.mp hp)
  have pna : ∀ s : Shared, (a, go) ∈ pn s := fun s => by
    rw [hpn]
    dsimp only
    split
    · exact List.mem_cons_self
    · exact List.mem_cons_self
  have pnC : ∀ {s : Shared} {o : Obj}, s.heap.get? (D + 1) = some o → (D + 1, o) ∈ pn s := fun {s o} e => by
    rw [hpn]
    dsimp only
    rw [e]
    exact List.mem_cons_of_mem _ List.mem_cons_self
  clear hpn
  have dict : ∀ {pins' : List (Addr × Obj)} {σ' : L2.St} {H' : Hp} {s' : Shared}, Inv (X.blk s3 H3 scope ce fp) pins' σ' H' s' → ∃ o, s'.heap.get? (D + 1) = some o ∧ (∀ v, o.data ≠ .cell v) ∧ H' (D + 1) = none := fun {pins' σ' H' s'} J => by
    obtain ⟨m, ⟨o, es, ep, ho, r⟩, _⟩ := J.loc
    have ho : s'.heap.get? ce.locals = some o := ho
    rw [cL] at ho
    have hf : H' ce.locals = none := J.free
    rw [cL] at hf
    refine ⟨o, ho, fun v z => ?_, hf⟩
    have := r.1
    rw [this] at z
    cases z
  have hd : X.A.handled = none := I1.ok.hd hc
  have tag : TagOk X.prog X.w X.K X.mg X.base X.A.in1 X.stack L pn T G := fun m s' H' z => by
    obtain ⟨h1, h2, ⟨oL', J⟩, p⟩ := Tg z
    obtain ⟨q1, q2, q3, q4⟩ := unpin J
    refine ⟨h1, by rw [hGn]; exact h2, by rw [hGok, hGn]; exact p, (backX J).env0.in1, q2, fun p hp => ?_⟩
    rcases pnm hp with z | ⟨z1, z2⟩
    · rw [z]
      exact ⟨⟨q3, q4⟩, Nat.ne_of_gt hLa, nost a (Nat.le_of_lt hLa), da⟩
    · obtain ⟨o, ho, hno, hfr⟩ := dict J
      rw [z1]
      have eo : o = p.2 := Option.some.inj (ho.symm.trans z2)
      exact ⟨⟨z2, hfr⟩, Nat.ne_of_gt (Nat.lt_succ_of_lt hLD), nost _ (Nat.le_of_lt (Nat.lt_succ_of_lt hLD)), eo ▸ hno⟩
  have room : Room k X.A.in1 := ⟨hd, by have := hr.dp; show X.A.depth + 3 * k + 5 < _; omega, by have := hr.un; show X.A.units + 1 + 16 * k + 200 < _; omega⟩
  have wake2 := wake X.A.in1 T G pn hPG room I1.ok.frames tag
  clear wake hPG
  -- behind a turn of the generator
  have back : ∀ {s₀ s5 : Shared} {H₀ H5 : Hp} {oL₀ : Obj}, Inv (X.blk s3 H3 scope ce fp) [(L, oL₀), (a, go)] σ0 H₀ s₀ → (∃ acc, H₀ D = some (.lst acc)) → (∃ acc, H5 D = some (.lst acc)) → Back X.prog X.w X.stack L s₀ s5 H₀ H5 → (∀ p ∈ pn s₀, s5.heap.get? p.1 = some p.2 ∧ H5 p.1 = none) → Inv (X.blk s3 H3 scope ce fp) [] σ0 H5 s5 := fun {s₀ s5 H₀ H5 oL₀} J hD0 hD5 B hp => by
    obtain ⟨os, bare, un, hok⟩ := B
    obtain ⟨acc0, hD0⟩ := hD0
    obtain ⟨acc5, hD5⟩ := hD5
    obtain ⟨o, ho, _, _⟩ := dict J
    obtain ⟨pC1, pC2⟩ := hp _ (pnC ho)
    have J' : Inv (X.blk s3 H3 scope ce fp) [] σ0 H₀ s₀ := J.pins_of fun p hp => by simp at hp
    have hcase : ∀ b o, s₀.heap.get? b = some o → b ∉ (List.range' L (s₀.heap.objs.size - L)).filter (fun b => b != D && b != D + 1) → b < L ∨ b = D ∨ b = D + 1 := fun b o e hx => by
      have h1 := Heap.lt_size e
      by_cases h2 : (b : Nat) < L
      · exact .inl h2
      by_cases h3 : b = D
      · exact .inr (.inl h3)
      by_cases h4 : b = D + 1
      · exact .inr (.inr h4)
      refine absurd (List.mem_filter.mpr ⟨rng_mem.mpr ⟨Nat.le_of_not_lt h2, h1⟩, ?_⟩) hx
      simp [h3, h4]
    refine J'.call' (ch := (List.range' L (s₀.heap.objs.size - L)).filter (fun b => b != D && b != D + 1)) os ⟨fun b o e n hb hx => ?_, fun b o e n hb hx => ?_, fun b o e n hx => ?_, fun b o e hx => ?_, un.tups, un.frzs, un.tbls⟩ hok bare fun b hb => ?_
    · rcases hcase b o e hx with z | z | z
      · exact un.keep b o (cutH_in z e) n hb (by simp)
      · rw [z, hD0] at n
        cases n
      · rw [z] at e ⊢
        rw [e] at ho
        cases ho
        exact pC1
    · exact un.slot b o (cutH_in (hst b hb) e) n hb (by simp)
    · rcases hcase b o e hx with z | z | z
      · exact un.free b o (cutH_in z e) n (by simp)
      · rw [z, hD0] at n
        cases n
      · rw [z]
        exact pC2
    · rcases hcase b o e hx with z | z | z
      · exact un.there b o (cutH_in z e) (by simp)
      · rw [z]
        obtain ⟨_, its, nn, _, e5⟩ := hok D _ hD5
        exact ⟨_, e5⟩
      · rw [z]
        exact ⟨_, pC1⟩
    · obtain ⟨hb1, hb2⟩ := List.mem_filter.mp hb
      have hb1 := (rng_mem.mp hb1).1
      simp only [Bool.and_eq_true, bne_iff_ne, ne_eq] at hb2
      obtain ⟨n1, n2⟩ := hb2
      refine ⟨?_, by show b ≠ ce.locals; rw [cL]; exact n2, fun x c e z => ?_, fun p hp => by simp at hp⟩
      · by_cases h : (b : Nat) < D
        · exact .inl ((memfp b).mpr ⟨hb1, h⟩)
        · refine .inr ?_
          show s3.heap.objs.size ≤ b
          rw [hC]
          exact Nat.lt_of_le_of_ne (Nat.le_of_not_lt h) (Ne.symm n1)
      · exact absurd (cC2 x c e) (Nat.not_lt.mpr (z ▸ hb1))
  have loop : codeAny (model X.prog X.w) X.A (.compLoop (.ListComp elt [⟨tg, iter, [], 0⟩] scope pos) 0 (.ref a) (.ref D) ce) (compPost (model X.prog X.w) X.A X.xe none (fun u s' => ∃ v H', Inv X pins σ H' s' ∧ RelV v u ∧ Q v H') (.ref D) s3.heap.objs.size) s4 := by
    refine compLoop_any (fun m s' => 1 ≤ m ∧ m ≤ n + 1 ∧ ∃ H' oL' st, Inv (X.blk s3 H3 scope ce fp) [(L, oL'), (a, go)] σ0 H' s' ∧ Pv (n + 1 - m) H' ∧ s'.gens[gn]? = some st ∧ ∀ s2 H2, T m s2 H2 → s2.heap.get? L = some oL' →
      st.Goes (model X.prog X.w) X.A.in1 (NR X.prog X.w X.stack L pn T G) (NY X.prog X.w X.stack L pn T G) m (.send .none) s2) ?_ (n + 1)
      ⟨by omega, Nat.le_refl _, H3, oL, .fresh c, pinned I4 (kp4 _ _ eL) dL (nH3 L (Nat.le_refl _) (Nat.ne_of_lt hLD)) (kp4 _ _ ea) (nH3 a (Nat.le_of_lt hLa) (Nat.ne_of_lt haD)), by rw [Nat.sub_self]; exact p0, by rw [g4]; exact hgs, fun s2 H2 hT2 e2 => ⟨rfl, by rw [hGn] at wake2; exact wake2 s2 H2 hT2 e2⟩⟩
    rintro m s5 ⟨hm1, hmn, H5, oL5, st, I5, p5, hgs5, hgo⟩
    obtain ⟨e5L, n5L, e5a, n5a⟩ := unpin I5
    have I5r : Inv (X.blk s3 H3 scope ce fp) [(L, oL5), (a, go)] σ0 H5 (s5.setGen gn .running) := I5.regen (allBare_setGen I5.bare rfl)
    have goes := hgo (s5.setGen gn .running) H5 (Tm hm1 hmn I5r p5) e5L
    have hgn5 : gn < s5.gens.size := (Array.getElem?_eq_some_iff.mp hgs5).1
    refine wpAny_gsz (n := gn + 1) hgn5 ?_
    refine next_susp (P := X.prog) (w := X.w) (A := X.A) (F := FN X.prog X.w X.stack L pn T G) (Y := NY X.prog X.w X.stack L pn T G) (n := m) hd I5.nolimit (by have := hr.dp; omega) (hgen _ e5a) hgs5 goes (fun v s6 gs' hbare hsusp hv => ?_) (fun s6 hv h' hk => ?_)
    · intro hsz
      obtain ⟨H₀, x, H6, oL6, hT6, rv, B, eL6, dL6, nL6, hpn6, nl6, hy, hk⟩ := hv
      obtain ⟨m', rfl⟩ : ∃ m', m = m' + 1 := ⟨m - 1, by omega⟩
      have em : m' + 1 - 1 = m' := rfl
      rw [em] at hT6 hy hk
      obtain ⟨_, _, ⟨oL₀, I0⟩, p6⟩ := Tg hT6
      rw [hGn] at hy
      obtain ⟨hjn, hD6, hy2⟩ := hGyd _ _ _ _ hy
      obtain ⟨eA, nA⟩ := hpn6 (a, go) (pna _)
      have I6 : Inv (X.blk s3 H3 scope ce fp) [] σ0 H6 s6 := back I0 (pD _ _ p6) hD6 B hpn6
      have hgn6 : gn < s6.gens.size := by
        have q : (s6.setGen gn gs').gens.size = s6.gens.size := setGen_size _ _ _
        have hsz' : gn + 1 ≤ (s6.setGen gn gs').gens.size := hsz
        omega
      have I7 : Inv (X.blk s3 H3 scope ce fp) [(L, oL6), (a, go)] σ0 H6 (s6.setGen gn gs') := (pinned I6 eL6 dL6 nL6 eA nA).regen (allBare_setGen I6.bare hbare)
      have st7 : (s6.setGen gn gs').gens[gn]? = some gs' := setGen_at hgn6
      obtain ⟨o, nm, qn, ho, hgc, hgd, hgsl⟩ := hgen _ eA
      refine go_of (s := s6.setGen gn gs') (o := o) ho hgc hgd (by decide) ?_
      refine thnF (pg.stays I7 rv hy2) fun _ s8 h8 => ?_
      obtain ⟨⟨σ8, H8, I8, hw8, q8⟩, stay8⟩ := h8
      refine wpAny_tests_nil ?_
      rw [if_pos rfl]
      refine thnF (pe.stays I8 q8) fun z s10 h10 => ?_
      obtain ⟨⟨yv, H10, I10, r10, acc, hD10, hz10, nx⟩, stay10⟩ := h10
      refine thnF (app_stays (X := X.blk s3 H3 scope ce fp) I10 hD10 hz10 r10) fun _ s11 h11 => ?_
      obtain ⟨I11, stay11⟩ := h11
      have gs11 : s11.gens[gn]? = some gs' := stay11 gn gs' (stay10 gn gs' (stay8 gn gs' st7 hsusp) hsusp) hsusp
      have e : n + 1 - (m' + 1) + 1 = n + 1 - m' := by omega
      rw [e] at nx
      have hl : σ0.length = σ8.length := by rw [← hw8, wipe_length]
      exact ⟨m', Nat.lt_succ_self _, by omega, by omega, _, oL6, gs', I11.weak hl (fun j v e => by rw [← hw8] at e; exact (wipe_some e).1), nx, gs11, fun s2 H2 z e2 => hk s2 H2 z e2⟩
    · intro _
      obtain ⟨H₀, H6, hT6, B, hpn6, hrt⟩ := hv
      obtain ⟨_, _, ⟨oL₀, I0⟩, p6⟩ := Tg hT6
      obtain ⟨hD6, qq⟩ := hGrt _ _ _ hrt
      have I6 : Inv (X.blk s3 H3 scope ce fp) [] σ0 H6 s6 := back I0 (pD _ _ p6) hD6 B hpn6
      have I7 : Inv (X.blk s3 H3 scope ce fp) [] σ0 H6 { s6.setGen gn .finished with heap := h' } := (I6.regen (allBare_setGen I6.bare rfl)).kept (t' := s6.toks) hk
      have I8 := backX I7
      have nC : H6 s3.heap.objs.size = none := by
        have z : H6 ce.locals = none := I7.free
        rw [cL] at z
        rw [hC]
        exact z
      obtain ⟨m, hn, _⟩ := I7.loc
      have hn : ({ s6.setGen gn .finished with heap := h' } : Shared).heap.Ns ce.locals m := hn
      rw [cL, ← hC] at hn
      refine ⟨m, hn, fun h'' sb => ?_⟩
      obtain ⟨f0, f1, f2, f3, f4, f5⟩ := I3.fpOk (Nat.le_refl _) nC
      exact ⟨.ref D, H6, I8.turned (t' := _) (fun b o hb e => (sb.2 b hb).trans e) f0 f1 f3 f4 f5, rfl, qq⟩
  exact codeAny_compStart_list loop (wpAny_pyIter_gen (hgen _ (kp4 _ _ ea)) loop)
end L2
namespace Pg
open PySem PySem.Spec PyProof.Rows L2
section
variable {X : Cx} {x : Str} {st : Stmt} {k : Nat} {ps : List Str} {e : Expr} {es : List Expr} {t : TA} {p pos' : Pos}
theorem pe_lcNC {sp : SpN} {elt tg : Expr} {scope : Scope} {own : List (Str × Nat)} {pos : Pos} {g : TG} {te : TE} (D : NnAt X.prog X.w X.K X.mg X.base x st k ps sp) (hr : Room (k + 3) X.A) (ha : PA X (e :: es) t) (hc : X.calm = true) (hN : X.N.Nodup) (ok : BlkOk X.N X.env.scope scope own) (hnc : (scope.names.all fun y => y.2 != .cell) = true)
    (hg' : ∀ (s : Shared) (H : Hp) (C : Addr) (cl : List (Str × Addr)) (fp : List Addr), PG (X.blk s H scope (compEnvC scope cl C X.env) fp).nox tg g)
    (he' : ∀ (s : Shared) (H : Hp) (C : Addr) (cl : List (Str × Addr)) (fp : List Addr), PE (X.blk s H scope (compEnvC scope cl C X.env) fp).nox elt te) (hg : Gl X x := by rfl)
    (hdb : (x == ("__debug__" : Str)) = false := by decide) (he : starEach (e :: es) X.env = (false, eval e X.env) :: starEach es X.env := by rfl) (hpl : (backTo pos' (starEach es X.env)).any (·.1) = false := by rfl)
    (hs : ∀ y, foldedSetIterable (.Call (.Name x p) (e :: es) [] pos') X.env y = pure y := by intro _; rfl) :
    PE X (.ListComp elt [⟨tg, .Call (.Name x p) (e :: es) [] pos', [], 0⟩] scope pos) (tLcN (tCallN ps.length sp t) g te (own.map (·.2))) :=
  pe_lcN hc hN (pgenN_call D (hr.mono (by omega)) ha hg hdb he hpl) hr ok (fun y hy e => by
    have := List.all_eq_true.mp hnc y hy
    rw [e] at this
    exact absurd this (by decide)) hg' he' hs
end
section
variable {σ : L2.St} {H : Hp} {g : TG} {te : TE} {tr : TGenN} {vs : List Nat} {Q : VK}
def LcNE (g : TG) (te : TE) (σ0 : L2.St) (vs : List Nat) (Q : VK) : (GPost → Prop) → Hp → Prop := fun PG H1 => ∀ D, H1 D = none → ∃ (n : Nat) (Pv : Nat → Hp → Prop), Pv 0 (upd H1 D (.lst [])) ∧ (∀ j H, Pv j H → ∃ acc, H D = some (.lst acc)) ∧ PG (lcG n Pv D g te σ0 vs Q)
theorem w_lcN (h : tr σ H (LcNE g te (wipe σ vs) vs Q)) : tLcN tr g te vs σ H Q := h
theorem w_lcNE {PG : GPost → Prop} {σ0 : L2.St} (n : Nat) (Pv : Addr → Nat → Hp → Prop) (h : ∀ D, H D = none → Pv D 0 (upd H D (.lst [])) ∧ (∀ j H, Pv D j H → ∃ acc, H D = some (.lst acc)) ∧ PG (lcG n (Pv D) D g te σ0 vs Q)) : LcNE g te σ0 vs Q PG H := fun D hD => ⟨n, Pv D, h D hD⟩
end
end Pg

open PySem PySem.Spec PyProof.Rows L2 Pg
/-! ### steps -/
local macro_rules | `(tactic| walk_at "h") => `(tactic| with_reducible first
  | assumption
  | exact upd_same
  | (refine' at_make ?e3 ?n1 ?n2; (case n1 => assumption); (case n2 => assumption); (case e3 => walk_at "h"))
  | (refine' at_upd ?e3 ?n1; (case n1 => assumption); (case e3 => walk_at "h"))
  | (refine' Fr.at0 ?n1 ?e3; (case n1 => assumption); (case e3 => walk_at "h"))
  | (refine' Fr.at ?e1 (nn2 ?e2) ?e3; (case e1 => assumption); (case e2 => walk_at "n"); (case e3 => walk_at "h"))
  | (refine' Fr.at ?e1 (nn3 ?e2 ?e4) ?e3; (case e1 => assumption); (case e2 => walk_at "n"); (case e4 => walk_at "n"); (case e3 => walk_at "h"))
  | (refine' Eq.trans (upd_ne ?e2) ?e3; (case e2 => walk_at "n"); (case e3 => walk_at "h")))
local macro_rules | `(tactic| walk_at "n") => `(tactic| with_reducible first
  | assumption
  | exact Ne.symm (by assumption)
  | (refine' Ne.symm (ne_of_none ?e1 ?e2); (case e2 => assumption); (case e1 => walk_at "h"))
  | (refine' ne_of_none ?e1 ?e2; (case e2 => assumption); (case e1 => walk_at "h"))
  | (refine' ne_of ?e1 ?e2 ?e3; (case e1 => assumption); (case e2 => walk_at "h"); (case e3 => (first | exact ho_lst_tup | exact ho_lst_own | exact ho_lst_xd | exact ho_lst_dK | exact ho_lst_ins | exact ho_tup_lst | exact ho_tup_own | exact ho_tup_xd | exact ho_tup_dK | exact ho_tup_ins | exact ho_own_lst | exact ho_own_tup | exact ho_own_xd | exact ho_own_dK | exact ho_own_ins | exact ho_xd_lst | exact ho_xd_tup | exact ho_xd_own | exact ho_xd_dK | exact ho_xd_ins | exact ho_dK_lst | exact ho_dK_tup | exact ho_dK_own | exact ho_dK_xd | exact ho_dK_ins | exact ho_ins_lst | exact ho_ins_tup | exact ho_ins_own | exact ho_ins_xd | exact ho_ins_dK))))
local macro_rules | `(tactic| walk_at "f") => `(tactic| with_reducible first
  | assumption
  | exact Fr.refl
  | exact Fr.nil (by assumption)
  | (refine' Fr.make ?e1 ?e2 ?e3; (case e2 => assumption); (case e3 => assumption); (case e1 => walk_at "f"))
  | (refine' Fr.new ?e1 ?e2; (case e2 => assumption); (case e1 => walk_at "f"))
  | (refine' Fr.put ?e1 (Or.inr ?e2); (case e2 => exact List.mem_singleton_self _); (case e1 => walk_at "f"))
  | (refine' Fr.put ?e1 (Or.inr ?e2); (case e2 => exact mem2a); (case e1 => walk_at "f"))
  | (refine' Fr.put ?e1 (Or.inr ?e2); (case e2 => exact mem2b); (case e1 => walk_at "f"))
  | (refine' Fr.put ?e1 (Or.inl ?e2); (case e2 => walk_at "z"); (case e1 => walk_at "f"))
  | (refine' Fr.trans ?e1 ?e2; (case e2 => assumption); (case e1 => walk_at "f"))
  | (refine' Fr.then ?e1 ?e2; (case e2 => assumption); (case e1 => walk_at "f"))
  | (refine' Fr.loc ?e1 ?e2 ?e3; (case e3 => assumption); (case e2 => walk_at "z"); (case e1 => walk_at "f"))
  | (refine' Fr.loc2 ?e1 ?e2 ?e4 ?e3; (case e3 => assumption); (case e2 => walk_at "z"); (case e4 => walk_at "z"); (case e1 => walk_at "f")))
local macro_rules | `(tactic| walk_at "z") => `(tactic| with_reducible first
  | assumption
  | (refine' Fr.free ?e1 (nn2 ?e2) ?e3; (case e3 => assumption); (case e1 => walk_at "f"); (case e2 => walk_at "n"))
  | (refine' Fr.free ?e1 (nn3 ?e2 ?e4) ?e3; (case e3 => assumption); (case e1 => walk_at "f"); (case e2 => walk_at "n"); (case e4 => walk_at "n"))
  | (refine' Fr.free (S := []) ?e1 List.not_mem_nil ?e3; (case e3 => assumption); (case e1 => walk_at "f")))
local macro_rules | `(tactic| walk_at "k") => `(tactic| first
  | with_reducible assumption
  | ((with_reducible refine' hx_of ?a1 ?a0); (case a1 => walk_at "h"); (case a0 => with_reducible exact rfl)))
local macro_rules | `(tactic| walk_at "1") => `(tactic| first
  | with_reducible refine w_seq ?_
  | with_reducible refine w_asg ?_
  | with_reducible refine w_gname ?_
  | with_reducible refine w_ret ?_
  | with_reducible refine w_drop ?_
  | with_reducible refine w_ifS ?_
  | with_reducible refine w_c ?_
  | ((with_reducible refine' w_var ?e1 ?_); (case e1 => exact rfl))
  | with_reducible refine w_op ?_
  | with_reducible refine w_I0 ?_
  | with_reducible refine w_eqI ?_
  | with_reducible refine w_neI ?_
  | with_reducible refine w_nil ?_
  | with_reducible refine w_cons ?_
  | with_reducible refine w_call ?_
  | with_reducible refine w_CB ?_
  | with_reducible refine w_test ?_
  | with_reducible refine w_tB ?_
  | with_reducible refine w_exbl ?_
  | with_reducible refine w_not ?_
  | with_reducible refine w_and ?_
  | with_reducible refine w_or ?_
  | with_reducible refine w_if ?_
  | with_reducible refine w_next ?_
  | with_reducible refine w_retN ?_
  | with_reducible refine w_iteF ?_
  | with_reducible refine w_iteT ?_
  | with_reducible refine w_iteNT ?_
  | with_reducible refine w_iteNF ?_
  | ((with_reducible refine w_iteP ?e1 ?_); (case e1 => with_reducible first | exact rfl | assumption))
  | ((with_reducible refine w_iteNP ?e1 ?_); (case e1 => with_reducible first | exact rfl | assumption))
  | ((with_reducible refine w_iteQ ?e1 ?_); (case e1 => with_reducible assumption))
  | ((with_reducible refine w_iteNQ ?e1 ?_); (case e1 => with_reducible assumption))
  | with_reducible refine w_lst ?_
  | with_reducible refine w_tup ?_
  | with_reducible refine w_bm ?_
  | with_reducible refine w_bm0 ?_
  | with_reducible refine w_chain ?_
  | with_reducible refine w_sub ?_
  | with_reducible refine w_un ?_
  | with_reducible refine w_U ?_
  | with_reducible refine w_par ?_
  | with_reducible refine w_parE ?_
  | with_reducible refine w_par3 ?_
  | with_reducible refine w_par3E ?_
  | ((with_reducible refine' w_aug ?e1 ?_); (case e1 => exact rfl))
  | with_reducible refine w_ipI ?_
  | ((with_reducible refine' w_ipM ?e1 ?_); (case e1 => walk_at "c"))
  | with_reducible refine w_fld ?_
  | with_reducible refine w_tfld ?_
  | ((with_reducible refine' w_powW ?e1 ?_); (case e1 => walk_at "c"); (try dsimp only [Int.reduceToNat, Int.reducePow]))
  | ((with_reducible refine' w_I ?e1 ?_); (case e1 => walk_at "c"))
  | ((with_reducible refine' w_ixL (SqL.of ?e1) ?e2 ?_); (case e1 => walk_at "k"); (case e2 => exact rfl))
  | ((with_reducible refine' w_ixT (SqT.of ?e1) ?e2 ?_); (case e1 => walk_at "k"); (case e2 => exact rfl))
  | ((with_reducible refine' w_setL ?e1 ?e2 ?_); (case e1 => walk_at "k"); (case e2 => exact rfl))
  | ((with_reducible refine' w_ixLi (SqL.of ?e1) ?e2 ?e3 ?e4 ?_); (case e1 => walk_at "k"); (case e2 => exact rfl); (case e3 => omega); (case e4 => (simp only [unV, List.length_cons, List.length_nil]; omega)); intro n hn; simp only [unV, List.mem_cons, List.not_mem_nil, or_false] at hn)
  | ((with_reducible refine' w_ixTi (SqT.of ?e1) ?e2 ?e3 ?e4 ?_); (case e1 => walk_at "k"); (case e2 => exact rfl); (case e3 => omega); (case e4 => (simp only [unV, List.length_cons, List.length_nil]; omega)); intro n hn; simp only [unV, List.mem_cons, List.not_mem_nil, or_false] at hn)
  | ((with_reducible refine' w_ixLast (SqL.of ?e1) ?e3 ?_); (case e1 => walk_at "k"); (case e3 => assumption); intro ini n hn)
  | ((with_reducible refine' w_ixLm (SqL.of ?e1) ?e3 ?e4 ?_); (case e1 => walk_at "k"); (case e3 => omega); (case e4 => (first | omega | (simp only [List.length_append, List.length_cons, List.length_nil, List.length_set]; omega))); intro n hn)
  | ((with_reducible refine' w_lenI (SqL.of ?e1) ?_); (case e1 => walk_at "k"))
  | ((with_reducible refine' w_len (SqL.of ?e1) ?_); (case e1 => walk_at "k"))
  | ((with_reducible refine' w_tyL ?e1 ?_); (case e1 => walk_at "k"))
  | ((with_reducible refine' w_appendI ?e1 ?e2 ?_); (case e1 => walk_at "k"); (case e2 => omega))
  | with_reducible refine w_max2 ?_
  | with_reducible refine w_min2 ?_
  | with_reducible refine w_abs ?_
  | with_reducible refine w_intI ?_
  | with_reducible refine w_intB ?_
  | ((with_reducible refine' w_sum (SqL.of ?e1) ?_); (case e1 => walk_at "k"))
  | ((with_reducible refine' w_neNil (SqL.of ?e1) (SqL.of ?e2) ?_); (case e2 => walk_at "k"); (case e1 => walk_at "k"))
  | ((with_reducible refine' w_eqNil (SqL.of ?e1) (SqL.of ?e2) ?_); (case e2 => walk_at "k"); (case e1 => walk_at "k"))
  | ((with_reducible refine' w_eqLI (SqL.of ?e1) (SqL.of ?e2) ?_); (case e1 => walk_at "k"); (case e2 => walk_at "k"))
  | ((with_reducible refine' w_neLI (SqL.of ?e1) (SqL.of ?e2) ?_); (case e1 => walk_at "k"); (case e2 => walk_at "k"))
  | with_reducible refine w_for ?_
  | with_reducible refine w_lc ?_
  | with_reducible refine w_iList ?_
  | with_reducible refine w_iTup ?_
  | ((with_reducible refine' w_iTupE (SqT.of ?e1) ?_); (case e1 => walk_at "k"))
  | with_reducible refine w_rng1 ?_
  | with_reducible refine w_rng2 ?_
  | ((with_reducible refine' w_iListE (SqL.of ?e1) ?_); (case e1 => walk_at "k"))
  | ((with_reducible refine w_rng1E ?_ ?_ ?_); omega; omega)
  | ((with_reducible refine w_rng2E ?_ ?_); omega)
  | with_reducible refine w_fldaug ?_
  | ((with_reducible refine' w_fldP ?e1 ?e2 ?e3 ?e4 ?e5 ?_); (case e1 => walk_at "k"); (case e2 => assumption); (case e3 => assumption); (case e4 => exact Nat.le_of_ble_eq_true rfl); (case e5 => walk_at "fl"))
  | ((with_reducible refine' w_fldA ?e1 ?e2 ?e3 ?e5 ?_); (case e1 => walk_at "k"); (case e2 => assumption); (case e3 => assumption); (case e5 => walk_at "fl"))
  | ((with_reducible refine' w_fldQ ?e1 ?e4 ?e5 ?_); (case e1 => walk_at "k"); (case e4 => exact Nat.le_of_ble_eq_true rfl); (case e5 => walk_at "fl"))
  | ((with_reducible refine' w_fldG ?e1 ?e2 ?e3 ?e5 ?_); (case e1 => walk_at "k"); (case e2 => assumption); (case e3 => assumption); (case e5 => walk_at "fl"))
  | with_reducible refine w_meth ?_
  | ((with_reducible refine' w_methE ?e1 ?e5 ?_); (case e1 => walk_at "k"); (case e5 => walk_at "fl"))
  | with_reducible refine w_prop ?_
  | ((with_reducible refine' w_propE ?e1 ?_); (case e1 => walk_at "k"))
  | with_reducible refine w_make ?_
  | with_reducible refine w_rAdd ?_
  | with_reducible refine w_rSub ?_
  | ((with_reducible refine' w_listof (SqL.of ?e1) ?_); (case e1 => walk_at "k"); intro p np)
  | with_reducible refine w_tYes ?_
  | ((with_reducible refine' w_appEI ?e1 ?e2 ?_); (case e1 => walk_at "k"); (case e2 => omega))
  | ((with_reducible refine' w_appEB ?e1 ?e2 ?_); (case e1 => walk_at "k"); (case e2 => omega))
  | with_reducible refine w_whT ?_
  | with_reducible refine w_lenSet ?_
  | ((with_reducible refine' w_lenSE (SqL.of ?e1) ?e2 ?_); (case e1 => walk_at "k"); (case e2 => omega))
  | ((with_reducible refine' w_isi ?e1 ?e2 ?_); (case e1 => (first | exact .base (.int _) | exact .base .non | exact .base (.bl _) | exact .base (.str _) | (refine' tyx_lst ?f1; (case f1 => walk_at "k")) | (refine' tyx_tup ?f1; (case f1 => walk_at "k")))); (case e2 => (first | exact kit_ty (r := true) (by decide +kernel) | exact kit_ty (r := false) (by decide +kernel))))
  | with_reducible refine w_sortKw ?_
  | ((with_reducible refine' w_sortedKw (SqL.of ?e1) ?_); (case e1 => walk_at "k"); intro ns' p hperm hord np)
  | ((with_reducible refine' w_sortedI (SqL.of ?e1) ?_); (case e1 => walk_at "k"); intro ns' p hperm hord np)
  | ((with_reducible refine' w_extendI ?e1 ?e2 ?e3 ?_); (case e1 => walk_at "k"); (case e2 => walk_at "k"); (case e3 => (first | omega | (simp only [List.length_replicate]; omega))))
  | ((with_reducible refine' w_rep1 ?e1 ?e2 ?e3 ?_); (case e1 => walk_at "k"); (case e2 => omega); (case e3 => omega); intro p np)
  | ((with_reducible refine' w_maxL (SqL.of ?e1) ?e2 ?_); (case e1 => walk_at "k"); (case e2 => (first | omega | (simp; done))); intro m hm hle)
  | ((with_reducible refine' w_minL (SqL.of ?e1) ?e2 ?_); (case e1 => walk_at "k"); (case e2 => (first | omega | (simp; done))); intro m hm hle)
  | ((with_reducible refine' w_catI ?e1 ?e2 ?e3 ?_); (case e1 => walk_at "k"); (case e2 => walk_at "k"); (case e3 => (first | omega | (simp only [List.length_replicate]; omega))); intro p np)
  | ((with_reducible refine' w_catIL ?e1 ?e2 ?e3 ?e4 ?_); (case e1 => walk_at "k"); (case e2 => walk_at "k"); (case e3 => exact rfl); (case e4 => (simp only [unV, List.length_cons, List.length_nil]; omega)); intro p np; dsimp only [unV])
  | ((with_reducible refine' w_catLI ?e1 ?e2 ?e3 ?e4 ?_); (case e1 => walk_at "k"); (case e2 => walk_at "k"); (case e3 => exact rfl); (case e4 => (simp only [unV, List.length_cons, List.length_nil]; omega)); intro p np; dsimp only [unV])
  | with_reducible refine w_callK0 ?_
  | ((with_reducible refine w_kwE ?e1 ?_); (case e1 => exact rfl))
  | with_reducible refine w_makeK ?_
  | ((with_reducible refine w_mkE ?e1 ?_); (case e1 => exact rfl))
  | with_reducible refine w_methK ?_
  | ((with_reducible refine' w_methKE ?e1 ?e5 ?_); (case e1 => walk_at "k"); (case e5 => walk_at "fl"))
  | ((with_reducible refine w_mkwE ?e1 ?_); (case e1 => exact rfl))
  | with_reducible refine w_enum ?_
  | with_reducible refine w_zip ?_
  | with_reducible refine w_gNil ?_
  | with_reducible refine w_gCons ?_
  | ((with_reducible refine' w_gTup (SqT.of ?e1) ?e2 ?_); (case e1 => walk_at "k"); (case e2 => exact rfl))
  | ((with_reducible refine' w_gLst (SqL.of ?e1) ?e2 ?_); (case e1 => walk_at "k"); (case e2 => exact rfl))
  | ((with_reducible refine' w_enumE (SqL.of ?e1) ?_); (case e1 => walk_at "k"))
  | ((with_reducible refine' w_zipE (SqL.of ?e1) (SqL.of ?e2) ?_); (case e1 => walk_at "k"); (case e2 => walk_at "k"))
  | with_reducible refine w_dget ?_
  | ((with_reducible refine' w_dgetE ?e1 ?e5 ?_); (case e1 => walk_at "k"); (case e5 => walk_at "dl"))
  | with_reducible refine w_dput ?_
  | ((with_reducible refine' w_dputE ?e1 ?e4 ?e5 ?_); (case e1 => walk_at "k"); (case e4 => exact Nat.le_of_ble_eq_true rfl); (case e5 => walk_at "dl"))
  | with_reducible refine w_daug ?_
  | ((with_reducible refine' w_daugE ?e1 ?e5 ?_); (case e1 => walk_at "k"); (case e5 => walk_at "dl"))
  | (with_reducible refine w_disp ?_; intro p np)
  | with_reducible refine w_pairN ?_
  | (with_reducible refine w_dnewK ?_; intro p np)
  | with_reducible refine w_dnotIn ?_
  | ((with_reducible refine' w_dnotInE ?e1 ?_); (case e1 => walk_at "k"))
  | with_reducible refine w_pairC ?_
  | ((with_reducible refine' w_dspE ?e1 ?e2 ?e3 ?e4 ?_); (case e1 => walk_at "k"); (case e2 => exact rfl); (case e3 => exact Nat.le_of_ble_eq_true rfl); (case e4 => walk_at "dn"))
  | ((with_reducible refine' w_pop0 ?e1 ?_); (case e1 => walk_at "k"))
  | ((with_reducible refine' w_reprI (log_lt ?e1) ?_); (case e1 => omega))
  | with_reducible refine w_eqS ?_
  | with_reducible refine w_eqB ?_
  | with_reducible refine w_neB ?_
  | with_reducible refine w_neS ?_
  | with_reducible refine w_sl ?_
  | with_reducible refine w_noPart ?_
  | with_reducible refine w_part ?_
  | with_reducible refine w_partE ?_
  | ((with_reducible refine' w_slI (SqL.of ?e1) ?_); (case e1 => walk_at "k"); intro p np)
  | ((with_reducible refine' w_lcount (SqL.of ?e1) ?_); (case e1 => walk_at "k"))
  | ((with_reducible refine' w_popAt ?e1 ?e2 ?e3 ?e4 ?_); (case e1 => walk_at "k"); (case e2 => omega); (case e3 => omega); (case e4 => omega); intro n hn)
  | ((with_reducible refine' w_setLI ?e1 ?e2 ?e3 ?_); (case e1 => walk_at "k"); (case e2 => omega); (case e3 => (first | omega | (simp only [List.length_set]; omega))))
  | ((with_reducible refine' w_catLL ?e1 ?e2 ?e3 ?e4 ?e5 ?_); (case e1 => walk_at "k"); (case e2 => walk_at "k"); (case e3 => exact rfl); (case e4 => exact rfl); (case e5 => exact Nat.le_of_ble_eq_true rfl); intro p np; dsimp only [unV])
  | with_reducible refine w_andV ?_
  | with_reducible refine w_orV ?_
  | with_reducible refine w_notV ?_
  | with_reducible refine w_revL ?_
  | ((with_reducible refine' w_revE (SqL.of ?e1) ?_); (case e1 => walk_at "k"); intro p np)
  | with_reducible refine w_gThen ?_
  | with_reducible refine w_gWh ?_
  | with_reducible refine w_listG ?_
  | with_reducible refine w_callG ?_
  | (with_reducible refine w_listGE ?_; intro p np)
  | with_reducible refine w_gPlain ?_
  | ((with_reducible refine w_gYield ?_ ?_); omega)
  | with_reducible refine w_g0 ?_
  | with_reducible refine w_at ?_
  | with_reducible refine w_rng3 ?_
  | ((with_reducible refine' w_appendR ?e1 ?e2 ?_); (case e1 => walk_at "k"); (case e2 => omega))
  | ((with_reducible refine w_rng3N ?_ ?_); omega)
  | with_reducible refine w_sls ?_
  | with_reducible refine w_isNN ?_
  | with_reducible refine w_isNI ?_
  | with_reducible refine w_isNR ?_
  | with_reducible refine w_notNN ?_
  | with_reducible refine w_notNI ?_
  | with_reducible refine w_notNR ?_
  | with_reducible refine w_orT ?_
  | with_reducible refine w_orN ?_
  | ((with_reducible refine' w_orI ?e1 ?_); (case e1 => omega))
  | ((with_reducible refine' w_rep3 ?e1 ?_); (case e1 => walk_at "k"); intro p np)
  | ((with_reducible refine' w_appV ?e1 ?e2 ?_); (case e1 => walk_at "k"); (case e2 => exact Nat.le_of_ble_eq_true rfl))
  | refine ⟨szle rfl, fun p np => ?_⟩)
local macro_rules | `(tactic| walk_at "g") => `(tactic| repeat walk_at "1")
local macro_rules | `(tactic| walk_at "H") => `(tactic| first | walk_at "k" | fail "heap")
local macro_rules | `(tactic| walk_at "F") => `(tactic| first | walk_at "f" | fail "frame")
local macro_rules | `(tactic| walk_at "Z") => `(tactic| first | walk_at "z" | fail "free")
local macro_rules | `(tactic| walk_at "N") => `(tactic| first | walk_at "n" | fail "differ")
local macro_rules | `(tactic| walk_at "P") => `(tactic| first | walk_at "p" | fail "pool")
local macro_rules | `(tactic| walk_at "G") => `(tactic| first | walk_at "1" | fail "step")
local macro_rules | `(tactic| walk_at "c") => `(tactic| first
  | with_reducible assumption
  | ((with_reducible refine wide_div (b := 400) ?_ ?_ (by decide) (by decide)) <;> omega)
  | ((with_reducible refine wide_mul (a := 400) (b := 400) ?_ ?_ (by decide) (by decide) (by decide)) <;> omega)
  | ((with_reducible refine CPowW.of 400 (by decide) ?_ (by decide) (by decide)); omega)
  | ((with_reducible show (0 : Int) < _); first | decide | omega))
/-! ### steps about exceptions -/
local macro_rules | `(tactic| walk_at "1") => `(tactic| first
  | with_reducible refine w_try ?_
  | with_reducible refine w_callX ?_
  | with_reducible refine w_callXE ?_
  | with_reducible refine w_callXK ?_
  | ((with_reducible refine w_kwXE ?e1 ?_); (case e1 => exact rfl))
  | with_reducible refine w_methX ?_
  | with_reducible refine w_methXK ?_
  | ((with_reducible refine' w_methXE ?e1 ?e5 ?_); (case e1 => walk_at "k"); (case e5 => walk_at "fl"))
  | with_reducible refine w_mrunXE ?_
  | ((with_reducible refine w_mkwXE ?e1 ?_); (case e1 => exact rfl))
  | with_reducible refine w_makeX ?_
  | with_reducible refine w_makeXE ?_
  | with_reducible refine w_makeXK ?_
  | ((with_reducible refine w_makeXKE ?e1 ?_); (case e1 => exact rfl))
  | with_reducible refine w_raise ?_
  | with_reducible refine w_veI ?_
  | with_reducible refine w_ost ?_
  | with_reducible refine w_xfH ?_
  | ((with_reducible refine' w_xfE ?e1 ?e2 ?e3 ?_); (case e1 => walk_at "k"); (case e2 => walk_at "k"); (case e3 => walk_at "xa"))
  | ((with_reducible refine' w_isE ?e1 ?e2 ?e3 ?e4 ?e5 ?_); (case e1 => walk_at "k"); (case e2 => walk_at "k"); (case e3 => walk_at "xa"); (case e4 => (first | exact .ty _ | exact .own _)); (case e5 => walk_at "ki"))
  | ((with_reducible refine' w_isET ?e0 ?e1 ?e2 ?e3 ?e4 ?e5 ?_); (case e0 => walk_at "k"); (case e1 => walk_at "k"); (case e2 => walk_at "k"); (case e3 => walk_at "xa"); (case e4 => walk_at "cl"); (case e5 => walk_at "ka"))
  | ((with_reducible refine' w_listofT (SqT.of ?e1) ?_); (case e1 => walk_at "k"); intro p np)
  | ((with_reducible refine w_caught ?e1 ?_); (case e1 => walk_at "ex"); intro ca nca))
local macro_rules | `(tactic| walk_at "cl") => `(tactic| with_reducible first
  | exact .nil
  | (refine' Paired.cons ?e1 ?e2; (case e1 => (first | exact .ty _ | exact .own _)); (case e2 => walk_at "cl")))
local macro_rules | `(tactic| walk_at "ka") => `(tactic| first
  | exact kit_any_nil
  | (refine' kit_any_no ?e1 ?e2; (case e1 => walk_at "ki"); (case e2 => walk_at "ka"))
  | (refine' kit_any_yes ?e1; (case e1 => walk_at "ki")))
local macro_rules | `(tactic| walk_at "1") => `(tactic| first
  | with_reducible refine w_made1 ?_
  | (with_reducible refine w_madeL ?_; intro d a nd na)
  | ((with_reducible refine w_iteZ ?e1 ?_); (case e1 => decide))
  | ((with_reducible refine w_iteY ?e1 ?_); (case e1 => decide))
  | with_reducible refine w_isNB ?_
  | with_reducible refine w_isNS ?_
  | ((with_reducible refine' w_lenTp (SqT.of ?e1) ?_); (case e1 => walk_at "k"))
  | with_reducible refine w_fj ?_
  | with_reducible refine w_iStr ?_
  | with_reducible refine w_strE ?_
  | with_reducible refine w_inS ?_
  | with_reducible refine w_js ?_
  | with_reducible refine w_js0 ?_
  | with_reducible refine w_fmt ?_
  | with_reducible refine w_m1 ?_
  | with_reducible refine w_m1E ?_
  | with_reducible refine w_made1K ?_
  | (with_reducible refine w_madeLK ?_; intro d a nd na))
/-! ### steps about generators -/
local macro_rules | `(tactic| walk_at "1") => `(tactic| first
  | with_reducible refine w_methG ?_
  | with_reducible refine w_methGK ?_
  | with_reducible refine w_grunE ?_
  | ((with_reducible refine w_gkwE ?e1 ?_); (case e1 => exact rfl))
  | with_reducible refine w_callGK ?_
  | ((with_reducible refine w_gkw0 ?e1 ?_); (case e1 => exact rfl))
  | with_reducible refine w_gFor ?_
  | with_reducible refine w_listRg ?_
  | with_reducible refine w_rg2 ?_
  | with_reducible refine w_rg1 ?_
  | with_reducible refine w_rg2E ?_
  | with_reducible refine w_rg1E ?_
  | ((with_reducible refine w_rgLE ?e1 ?e2 ?e3 ?e4 ?_); (case e1 => omega); (case e2 => omega); (case e3 => omega); (case e4 => omega); intro p np)
  | with_reducible refine w_forGR ?_
  | with_reducible refine w_methGR ?_
  | with_reducible refine w_grunR ?_
  | with_reducible refine w_cmetX ?_
  | with_reducible refine w_cmetE ?_
  | ((with_reducible refine w_makeLX ?e1 ?_); (case e1 => exact rfl)))
/-! ### steps about generators whose consumer has a body -/
local macro_rules | `(tactic| walk_at "1") => `(tactic| first
  | with_reducible refine w_nThen ?_
  | with_reducible refine w_n0 ?_
  | with_reducible refine w_nNil ?_
  | with_reducible refine w_nAt ?_
  | with_reducible refine w_nYield ?_
  | with_reducible refine w_nWh ?_
  | with_reducible refine w_forN ?_
  | with_reducible refine w_callN ?_
  | ((with_reducible refine w_callNE ?e1 ?_); (case e1 => exact rfl))
  | with_reducible refine w_callR ?_
  | with_reducible refine w_callRE ?_
  | with_reducible refine w_forGR ?_)
/-! ### a comprehension over a generator -/
local macro_rules | `(tactic| walk_at "1") => `(tactic| first
  | with_reducible refine w_lcN ?_)
namespace K02
open PySem PySem.Spec PyProof.Rows L2 Pg
def top (i : Nat) : Stmt := PySem.Challenge.pw_pagecounts_k02_page_counts.main.body.getD i (.Pass ⟨0, 0, 0, 0⟩)
abbrev s_law_source : Stmt := (top 23)
abbrev sc_law_source_N : List Str := ["script", "mix", "digits", "cell", "span"]
theorem sc_law_source : FnScope sc_law_source_N ["script"] (defScope s_law_source) := ⟨rfl, rfl, rfl, by decide +kernel, rfl, by decide +kernel, by decide +kernel⟩
abbrev s_law_draw : Stmt := (top 24)
abbrev sc_law_draw_N : List Str := ["source", "many", "drawn", "mixed"]
theorem sc_law_draw : FnScope sc_law_draw_N ["source", "many"] (defScope s_law_draw) := ⟨rfl, rfl, rfl, by decide +kernel, rfl, by decide +kernel, by decide +kernel⟩
abbrev s_InvalidNumber___init__ : Stmt := (inClass (top 4) 0)
abbrev sc_InvalidNumber___init___N : List Str := ["self", "value"]
theorem sc_InvalidNumber___init__ : FnScope sc_InvalidNumber___init___N ["self", "value"] (defScope s_InvalidNumber___init__) := ⟨rfl, rfl, rfl, by decide +kernel, rfl, by decide +kernel, by decide +kernel⟩
abbrev s_check_book : Stmt := (top 7)
abbrev sc_check_book_N : List Str := ["book", "index", "length"]
theorem sc_check_book : FnScope sc_check_book_N ["book"] (defScope s_check_book) := ⟨rfl, rfl, rfl, by decide +kernel, rfl, by decide +kernel, by decide +kernel⟩
abbrev s_check_size : Stmt := (top 8)
abbrev sc_check_size_N : List Str := ["size"]
theorem sc_check_size : FnScope sc_check_size_N ["size"] (defScope s_check_size) := ⟨rfl, rfl, rfl, by decide +kernel, rfl, by decide +kernel, by decide +kernel⟩
abbrev s_chapter_pages : Stmt := (top 9)
abbrev sc_chapter_pages_N : List Str := ["length", "size"]
theorem sc_chapter_pages : FnScope sc_chapter_pages_N ["length", "size"] (defScope s_chapter_pages) := ⟨rfl, rfl, rfl, by decide +kernel, rfl, by decide +kernel, by decide +kernel⟩
abbrev s_count_pages : Stmt := (top 10)
abbrev sc_count_pages_N : List Str := ["book", "size", "length"]
theorem sc_count_pages : FnScope sc_count_pages_N ["book", "size"] (defScope s_count_pages) := ⟨rfl, rfl, rfl, by decide +kernel, rfl, by decide +kernel, by decide +kernel⟩
abbrev s_pages : Stmt := (top 11)
abbrev sc_pages_N : List Str := ["book", "size"]
theorem sc_pages : FnScope sc_pages_N ["book", "size"] (defScope s_pages) := ⟨rfl, rfl, rfl, by decide +kernel, rfl, by decide +kernel, by decide +kernel⟩
abbrev s_counts : Stmt := (top 12)
abbrev sc_counts_N : List Str := ["book", "limit", "size"]
theorem sc_counts : GScope sc_counts_N ["book", "limit"] (defScope s_counts) := ⟨rfl, rfl, rfl, by decide +kernel, rfl, by decide +kernel, by decide +kernel⟩
abbrev s_law_same : Stmt := (top 25)
abbrev sc_law_same_N : List Str := ["found", "wanted", "k"]
theorem sc_law_same : FnScope sc_law_same_N ["found", "wanted"] (defScope s_law_same) := ⟨rfl, rfl, rfl, by decide +kernel, rfl, by decide +kernel, by decide +kernel⟩
abbrev s_number_of : Stmt := (top 19)
abbrev sc_number_of_N : List Str := ["word", "sign"]
theorem sc_number_of : FnScope sc_number_of_N ["word"] (defScope s_number_of) := ⟨rfl, rfl, rfl, by decide +kernel, rfl, by decide +kernel, by decide +kernel⟩
abbrev s_stretch_of : Stmt := (top 20)
abbrev sc_stretch_of_N : List Str := ["word", "parts", "part"]
theorem sc_stretch_of : FnScope sc_stretch_of_N ["word"] (defScope s_stretch_of) := ⟨rfl, rfl, rfl, by decide +kernel, rfl, by decide +kernel, by decide +kernel⟩
abbrev s_read_book : Stmt := (top 21)
abbrev sc_read_book_N : List Str := ["text", "book", "word", "stretch"]
theorem sc_read_book : FnScope sc_read_book_N ["text"] (defScope s_read_book) := ⟨rfl, rfl, rfl, by decide +kernel, rfl, by decide +kernel, by decide +kernel⟩
abbrev s_law_lengths : Stmt := (top 26)
abbrev sc_law_lengths_N : List Str := ["source", "many", "wide", "part"]
theorem sc_law_lengths : FnScope sc_law_lengths_N ["source", "many"] (defScope s_law_lengths) := ⟨rfl, rfl, rfl, by decide +kernel, rfl, by decide +kernel, by decide +kernel⟩
abbrev s_law_wide : Stmt := (top 27)
abbrev sc_law_wide_N : List Str := ["source", "lengths", "one", "some"]
theorem sc_law_wide : FnScope sc_law_wide_N ["source", "lengths"] (defScope s_law_wide) := ⟨rfl, rfl, rfl, by decide +kernel, rfl, by decide +kernel, by decide +kernel⟩
abbrev s_law_sheets : Stmt := (top 28)
abbrev sc_law_sheets_N : List Str := ["long", "wide"]
theorem sc_law_sheets : FnScope sc_law_sheets_N ["long", "wide"] (defScope s_law_sheets) := ⟨rfl, rfl, rfl, by decide +kernel, rfl, by decide +kernel, by decide +kernel⟩
abbrev s_law_total : Stmt := (top 29)
abbrev sc_law_total_N : List Str := ["lengths", "wide", "found", "long"]
theorem sc_law_total : FnScope sc_law_total_N ["lengths", "wide"] (defScope s_law_total) := ⟨rfl, rfl, rfl, by decide +kernel, rfl, by decide +kernel, by decide +kernel⟩
abbrev s_law_first : Stmt := (top 30)
abbrev sc_law_first_N : List Str := ["lengths", "most", "many", "found", "number"]
theorem sc_law_first : FnScope sc_law_first_N ["lengths", "most", "many"] (defScope s_law_first) := ⟨rfl, rfl, rfl, by decide +kernel, rfl, by decide +kernel, by decide +kernel⟩
abbrev s_law_pairs : Stmt := (top 31)
abbrev sc_law_pairs_N : List Str := ["lengths", "most", "found", "number", "other"]
theorem sc_law_pairs : FnScope sc_law_pairs_N ["lengths", "most"] (defScope s_law_pairs) := ⟨rfl, rfl, rfl, by decide +kernel, rfl, by decide +kernel, by decide +kernel⟩
abbrev s_law_walks_right : Stmt := (top 32)
abbrev sc_law_walks_right_N : List Str := ["source", "lengths", "most", "due", "few", "both", "number", "wide", "spot", "other"]
theorem sc_law_walks_right : FnScope sc_law_walks_right_N ["source", "lengths"] (defScope s_law_walks_right) := ⟨rfl, rfl, rfl, by decide +kernel, rfl, by decide +kernel, by decide +kernel⟩
abbrev s_law : Stmt := (top 33)
abbrev sc_law_N : List Str := ["script", "source", "k", "lengths", "turn", "saved", "wide", "told", "at", "many", "long", "lots", "time"]
theorem sc_law : FnScope sc_law_N ["script"] (defScope s_law) := ⟨rfl, rfl, rfl, by decide +kernel, rfl, by decide +kernel, by decide +kernel⟩
/-- where the classes stand -/
structure Cs where
  InvalidBook : Addr
  InvalidNumber : Addr
  InvalidSize : Addr
  Unreadable : Addr
  BookError : Addr
  nil_ : Unit
/-- what the top has written -/
structure Txt (K : PySem.W.Frag) (mg : Str → Option Value) (c : Cs) : Prop where
  triv_ : True
  n_all : mg "all" = none
  n_bool : mg "bool" = none
  n_enumerate : mg "enumerate" = none
  n_int : mg "int" = none
  n_isinstance : mg "isinstance" = none
  n_len : mg "len" = none
  n_list : mg "list" = none
  n_max : mg "max" = none
  n_min : mg "min" = none
  n_range : mg "range" = none
  n_repr : mg "repr" = none
  n_str : mg "str" = none
  n_sum : mg "sum" = none
  n_tuple : mg "tuple" = none
  c_BETWEEN : ∃ t, mg "BETWEEN" = some (.str " + " t)
  c_DIGITS : ∃ t, mg "DIGITS" = some (.str "0123456789" t)
  c_EMPTY : ∃ t, mg "EMPTY" = some (.str "empty" t)
  c_MOST_DIGITS : ∃ t, mg "MOST_DIGITS" = some (.int 40 t)
  c_TIMES : ∃ t, mg "TIMES" = some (.str "x" t)
  xb_ : ExBase K mg "BookError" c.BookError
  xd_ : PySem.W.hasDictIn K c.BookError = true
  xt_ : PySem.W.typeIn K (.ref c.BookError) = some (.type "type")
  xe_ : PySem.W.subIn K (.ref c.BookError) (.type "BaseException") = some true
  x_InvalidBook : ExAt K mg "InvalidBook" c.InvalidBook
  x_InvalidNumber : ExAt K mg "InvalidNumber" c.InvalidNumber
  x_InvalidSize : ExAt K mg "InvalidSize" c.InvalidSize
  x_Unreadable : ExAt K mg "Unreadable" c.Unreadable
  sb_InvalidNumber_InvalidBook : PySem.W.subIn K (.ref c.InvalidNumber) (.ref c.InvalidBook) = some false
  sb_InvalidNumber_InvalidNumber : PySem.W.subIn K (.ref c.InvalidNumber) (.ref c.InvalidNumber) = some true
  sb_InvalidNumber_InvalidSize : PySem.W.subIn K (.ref c.InvalidNumber) (.ref c.InvalidSize) = some false
  sb_InvalidNumber_Unreadable : PySem.W.subIn K (.ref c.InvalidNumber) (.ref c.Unreadable) = some false
  sb_InvalidNumber_BookError : PySem.W.subIn K (.ref c.InvalidNumber) (.ref c.BookError) = some true
  sb_InvalidNumber_ValueError : PySem.W.subIn K (.ref c.InvalidNumber) (.type "ValueError") = some true
  f_law_source : FunAt K mg "_law_source" s_law_source
  f_law_draw : FunAt K mg "_law_draw" s_law_draw
  f_InvalidNumber___init__ : MethAt K c.InvalidNumber "__init__" "InvalidNumber.__init__" s_InvalidNumber___init__
  f_check_book : FunAt K mg "check_book" s_check_book
  f_check_size : FunAt K mg "check_size" s_check_size
  f_chapter_pages : FunAt K mg "chapter_pages" s_chapter_pages
  f_count_pages : FunAt K mg "count_pages" s_count_pages
  f_pages : FunAt K mg "pages" s_pages
  f_counts : FunAt K mg "counts" s_counts
  f_law_same : FunAt K mg "_law_same" s_law_same
  f_number_of : FunAt K mg "number_of" s_number_of
  f_stretch_of : FunAt K mg "stretch_of" s_stretch_of
  f_read_book : FunAt K mg "read_book" s_read_book
  f_law_lengths : FunAt K mg "_law_lengths" s_law_lengths
  f_law_wide : FunAt K mg "_law_wide" s_law_wide
  f_law_sheets : FunAt K mg "_law_sheets" s_law_sheets
  f_law_total : FunAt K mg "_law_total" s_law_total
  f_law_first : FunAt K mg "_law_first" s_law_first
  f_law_pairs : FunAt K mg "_law_pairs" s_law_pairs
  f_law_walks_right : FunAt K mg "_law_walks_right" s_law_walks_right
  f_law : FunAt K mg "law" s_law
theorem kit_InvalidNumber_InvalidBook {K : PySem.W.Frag} {mg : Str → Option Value} {c : Cs} (T : Txt K mg c) : PySem.W.kitOne K (.ref c.InvalidNumber) (.ref c.InvalidBook) = some false := kit_ex T.x_InvalidBook.hd T.x_InvalidBook.o.tyC T.sb_InvalidNumber_InvalidNumber T.sb_InvalidNumber_InvalidBook
theorem exm_InvalidNumber_InvalidBook {K : PySem.W.Frag} {mg : Str → Option Value} {c : Cs} (T : Txt K mg c) : PySem.W.exmOne K (.ref c.InvalidNumber) (.ref c.InvalidBook) = some false := PySem.W.exm_ref T.x_InvalidBook.o.exC T.x_InvalidBook.hd T.x_InvalidBook.o.tyC T.sb_InvalidNumber_InvalidBook
theorem kit_InvalidNumber_InvalidNumber {K : PySem.W.Frag} {mg : Str → Option Value} {c : Cs} (T : Txt K mg c) : PySem.W.kitOne K (.ref c.InvalidNumber) (.ref c.InvalidNumber) = some true := kit_ex T.x_InvalidNumber.hd T.x_InvalidNumber.o.tyC T.sb_InvalidNumber_InvalidNumber T.sb_InvalidNumber_InvalidNumber
theorem exm_InvalidNumber_InvalidNumber {K : PySem.W.Frag} {mg : Str → Option Value} {c : Cs} (T : Txt K mg c) : PySem.W.exmOne K (.ref c.InvalidNumber) (.ref c.InvalidNumber) = some true := PySem.W.exm_ref T.x_InvalidNumber.o.exC T.x_InvalidNumber.hd T.x_InvalidNumber.o.tyC T.sb_InvalidNumber_InvalidNumber
theorem kit_InvalidNumber_InvalidSize {K : PySem.W.Frag} {mg : Str → Option Value} {c : Cs} (T : Txt K mg c) : PySem.W.kitOne K (.ref c.InvalidNumber) (.ref c.InvalidSize) = some false := kit_ex T.x_InvalidSize.hd T.x_InvalidSize.o.tyC T.sb_InvalidNumber_InvalidNumber T.sb_InvalidNumber_InvalidSize
theorem exm_InvalidNumber_InvalidSize {K : PySem.W.Frag} {mg : Str → Option Value} {c : Cs} (T : Txt K mg c) : PySem.W.exmOne K (.ref c.InvalidNumber) (.ref c.InvalidSize) = some false := PySem.W.exm_ref T.x_InvalidSize.o.exC T.x_InvalidSize.hd T.x_InvalidSize.o.tyC T.sb_InvalidNumber_InvalidSize
theorem kit_InvalidNumber_Unreadable {K : PySem.W.Frag} {mg : Str → Option Value} {c : Cs} (T : Txt K mg c) : PySem.W.kitOne K (.ref c.InvalidNumber) (.ref c.Unreadable) = some false := kit_ex T.x_Unreadable.hd T.x_Unreadable.o.tyC T.sb_InvalidNumber_InvalidNumber T.sb_InvalidNumber_Unreadable
theorem exm_InvalidNumber_Unreadable {K : PySem.W.Frag} {mg : Str → Option Value} {c : Cs} (T : Txt K mg c) : PySem.W.exmOne K (.ref c.InvalidNumber) (.ref c.Unreadable) = some false := PySem.W.exm_ref T.x_Unreadable.o.exC T.x_Unreadable.hd T.x_Unreadable.o.tyC T.sb_InvalidNumber_Unreadable
theorem kit_InvalidNumber_BookError {K : PySem.W.Frag} {mg : Str → Option Value} {c : Cs} (T : Txt K mg c) : PySem.W.kitOne K (.ref c.InvalidNumber) (.ref c.BookError) = some true := kit_ex T.xd_ T.xt_ T.sb_InvalidNumber_InvalidNumber T.sb_InvalidNumber_BookError
theorem exm_InvalidNumber_BookError {K : PySem.W.Frag} {mg : Str → Option Value} {c : Cs} (T : Txt K mg c) : PySem.W.exmOne K (.ref c.InvalidNumber) (.ref c.BookError) = some true := PySem.W.exm_ref T.xe_ T.xd_ T.xt_ T.sb_InvalidNumber_BookError
theorem kit_InvalidNumber_ValueError {K : PySem.W.Frag} {mg : Str → Option Value} {c : Cs} (T : Txt K mg c) : PySem.W.kitOne K (.ref c.InvalidNumber) (.type "ValueError") = some true := kit_exT (by decide +kernel) T.sb_InvalidNumber_ValueError
local macro_rules | `(tactic| walk_at "ki") => `(tactic| first
  | exact kit_InvalidNumber_InvalidBook (by assumption)
  | exact kit_InvalidNumber_InvalidNumber (by assumption)
  | exact kit_InvalidNumber_InvalidSize (by assumption)
  | exact kit_InvalidNumber_Unreadable (by assumption)
  | exact kit_InvalidNumber_BookError (by assumption)
  | exact kit_InvalidNumber_ValueError (by assumption))
local macro_rules | `(tactic| walk_at "ex") => `(tactic| first
  | exact exm_InvalidNumber_InvalidNumber (by assumption)
  | exact exm_InvalidNumber_BookError (by assumption))
local macro_rules | `(tactic| walk_at "xa") => `(tactic| first
  | exact Txt.x_InvalidNumber (by assumption))
def spLaw (K : PySem.W.Frag) : Sp := fun vs H Q _ => ∃ (a : Addr) (ns : List Int), vs = [.ref a] ∧ SqL K H a (ns.map V.int) ∧ ns.length ≤ 63 ∧ (∀ z ∈ ns, Builtin.Int.intBits z ≤ 1048576) ∧ ∀ H', Q (.bl true) H'
section
variable {P : Program} {w : World} {K : PySem.W.Frag} {mg : Str → Option Value} {base : Heap} {c : Cs}
/-- a source of drawn numbers at a, its digits at g: n numbers were mixed -/
def Src (H : Hp) (a g : Addr) (n : Int) : Prop := ∃ (ds : List Int) (l m t : Int), H a = some (.lst [.ref g, .int l, .int m, .int t]) ∧ H g = some (.lst (ds.map V.int)) ∧ (∀ x ∈ ds, 0 ≤ x) ∧ 0 ≤ l ∧ 0 ≤ m ∧ m < 2 ^ 64 ∧ 0 ≤ t ∧ t ≤ n ∧ a ≠ g
section
variable {H H' : Hp} {a g p dx : Addr} {n : Int} {o u : HO} {S : List Addr}
theorem Src.new (h : Src H a g n) (np : H p = none) : Src (upd H p o) a g n := by
  obtain ⟨ds, l, m, t, h1, h2, r⟩ := h
  exact ⟨ds, l, m, t, at_upd h1 np, at_upd h2 np, r⟩
theorem Src.make (h : Src H a g n) (n1 : H dx = none) (n2 : H p = none) : Src (upd (upd H dx u) p o) a g n := by
  obtain ⟨ds, l, m, t, h1, h2, r⟩ := h
  exact ⟨ds, l, m, t, at_make h1 n1 n2, at_make h2 n1 n2, r⟩
theorem Src.ne (h : Src H a g n) (np : H p = none) : p ≠ a := by
  obtain ⟨ds, l, m, t, h1, h2, r⟩ := h
  exact (ne_of_none h1 np).symm
theorem Src.ne2 (h : Src H a g n) (np : H p = none) : p ≠ g := by
  obtain ⟨ds, l, m, t, h1, h2, r⟩ := h
  exact (ne_of_none h2 np).symm
theorem Src.fr (h : Src H a g n) (f : Fr S H H') (ns : a ∉ S) (ns2 : g ∉ S) : Src H' a g n := by
  obtain ⟨ds, l, m, t, h1, h2, r⟩ := h
  exact ⟨ds, l, m, t, f.at ns h1, f.at ns2 h2, r⟩
theorem Src.put (h : Src H a g n) (np : p ≠ a) (np2 : p ≠ g) : Src (upd H p o) a g n := by
  obtain ⟨ds, l, m, t, h1, h2, r⟩ := h
  exact ⟨ds, l, m, t, by rw [upd_ne np.symm]; exact h1, by rw [upd_ne np2.symm]; exact h2, r⟩
theorem Src.le {k : Int} (h : Src H a g n) (hk : n ≤ k) : Src H a g k := by
  obtain ⟨ds, l, m, t, h1, h2, h3, h4, h5, h6, h7, h8, h9⟩ := h
  exact ⟨ds, l, m, t, h1, h2, h3, h4, h5, h6, h7, by omega, h9⟩
end
local macro_rules | `(tactic| walk_at "p") => `(tactic| first
  | assumption
  | (refine' Src.make ?e2 ?e1 ?e3; (case e1 => assumption); (case e3 => assumption); (case e2 => walk_at "p"))
  | (refine' Src.new ?e2 ?e1; (case e1 => assumption); (case e2 => walk_at "p"))
  | (refine' Src.put ?e2 ?e1 ?e4; (case e1 => walk_at "n"); (case e4 => walk_at "n"); (case e2 => walk_at "p"))
  | (refine' Src.fr ?e2 ?e1 ?e3 ?e4; (case e1 => assumption); (case e3 => exact List.not_mem_nil); (case e4 => exact List.not_mem_nil); (case e2 => walk_at "p")))
local macro_rules | `(tactic| walk_at "n") => `(tactic| first
  | assumption
  | exact Ne.symm (by assumption)
  | (refine' Src.ne ?e2 ?e1; (case e1 => assumption); (case e2 => walk_at "p"))
  | (refine' Ne.symm (Src.ne ?e2 ?e1); (case e1 => assumption); (case e2 => walk_at "p"))
  | (refine' Src.ne2 ?e2 ?e1; (case e1 => assumption); (case e2 => walk_at "p"))
  | (refine' Ne.symm (Src.ne2 ?e2 ?e1); (case e1 => assumption); (case e2 => walk_at "p")))
def spSource (K : PySem.W.Frag) : Sp := fun vs H Q _ => ∃ (a : Addr) (ns : List Int), vs = [.ref a] ∧ SqL K H a (ns.map V.int) ∧ ns.length ≤ 63 ∧ ∀ p g H', Fr [] H H' → H p = none → H g = none → Src H' p g 0 → Q (.ref p) H'
def spDraw : Sp := fun vs H Q _ => ∃ (a g : Addr) (k n : Int), vs = [.ref a, .int n] ∧ Src H a g k ∧ 0 < n ∧ n < 2 ^ 300 ∧ k < 2 ^ 40 ∧
  ∀ (r k' : Int) (H' : Hp), 0 ≤ r → r < n → k' ≤ k + 1 → Src H' a g k' → Fr [a, g] H H' → Q (.int r) H'
theorem spDraw.go {H : Hp} {a g : Addr} {k n : Int} {Q : VK} {E : XK} (p : Src H a g k) (n0 : 0 < n) (n1 : n < 2 ^ 300) (k1 : k < 2 ^ 40)
    (h : ∀ (r k' : Int) (H' : Hp), 0 ≤ r → r < n → k' ≤ k + 1 → Src H' a g k' → Fr [a, g] H H' → Q (.int r) H') : spDraw ([.ref a, .int n] ++ []) H Q E := ⟨a, g, k, n, rfl, p, n0, n1, k1, h⟩
set_option maxHeartbeats 4000000 in
theorem ok_law_source (T : Txt K mg c) : DefAt P w K mg base "_law_source" s_law_source 1 ["script"] (spSource K) := by
  refine T.f_law_source.ok sc_law_source (fun vs H Q E h => ?_) (fun _ _ _ _ _ _ us hl => match us, hl with | [_], _ => rfl) (fun f cdv A outer s H vs Q E hr h => ?_)
  · obtain ⟨a, ns, rfl, hS, hl, q⟩ := h
    rfl
  · obtain ⟨a, ns, rfl, hS, hl, q⟩ := h
    refine ⟨_, (pss_cons (ps_set (i := 1) sc_law_source.nd rfl (Or.inl rfl) pe_int)
    (pss_cons (ps_set (i := 2) sc_law_source.nd rfl (Or.inl rfl) (pe_lst pa_nil))
    (pss_cons (ps_for PassesOwn.never rfl (pi_list (pv 0)) (pg_name (i := 3) sc_law_source.nd rfl (Or.inl rfl)) (pss_cons (ps_set (i := 1) sc_law_source.nd rfl (Or.inl rfl) (pe_op op_mod (pe_op op_add (pe_op op_mulW (pv 1) pe_int) (pv 3)) (pe_op op_sub (pe_op op_powW pe_int pe_int) pe_int)))
    (pss_cons (ps_set (i := 4) sc_law_source.nd rfl (Or.inl rfl) (pe_callB (call_max2N rfl) (by rfl) T.n_max (by decide +kernel) (pa_cons (pv 3) (pa_cons (pe_op op_sub pe_int (pv 3)) pa_nil))))
    (pss_one (ps_if (pt_cmpR op_ge (pv 4) (pe_op op_powW pe_int pe_int) (nomark _)) (pss_one (ps_expr (pe_bm PySem.F.plainAttrs_list PySem.F.slot_list_append PySem.F.type_list_append mt_append (pv 2) (pa_cons (pe_op op_sub (pv 4) (pe_op op_powW pe_int pe_int)) pa_nil)))) pss_nil)))))
    (pss_one (ps_ret (pe_lst (pa_cons (pv 2) (pa_cons pe_int (pa_cons (pv 1) (pa_cons pe_int pa_nil)))))))))), ?_⟩
    refine w_start (σ' := [some (.ref a), none, none, none, none]) rfl ?_
    walk_at "g"
    rename_i p1 np1
    refine w_iListE (Fr.seqL (S := []) (H := H) (by walk_at "F") List.not_mem_nil hS) ?_
    refine f_list (ns.map V.int) (fun i σ' H' => ∃ (v w : Option V) (b : Int) (gs : List Int), σ' = [some (.ref a), some (.int b), some (.ref p1), v, w] ∧ Fr [] H H' ∧ H' p1 = some (.lst (gs.map V.int)) ∧ (∀ x ∈ gs, 0 ≤ x) ∧ gs.length ≤ i ∧ 0 ≤ b ∧ b < 2 ^ 64) ?_ ?_ ?_ ?_
    · exact ⟨none, none, 271828182845904, [], rfl, by walk_at "F", (by walk_at "H" : upd H p1 (.lst []) p1 = some (.lst [])), by simp, by simp, by omega, by omega⟩
    · rintro i σ' H' hi ⟨v, w, b, gs, rfl, f1, h1, _⟩
      exact f1.seqL List.not_mem_nil hS
    · rintro i x σ' H' hx ⟨v, w, b, gs, rfl, f1, h1, gp, gl, b0, b1⟩
      obtain ⟨n, hn, rfl⟩ := map_at hx
      have hil := (List.getElem?_eq_some_iff.mp hn).1
      walk_at "g"
      have e0 := Int.emod_nonneg (b * 1000033 + n) (show (2305843009213693952 - 1 : Int) ≠ 0 by decide)
      have e1 := Int.emod_lt_of_pos (b * 1000033 + n) (show (0 : Int) < 2305843009213693952 - 1 by decide)
      refine w_ite (fun h => ?_) (fun h => ?_)
      · walk_at "g"
        exact ⟨_, _, _, _, rfl, by walk_at "F", upd_same, mem_snoc gp (by omega), by simp; omega, e0, by omega⟩
      · walk_at "g"
        exact ⟨_, _, _, _, rfl, f1, h1, gp, by omega, e0, by omega⟩
    · rintro σ' H' ⟨v, w, b, gs, rfl, f1, h1, gp, gl, b0, b1⟩
      walk_at "g"
      rename_i p3 np3
      exact q p3 p1 _ (by walk_at "F") (by walk_at "Z") np1 ⟨gs, 0, b, 0, upd_same, by walk_at "H", gp, by omega, b0, b1, by omega, by omega, by walk_at "N"⟩
local macro_rules | `(tactic| walk_at "1") => `(tactic| ((with_reducible refine' spDraw.go ?e1 ?e2 ?e3 ?e4 ?_); (case e1 => walk_at "p"); (case e2 => omega); (case e3 => omega); (case e4 => omega); intro r k' H' r0 r1 rk rp rf))
set_option maxHeartbeats 4000000 in
theorem ok_law_draw (T : Txt K mg c) : DefAt P w K mg base "_law_draw" s_law_draw 1 ["source", "many"] spDraw := by
  refine T.f_law_draw.ok sc_law_draw (fun vs H Q E h => ?_) (fun _ _ _ _ _ _ us hl => match us, hl with | [_, _], _ => rfl) (fun f cdv A outer s H vs Q E hr h => ?_)
  · obtain ⟨a, g, k, n, rfl, ⟨ds, l, m, t, ha, hg, hn, l0, m0, m1, t0, t1, hag⟩, n0, n1, k1, q⟩ := h
    rfl
  · obtain ⟨a, g, k, n, rfl, ⟨ds, l, m, t, ha, hg, hn, l0, m0, m1, t0, t1, hag⟩, n0, n1, k1, q⟩ := h
    refine ⟨_, (pss_cons (ps_while PassesOwn.never (PW.pt (pw_and (pt_cmpR op_lt (pe_ix ix_list (pv 0) pe_int (fun _ _ => rfl)) pe_int (nomark _)) (pw_and1 (pt_cmpR (op_neD hr.units) (pe_ix ix_list (pv 0) pe_int (fun _ _ => rfl)) (pe_lst pa_nil) (nomark _))))) (pss_one (ps_asg (pe_bm PySem.F.plainAttrs_list PySem.F.slot_list_pop PySem.F.type_list_pop mt_popAt (pe_ix ix_list (pv 0) pe_int (fun _ _ => rfl)) (pa_cons pe_int pa_nil)) (pg_sub (pv 0) pe_int set_list))))
    (pss_cons (ps_if (pt_cmpR op_ge (pe_ix ix_list (pv 0) pe_int (fun _ _ => rfl)) pe_int (nomark _)) (pss_cons (ps_set (i := 2) sc_law_draw.nd rfl (Or.inl rfl) (pe_op op_mod (pe_ix ix_list (pv 0) pe_int (fun _ _ => rfl)) (pv 1)))
    (pss_cons (ps_asg (pe_op op_fdivW (pe_ix ix_list (pv 0) pe_int (fun _ _ => rfl)) (pv 1)) (pg_sub (pv 0) pe_int set_list))
    (pss_one (ps_ret (pv 2))))) pss_nil)
    (pss_cons (ps_asg (pe_op op_add (pe_ix ix_list (pv 0) pe_int (fun _ _ => rfl)) pe_int) (pg_sub (pv 0) pe_int set_list))
    (pss_cons (ps_set (i := 3) sc_law_draw.nd rfl (Or.inl rfl) (pe_op op_mulW (pe_op op_add (pe_ix ix_list (pv 0) pe_int (fun _ _ => rfl)) pe_int) (pe_op op_powW (pe_op op_add (pe_ix ix_list (pv 0) pe_int (fun _ _ => rfl)) pe_int) pe_int)))
    (pss_cons (ps_set (i := 3) sc_law_draw.nd rfl (Or.inl rfl) (pe_op op_mod (pe_op op_add (pv 3) (pe_op op_mulW pe_int (pe_ix ix_list (pv 0) pe_int (fun _ _ => rfl)))) (pe_op op_sub (pe_op op_powW pe_int pe_int) pe_int)))
    (pss_one (ps_ret (pe_op op_mod (pe_op op_fdivW (pe_op op_mod (pe_op op_powW (pv 3) pe_int) (pe_op op_add (pe_op op_powW pe_int pe_int) pe_int)) pe_int) (pv 1))))))))), ?_⟩
    refine w_start (σ' := [some (.ref a), some (.int n), none, none]) rfl ?_
    walk_at "g"
    refine w_whileJ (fun σ' H' => ∃ (ds : List Int) (l : Int), σ' = [some (.ref a), some (.int n), none, none] ∧ H' a = some (.lst [.ref g, .int l, .int m, .int t]) ∧ H' g = some (.lst (ds.map V.int)) ∧ (∀ x ∈ ds, 0 ≤ x) ∧ 0 ≤ l ∧ Fr [a, g] H H') (fun nxt rest => ?_) ?_
    · refine w_while (fun j σ' H' => ∃ (ds : List Int) (l : Int), σ' = [some (.ref a), some (.int n), none, none] ∧ H' a = some (.lst [.ref g, .int l, .int m, .int t]) ∧ H' g = some (.lst (ds.map V.int)) ∧ (∀ x ∈ ds, 0 ≤ x) ∧ 0 ≤ l ∧ Fr [a, g] H H' ∧ ds.length = j) ds.length ⟨ds, l, rfl, ha, hg, hn, l0, Fr.refl, rfl⟩ ?_
      clear ha hg hn l0 ds l
      rintro j σ' H' ⟨ds, l, rfl, ha, hg, hn, l0, f1, hj⟩
      walk_at "g"
      refine w_ite (fun h => ?_) (fun h => ?_)
      · walk_at "g"
        refine w_iteN (fun hne => ?_) (fun he => ?_)
        · cases ds with
          | nil => exact absurd rfl hne
          | cons x ds =>
            walk_at "g"
            rename_i p np
            have h2 : p ≠ g := (ne_of_none hg np).symm
            have h3 : p ≠ a := (ne_of_none ha np).symm
            simp only [List.length_cons] at hj
            exact ⟨ds.length, by omega, ds, x, rfl, upd_same, by walk_at "H", fun y hy => hn y (by simp [hy]), hn x (by simp), by walk_at "F", rfl⟩
        · walk_at "g"
          exact rest _ _ ⟨ds, l, rfl, by walk_at "H", by walk_at "H", hn, l0, by walk_at "F"⟩
      · walk_at "g"
        exact rest _ _ ⟨ds, l, rfl, ha, hg, hn, l0, f1⟩
    · clear ha hg hn l0 ds l
      rintro σ' H' ⟨ds, l, rfl, ha, hg, hn, l0, f1⟩
      walk_at "g"
      refine w_ite (fun h => ?_) (fun h => ?_)
      · walk_at "g"
        exact q _ k _ (Int.emod_nonneg _ (by omega)) (Int.emod_lt_of_pos _ n0) (by omega) ⟨ds, _, m, t, upd_same, by walk_at "H", hn, Int.ediv_nonneg l0 (by omega), m0, m1, t0, t1, hag⟩ (by walk_at "F")
      · walk_at "g"
        have c1 : (t + 1 + 3) ^ 3 = (t + 4) * (t + 4) * (t + 4) := by
          rw [show t + 1 + 3 = t + 4 by omega, Int.pow_succ, Int.pow_succ, Int.pow_succ, Int.pow_zero, Int.one_mul]
        have s1 : (t + 4) * (t + 4) ≤ 2 ^ 41 * 2 ^ 41 := Int.mul_le_mul (by omega) (by omega) (by omega) (by omega)
        have s0 : 0 ≤ (t + 4) * (t + 4) := Int.mul_nonneg (by omega) (by omega)
        have c2 : 0 ≤ (t + 1 + 3) ^ 3 := by rw [c1]; exact Int.mul_nonneg s0 (by omega)
        have c3 : (t + 1 + 3) ^ 3 ≤ 2 ^ 82 * 2 ^ 41 := by rw [c1]; exact Int.mul_le_mul (by omega) (by omega) (by omega) (by omega)
        walk_at "g"
        exact q _ (k + 1) _ (Int.emod_nonneg _ (by omega)) (Int.emod_lt_of_pos _ n0) (by omega) ⟨ds, l, m, t + 1, upd_same, by walk_at "H", hn, l0, m0, m1, by omega, by omega, hag⟩ (by walk_at "F")
/-! ### tables of page counts -/
/-- how many chapters are longer than i -/
def gt (ns : List Int) (i : Int) : Int := (ns.countP fun x => decide (i < x) : Nat)
def ct (ns : List Int) (s : Int) : Int := (ns.map fun x => (x - 1) / s + 1).sum
theorem gt_cons (x : Int) (ns : List Int) (i : Int) : gt (x :: ns) i = gt ns i + if i < x then 1 else 0 := by
  unfold gt
  rw [List.countP_cons]
  by_cases h : i < x <;> simp [h]
theorem ct_cons (x : Int) (ns : List Int) (s : Int) : ct (x :: ns) s = (x - 1) / s + 1 + ct ns s := by simp [ct]
theorem gt_nonneg (ns : List Int) (i : Int) : 0 ≤ gt ns i := by unfold gt; omega
theorem gt_le (ns : List Int) (i : Int) : gt ns i ≤ ns.length := by
  unfold gt
  have := List.countP_le_length (p := fun x => decide (i < x)) (l := ns)
  omega
theorem gt_mono {ns : List Int} {i j : Int} (h : i ≤ j) : gt ns j ≤ gt ns i := by
  induction ns with
  | nil => simp [gt]
  | cons x ns ih =>
    rw [gt_cons, gt_cons]
    split <;> split <;> omega
theorem gt_zero {ns : List Int} {i : Int} (h : ∀ x ∈ ns, x ≤ i) : gt ns i = 0 := by
  induction ns with
  | nil => simp [gt]
  | cons x ns ih =>
    rw [gt_cons, ih fun y hy => h y (List.mem_cons_of_mem _ hy), if_neg (by have := h x List.mem_cons_self; omega)]
    omega
theorem gt_all {ns : List Int} {i : Int} (h : ∀ x ∈ ns, i < x) : gt ns i = ns.length := by
  induction ns with
  | nil => simp [gt]
  | cons x ns ih =>
    rw [gt_cons, ih fun y hy => h y (List.mem_cons_of_mem _ hy), if_pos (h x List.mem_cons_self)]
    simp
theorem gt_step (ns : List Int) (i : Int) : gt ns (i - 1) = gt ns i + ns.count i := by
  induction ns with
  | nil => simp [gt]
  | cons x ns ih =>
    rw [gt_cons, gt_cons, ih, List.count_cons]
    by_cases e : x = i
    · subst e
      simp
      omega
    · have : (x == i) = false := by simpa using e
      rw [this]
      simp
      split <;> split <;> omega
/-- the numbers at the multiples of s: 1*s, 2*s, .. m*s -/
def mults (ns : List Int) (s : Int) : Nat → Int
  | 0 => 0
  | m + 1 => mults ns s m + gt ns ((m + 1 : Nat) * s)
theorem mults_cons (x : Int) (ns : List Int) (s : Int) : ∀ m, mults (x :: ns) s m = mults ns s m + mults [x] s m
  | 0 => rfl
  | m + 1 => by
    show mults (x :: ns) s m + gt (x :: ns) _ = mults ns s m + gt ns _ + (mults [x] s m + gt [x] _)
    rw [mults_cons x ns s m, gt_cons, gt_cons]
    have : gt [] (((m + 1 : Nat) : Int) * s) = 0 := rfl
    rw [this]
    omega
theorem mults_one {x s : Int} (hs : 1 ≤ s) (hx : 1 ≤ x) : ∀ m : Nat, mults [x] s m = if (m : Int) ≤ (x - 1) / s then (m : Int) else (x - 1) / s
  | 0 => by
    have : 0 ≤ (x - 1) / s := Int.ediv_nonneg (by omega) (by omega)
    show (0 : Int) = _
    rw [if_pos (by simpa using this)]
    rfl
  | m + 1 => by
    have ih := mults_one hs hx m
    have key : (((m + 1 : Nat) : Int) * s < x) ↔ ((m + 1 : Nat) : Int) ≤ (x - 1) / s := by
      rw [Int.le_ediv_iff_mul_le (by omega)]
      omega
    show mults [x] s m + gt [x] _ = _
    rw [ih, gt_cons]
    have z : gt [] (((m + 1 : Nat) : Int) * s) = 0 := rfl
    rw [z]
    by_cases h : ((m + 1 : Nat) : Int) ≤ (x - 1) / s
    · rw [if_pos h, if_pos (key.mpr h), if_pos (by omega)]
      omega
    · rw [if_neg h, if_neg fun q => h (key.mp q)]
      split <;> omega
/-- the page count of a size, by the numbers at its multiples -/
theorem ct_mults {s : Int} (hs : 1 ≤ s) {m : Nat} : ∀ {ns : List Int}, (∀ x ∈ ns, 1 ≤ x ∧ (x - 1) / s ≤ m) → ct ns s = ns.length + mults ns s m
  | [], _ => by
    have : ∀ m, mults [] s m = 0 := by
      intro m
      induction m with
      | zero => rfl
      | succ m ih =>
        show mults [] s m + gt [] _ = 0
        rw [ih]
        rfl
    rw [this]
    rfl
  | x :: ns, h => by
    have ih := ct_mults hs (m := m) (ns := ns) fun y hy => h y (List.mem_cons_of_mem _ hy)
    have hx := h x List.mem_cons_self
    rw [ct_cons, ih, mults_cons, mults_one hs hx.1, List.length_cons]
    split <;> omega
theorem sum_pick_go {ns L : List Int} {s : Int} (hs : 1 ≤ s) (hL : ∀ i : Nat, s < i → i < L.length → L[i]? = some (gt ns i)) : ∀ c : Nat, (∀ k : Nat, k < c → ((k : Int) + 2) * s < L.length) →
    ((((List.range c).map fun k : Nat => (2 * s + s * (k : Int)).toNat).filterMap fun i => L[i]?)).sum = mults ns s (c + 1) - gt ns s
  | 0, _ => by
    show (0 : Int) = mults ns s 0 + gt ns (((0 + 1 : Nat) : Int) * s) - gt ns s
    have e : (((0 + 1 : Nat) : Int) * s) = s := by omega
    rw [e]
    show (0 : Int) = 0 + gt ns s - gt ns s
    omega
  | c + 1, h => by
    have ih := sum_pick_go hs hL c fun k hk => h k (by omega)
    have hc := h c (by omega)
    have e1 : 2 * s + s * (c : Int) = ((c : Int) + 2) * s := by rw [Int.add_mul, Int.mul_comm s c]; omega
    have hpos : s < ((c : Int) + 2) * s := by
      rw [Int.add_mul]
      have := Int.mul_nonneg (show (0 : Int) ≤ c by omega) (show 0 ≤ s by omega)
      omega
    have e2 : (((((c : Int) + 2) * s).toNat : Nat) : Int) = ((c : Int) + 2) * s := Int.toNat_of_nonneg (by omega)
    have e3 := hL (((c : Int) + 2) * s).toNat (by omega) (by omega)
    rw [e2] at e3
    rw [List.range_succ, List.map_append, List.filterMap_append, List.sum_append, ih]
    simp only [List.map_cons, List.map_nil, e1, List.filterMap_cons, e3, List.filterMap_nil, List.sum_cons, List.sum_nil]
    show _ = mults ns s (c + 1) + gt ns (((c + 1 + 1 : Nat) : Int) * s) - gt ns s
    have e4 : ((c + 1 + 1 : Nat) : Int) * s = ((c : Int) + 2) * s := by
      congr 1
    rw [e4]
    omega
theorem pick_len (L : List Int) (lo st : Option Int) : (pickSl L lo st).length ≤ (sliceRange (sliceBounds lo none st L.length).1 (sliceBounds lo none st L.length).2.1 (sliceBounds lo none st L.length).2.2).length := List.length_filterMap_le _ _
theorem sum_pick {ns L : List Int} {s : Int} (hs : 1 ≤ s) (hL : ∀ i : Nat, s < i → i < L.length → L[i]? = some (gt ns i)) :
    ∃ m : Nat, (L.length : Int) ≤ ((m : Int) + 1) * s ∧ (pickSl L (some (2 * s)) (some s)).sum = mults ns s m - gt ns s ∧ (pickSl L (some (2 * s)) (some s)).length ≤ L.length := by
  have hsp : s > 0 := by omega
  have hneg : ¬ 2 * s < 0 := by omega
  have hb : sliceBounds (some (2 * s)) none (some s) L.length = (max 0 (min (2 * s) L.length), (L.length : Int), s) := by
    simp only [sliceBounds, Option.getD_some, hsp, if_true, hneg, if_false]
  by_cases h2 : 2 * s < L.length
  · have e : max 0 (min (2 * s) (L.length : Int)) = 2 * s := by omega
    have hcount : 0 ≤ ((L.length : Int) - 2 * s + s - 1) / s := Int.ediv_nonneg (by omega) (by omega)
    have hmul := Int.mul_ediv_self_le (x := (L.length : Int) - 2 * s + s - 1) (k := s) (by omega)
    have hmod := Int.lt_mul_ediv_self_add (x := (L.length : Int) - 2 * s + s - 1) (k := s) (by omega)
    obtain ⟨c, hc⟩ := Int.eq_ofNat_of_zero_le hcount
    have hr : sliceRange (2 * s) L.length s = (List.range c).map fun k : Nat => (2 * s + s * (k : Int)).toNat := by
      simp only [sliceRange, hsp, if_true, h2, hc, Int.toNat_natCast]
    have hcs : ((L.length : Int) - 2 * s + s - 1) / s = c := hc
    rw [hcs] at hmul hmod
    have go := sum_pick_go hs hL c fun k hk => by
      have h1 : ((k : Int) + 1) * s ≤ c * s := Int.mul_le_mul_of_nonneg_right (by omega) (by omega)
      rw [Int.mul_comm s c] at hmul
      rw [Int.add_mul] at h1 ⊢
      omega
    refine ⟨c + 1, ?_, ?_, ?_⟩
    · rw [Int.mul_comm s c] at hmod
      have : (((c + 1 : Nat) : Int) + 1) * s = c * s + 2 * s := by
        rw [Int.add_mul]
        have : ((c + 1 : Nat) : Int) * s = c * s + s := by rw [show ((c + 1 : Nat) : Int) = (c : Int) + 1 by omega, Int.add_mul]; omega
        omega
      rw [this]
      omega
    · unfold pickSl
      rw [hb, e]
      show ((sliceRange (2 * s) L.length s).filterMap fun i => L[i]?).sum = _
      rw [hr]
      exact go
    · refine Nat.le_trans (pick_len _ _ _) ?_
      rw [hb, e]
      show (sliceRange (2 * s) L.length s).length ≤ _
      rw [hr, List.length_map, List.length_range]
      have h1 : (1 : Int) * c ≤ s * c := Int.mul_le_mul_of_nonneg_right (by omega) (by omega)
      omega
  · have e : max 0 (min (2 * s) (L.length : Int)) = L.length := by omega
    have hr : pickSl L (some (2 * s)) (some s) = [] := by
      unfold pickSl
      rw [hb, e]
      show (sliceRange (L.length : Int) L.length s).filterMap _ = []
      simp [sliceRange, hsp]
    refine ⟨1, by omega, ?_, by rw [hr]; simp⟩
    rw [hr]
    show (0 : Int) = mults ns s 0 + gt ns (((0 + 1 : Nat) : Int) * s) - gt ns s
    have e : (((0 + 1 : Nat) : Int) * s) = s := by omega
    rw [e]
    show (0 : Int) = 0 + gt ns s - gt ns s
    omega
/-- the table of a book -/
def tab (ns : List Int) (g : Nat) : List Int := (List.range g).map fun i : Nat => ct ns ((i : Int) + 1)
theorem tab_len (ns : List Int) (g : Nat) : (tab ns g).length = g := by simp [tab]
theorem tab_at {ns : List Int} {g i : Nat} (h : i < g) : (tab ns g)[i]? = some (ct ns ((i : Int) + 1)) := by
  unfold tab
  rw [List.getElem?_map, List.getElem?_range h]
  rfl
theorem ct_far {ns : List Int} {s : Int} (hs : 1 ≤ s) (h : ∀ x ∈ ns, 1 ≤ x ∧ x ≤ s) : ct ns s = ns.length := by
  have := ct_mults (m := 0) hs (ns := ns) fun x hx => ⟨(h x hx).1, by rw [Int.ediv_eq_zero_of_lt (by have := h x hx; omega) (by have := h x hx; omega)]; simp⟩
  rw [this]
  show (ns.length : Int) + 0 = _
  omega
/-- what the loop of longer_counts computes -/
theorem longer_step {ns L : List Int} {g : Nat} {s : Int} (hs : 1 ≤ s) (hn : ∀ x ∈ ns, 1 ≤ x ∧ x ≤ g) (hLl : L.length = g + 1) (hL : ∀ i : Nat, s < i → i < L.length → L[i]? = some (gt ns i)) :
    ct ns s - ns.length - (pickSl L (some (2 * s)) (some s)).sum = gt ns s ∧ (pickSl L (some (2 * s)) (some s)).length ≤ g + 1 := by
  obtain ⟨m, h1, h2, h3⟩ := sum_pick hs hL
  have := ct_mults (m := m) hs (ns := ns) fun x hx => ⟨(hn x hx).1, by
    have h4 : (x - 1) / s < (m : Int) + 1 := by
      rw [Int.ediv_lt_iff_lt_mul (by omega)]
      have := hn x hx
      omega
    omega⟩
  rw [h2, this]
  exact ⟨by omega, by omega⟩
def spLonger (K : PySem.W.Frag) : Sp := fun vs H Q _ => ∃ (p : Addr) (ns : List Int) (g : Nat), vs = [.ref p] ∧ H p = some (.lst ((tab ns g).map V.int)) ∧ g ≤ 100000 ∧ ns.length ≤ 100000 ∧ (∀ x ∈ ns, 1 ≤ x ∧ x ≤ g) ∧
  ∀ (q : Addr) (H' : Hp), Fr [] H H' → H q = none → H' q = some (.lst (((List.range (g + 1)).map fun i : Nat => gt ns i).map V.int)) → Q (.ref q) H'
/-- tuples of a length and its times -/
def PairsAt (H : Hp) (ps : List Addr) (ls : List (Int × Int)) : Prop := ps.length = ls.length ∧ ∀ (i : Nat) (p : Addr) (l : Int × Int), ps[i]? = some p → ls[i]? = some l → H p = some (.tup [.int l.1, .int l.2])
theorem PairsAt.fr {H H' : Hp} {ps : List Addr} {ls : List (Int × Int)} (h : PairsAt H ps ls) (f : Fr [] H H') : PairsAt H' ps ls := ⟨h.1, fun i p l h1 h2 => f.at0 (h.2 i p l h1 h2)⟩
theorem PairsAt.snoc {H : Hp} {ps : List Addr} {ls : List (Int × Int)} {p : Addr} {l : Int × Int} (h : PairsAt H ps ls) (hp : H p = some (.tup [.int l.1, .int l.2])) : PairsAt H (ps ++ [p]) (ls ++ [l]) := by
  refine ⟨by simp [h.1], fun i q m h1 h2 => ?_⟩
  by_cases hi : i < ps.length
  · rw [List.getElem?_append_left hi] at h1
    rw [List.getElem?_append_left (by rw [← h.1]; exact hi)] at h2
    exact h.2 i q m h1 h2
  · rw [List.getElem?_append_right (by omega)] at h1
    rw [List.getElem?_append_right (by rw [← h.1]; omega), ← h.1] at h2
    by_cases e : i - ps.length = 0
    · rw [e] at h1 h2
      simp at h1 h2
      subst h1 h2
      exact hp
    · rw [List.getElem?_eq_none (by simp; omega)] at h1
      cases h1
theorem dpAll_pairs {K : PySem.W.Frag} {H : Hp} : ∀ {ps : List Addr} {ls : List (Int × Int)}, PairsAt H ps ls → DpAll K H (ps.map V.ref) (ls.map dP)
  | [], [], _ => .nil
  | [], _ :: _, h => by cases h.1
  | _ :: _, [], h => by cases h.1
  | p :: ps, l :: ls, h => .cons (.tup (SqT.of (h.2 0 p l rfl rfl)) (.cons (.int _) (.cons (.int _) .nil))) (dpAll_pairs ⟨by simpa using h.1, fun i q m h1 h2 => h.2 (i + 1) q m (by simpa using h1) (by simpa using h2)⟩)
theorem w_eqPairs {K : PySem.W.Frag} {H : Hp} {Q : VK} {a b : Addr} {ps qs : List Addr} {ls ms : List (Int × Int)} (ha : H a = some (.lst (ps.map V.ref))) (hb : H b = some (.lst (qs.map V.ref))) (h1 : PairsAt H ps ls) (h2 : PairsAt H qs ms) (k : Q (.bl (decide (ls = ms))) H) : rEqD K (.ref a) (.ref b) H Q :=
  ⟨_, _, .lst (SqL.of ha) (dpAll_pairs h1), .lst (SqL.of hb) (dpAll_pairs h2), shaped_pairs _, shaped_pairs _, by simp only [PyData.eqv]; rw [eqvAll_pairs]; exact k⟩
theorem PairsAt.app {H : Hp} {ps qs : List Addr} {ls ms : List (Int × Int)} (h : PairsAt H ps ls) (k : PairsAt H qs ms) : PairsAt H (ps ++ qs) (ls ++ ms) := by
  refine ⟨by simp [h.1, k.1], fun i q m h1 h2 => ?_⟩
  by_cases hi : i < ps.length
  · rw [List.getElem?_append_left hi] at h1
    rw [List.getElem?_append_left (by rw [← h.1]; exact hi)] at h2
    exact h.2 i q m h1 h2
  · rw [List.getElem?_append_right (by omega)] at h1
    rw [List.getElem?_append_right (by rw [← h.1]; omega), ← h.1] at h2
    exact k.2 _ q m h1 h2
theorem PairsAt.nil {H : Hp} : PairsAt H [] [] := ⟨rfl, by simp⟩
/-- a pair's address is not the list's -/
theorem PairsAt.put {H : Hp} {a : Addr} {xs ys : List V} {ps : List Addr} {ls : List (Int × Int)} (h : PairsAt H ps ls) (ha : H a = some (.lst xs)) : PairsAt (upd H a (.lst ys)) ps ls := by
  refine ⟨h.1, fun i q m h1 h2 => ?_⟩
  have e := h.2 i q m h1 h2
  have hne : q ≠ a := by
    rintro rfl
    rw [ha] at e
    cases e
  rw [upd_ne hne]
  exact e
theorem PairsAt.frL {H H' : Hp} {a : Addr} {xs : List V} {ps : List Addr} {ls : List (Int × Int)} (h : PairsAt H ps ls) (f : Fr [a] H H') (ha : H a = some (.lst xs)) : PairsAt H' ps ls := by
  refine ⟨h.1, fun i q m h1 h2 => ?_⟩
  have e := h.2 i q m h1 h2
  have hne : q ≠ a := by
    rintro rfl
    rw [ha] at e
    cases e
  exact f.at (nn2 hne) e
theorem w_neNilP {K : PySem.W.Frag} {H : Hp} {Q : VK} {a b : Addr} {ps : List Addr} {ls : List (Int × Int)} (ha : H a = some (.lst (ps.map V.ref))) (hb : H b = some (.lst [])) (h1 : PairsAt H ps ls) (k : Q (.bl (!decide (ls = []))) H) : rNeD K (.ref a) (.ref b) H Q :=
  ⟨_, _, .lst (SqL.of ha) (dpAll_pairs h1), .lst (SqL.of hb) (dpAll_pairs (ps := []) (ls := []) .nil), shaped_pairs _, shaped_pairs _, by simp only [PyData.eqv]; rw [eqvAll_pairs]; exact k⟩
theorem PairsAt.set {H : Hp} {ps : List Addr} {ls : List (Int × Int)} {t : Addr} {l : Int × Int} (h : PairsAt H ps ls) (i : Nat) (ht : H t = some (.tup [.int l.1, .int l.2])) : PairsAt H (ps.set i t) (ls.set i l) := by
  refine ⟨by rw [List.length_set, List.length_set]; exact h.1, fun j q m h1 h2 => ?_⟩
  by_cases e : i = j
  · subst e
    have hj := (List.getElem?_eq_some_iff.mp h1).1
    rw [List.length_set] at hj
    rw [List.getElem?_set_self hj] at h1
    rw [List.getElem?_set_self (by rw [← h.1]; exact hj)] at h2
    have e1 := Option.some.inj h1
    have e2 := Option.some.inj h2
    subst e1 e2
    exact ht
  · rw [List.getElem?_set_ne e] at h1 h2
    exact h.2 j q m h1 h2
/-- the lengths that the tuples tell -/
def expand (ls : List (Int × Int)) : List Int := (ls.map fun l => List.replicate l.2.toNat l.1).flatten
theorem expand_snoc (ls : List (Int × Int)) (l : Int × Int) : expand (ls ++ [l]) = expand ls ++ List.replicate l.2.toNat l.1 := by simp [expand]
theorem expand_mem {ls : List (Int × Int)} {x : Int} (h : x ∈ expand ls) : ∃ l ∈ ls, l.1 = x := by
  unfold expand at h
  obtain ⟨r, hr, hx⟩ := List.mem_flatten.mp h
  obtain ⟨l, hl, rfl⟩ := List.mem_map.mp hr
  exact ⟨l, hl, (List.mem_replicate.mp hx).2.symm⟩
/-- the tuples of all lengths above b -/
structure TimesOf (ns : List Int) (b : Int) (ls : List (Int × Int)) : Prop where
  desc : ls.Pairwise fun x y => y.1 < x.1
  above : ∀ l ∈ ls, b < l.1
  pos : ∀ l ∈ ls, 0 < l.2
  cnt : ∀ l ∈ ls, l.2 = ns.count l.1
  all : ∀ x, b < x → x ∈ ns → ∃ l ∈ ls, l.1 = x
theorem TimesOf.nil {ns : List Int} {g : Int} (h : ∀ x ∈ ns, x ≤ g) : TimesOf ns g [] := ⟨.nil, by simp, by simp, by simp, fun x h1 h2 => by have := h x h2; omega⟩
theorem TimesOf.skip {ns : List Int} {b : Int} {ls : List (Int × Int)} (h : TimesOf ns b ls) (h0 : ns.count b = 0) : TimesOf ns (b - 1) ls :=
  ⟨h.desc, fun l hl => by have := h.above l hl; omega, h.pos, h.cnt, fun x h1 h2 => h.all x (by
    by_cases e : x = b
    · subst e
      exact absurd h2 (List.count_eq_zero.mp h0)
    · omega) h2⟩
theorem TimesOf.snoc {ns : List Int} {b : Int} {ls : List (Int × Int)} (h : TimesOf ns b ls) (h0 : 0 < ns.count b) : TimesOf ns (b - 1) (ls ++ [(b, (ns.count b : Int))]) := by
  refine ⟨List.pairwise_append.mpr ⟨h.desc, by simp, fun l hl m hm => ?_⟩, fun l hl => ?_, fun l hl => ?_, fun l hl => ?_, fun x h1 h2 => ?_⟩
  · rw [List.mem_singleton.mp hm]
    exact h.above l hl
  · rcases List.mem_append.mp hl with z | z
    · have := h.above l z
      omega
    · rw [List.mem_singleton.mp z]
      show b - 1 < b
      omega
  · rcases List.mem_append.mp hl with z | z
    · exact h.pos l z
    · rw [List.mem_singleton.mp z]
      show (0 : Int) < (ns.count b : Int)
      omega
  · rcases List.mem_append.mp hl with z | z
    · exact h.cnt l z
    · rw [List.mem_singleton.mp z]
  · by_cases e : x = b
    · exact ⟨_, List.mem_append_right _ (List.mem_singleton_self _), e.symm⟩
    · obtain ⟨l, hl, e2⟩ := h.all x (by omega) h2
      exact ⟨l, List.mem_append_left _ hl, e2⟩
theorem expand_desc : ∀ {ls : List (Int × Int)}, (ls.Pairwise fun x y => y.1 < x.1) → (expand ls).Pairwise (· ≥ ·)
  | [], _ => .nil
  | l :: ls, h => by
    obtain ⟨h1, h2⟩ := List.pairwise_cons.mp h
    have e : expand (l :: ls) = List.replicate l.2.toNat l.1 ++ expand ls := by simp [expand]
    rw [e]
    refine List.pairwise_append.mpr ⟨List.pairwise_replicate.mpr (.inr (Int.le_refl _)), expand_desc h2, fun x hx y hy => ?_⟩
    rw [(List.mem_replicate.mp hx).2]
    obtain ⟨m, hm, rfl⟩ := expand_mem hy
    have := h1 m hm
    omega
theorem expand_count : ∀ {ls : List (Int × Int)} {x : Int}, (ls.Pairwise fun x y => y.1 < x.1) → (∀ l ∈ ls, 0 ≤ l.2) → (∀ l ∈ ls, l.1 = x → ((expand ls).count x : Int) = l.2) ∧ ((∀ l ∈ ls, l.1 ≠ x) → (expand ls).count x = 0)
  | [], _, _, _ => by simp [expand]
  | l :: ls, x, h, hp => by
    obtain ⟨h1, h2⟩ := List.pairwise_cons.mp h
    obtain ⟨i1, i2⟩ := expand_count (x := x) h2 fun m hm => hp m (List.mem_cons_of_mem _ hm)
    have e : expand (l :: ls) = List.replicate l.2.toNat l.1 ++ expand ls := by simp [expand]
    rw [e, List.count_append, List.count_replicate]
    have hl := hp l List.mem_cons_self
    refine ⟨fun m hm hx => ?_, fun hno => ?_⟩
    · rcases List.mem_cons.mp hm with rfl | hm
      · rw [i2 fun q hq => by have := h1 q hq; omega, if_pos (by simpa using hx)]
        omega
      · have hne : ¬ l.1 = x := by have := h1 m hm; omega
        rw [if_neg (by simpa using hne)]
        have := i1 m hm hx
        omega
    · have hne := hno l List.mem_cons_self
      rw [i2 fun q hq => hno q (List.mem_cons_of_mem _ hq), if_neg (by simpa using hne)]
theorem TimesOf.perm {ns : List Int} {ls : List (Int × Int)} (h : TimesOf ns 0 ls) (h1 : ∀ x ∈ ns, 1 ≤ x) : (expand ls).Perm ns := by
  rw [List.perm_iff_count]
  intro x
  obtain ⟨i1, i2⟩ := expand_count (x := x) h.desc fun l hl => Int.le_of_lt (h.pos l hl)
  by_cases hx : x ∈ ns
  · obtain ⟨l, hl, e⟩ := h.all x (by have := h1 x hx; omega) hx
    have a1 := i1 l hl e
    have a2 := h.cnt l hl
    rw [e] at a2
    omega
  · rw [List.count_eq_zero.mpr hx]
    refine i2 fun l hl e => ?_
    have a1 := h.pos l hl
    have a2 := h.cnt l hl
    rw [e, List.count_eq_zero.mpr hx] at a2
    omega
def spTimes (K : PySem.W.Frag) : Sp := fun vs H Q _ => ∃ (p : Addr) (ns : List Int) (g : Nat), vs = [.ref p] ∧ H p = some (.lst ((tab ns g).map V.int)) ∧ g ≤ 100000 ∧ ns.length ≤ 100000 ∧ (∀ x ∈ ns, 1 ≤ x ∧ x ≤ g) ∧
  ∀ (q : Addr) (ps : List Addr) (ls : List (Int × Int)) (H' : Hp), Fr [] H H' → H q = none → H' q = some (.lst (ps.map V.ref)) → PairsAt H' ps ls → TimesOf ns 0 ls → Q (.ref q) H'
def spLengths (K : PySem.W.Frag) : Sp := fun vs H Q _ => ∃ (p : Addr) (ns : List Int) (g : Nat), vs = [.ref p] ∧ H p = some (.lst ((tab ns g).map V.int)) ∧ g ≤ 100000 ∧ ns.length ≤ 100000 ∧ (∀ x ∈ ns, 1 ≤ x ∧ x ≤ g) ∧
  ∀ (q : Addr) (fs : List Int) (H' : Hp), Fr [] H H' → H q = none → H' q = some (.lst (fs.map V.int)) → fs.Perm ns → fs.Pairwise (· ≥ ·) → Q (.ref q) H'
theorem expand_take_le {ls : List (Int × Int)} (i : Nat) : (expand (ls.take i)).length ≤ (expand ls).length := by
  have e : expand ls = expand (ls.take i) ++ expand (ls.drop i) := by
    unfold expand
    rw [← List.flatten_append, ← List.map_append, List.take_append_drop]
  rw [e, List.length_append]
  omega
theorem ct_bound {ns : List Int} {s M : Int} (hs : 1 ≤ s) (h : ∀ x ∈ ns, 1 ≤ x ∧ x ≤ M) : 0 ≤ ct ns s ∧ ct ns s ≤ ns.length * M := by
  induction ns with
  | nil => simp [ct]
  | cons x ns ih =>
    obtain ⟨h1, h2⟩ := ih fun y hy => h y (List.mem_cons_of_mem _ hy)
    have hx := h x List.mem_cons_self
    have h3 : 0 ≤ (x - 1) / s := Int.ediv_nonneg (by omega) (by omega)
    have h4 : (x - 1) / s ≤ x - 1 := Int.ediv_le_self _ (by omega)
    rw [ct_cons, List.length_cons]
    have h5 : ((ns.length + 1 : Nat) : Int) * M = ns.length * M + M := by rw [show ((ns.length + 1 : Nat) : Int) = (ns.length : Int) + 1 by omega, Int.add_mul, Int.one_mul]
    rw [h5]
    omega
theorem tab_succ (ns : List Int) (i : Nat) : tab ns (i + 1) = tab ns i ++ [ct ns ((i : Int) + 1)] := by
  unfold tab
  rw [List.range_succ, List.map_append]
  rfl
theorem tab_mem {ns : List Int} {g : Nat} {y : Int} (h : y ∈ tab ns g) : ∃ i : Nat, i < g ∧ y = ct ns ((i : Int) + 1) := by
  obtain ⟨i, hi, e⟩ := List.mem_map.mp h
  exact ⟨i, List.mem_range.mp hi, e.symm⟩
theorem tab_perm {ns ms : List Int} (h : ns.Perm ms) (g : Nat) : tab ns g = tab ms g := by
  unfold tab ct
  congr 1
  funext i
  exact perm_sum (h.map _)
theorem ct_snoc1 {ns : List Int} {s : Int} : ct (ns ++ [1]) s = ct ns s + 1 := by
  simp [ct, List.sum_append]
theorem pw_perm_eq {xs ys : List Int} (h : xs.Perm ys) (hx : xs.Pairwise (· ≥ ·)) (hy : ys.Pairwise (· ≥ ·)) : xs = ys :=
  List.Perm.eq_of_pairwise (fun a b _ _ h1 h2 => by omega) hx hy h
theorem rev_desc {xs : List Int} (h : xs.Pairwise (· ≤ ·)) : xs.reverse.Pairwise (· ≥ ·) := List.pairwise_reverse.mpr h
set_option maxHeartbeats 4000000 in
theorem ok_InvalidNumber___init__ (T : Txt K mg c) : MDefAt P w K mg base c.InvalidNumber "__init__" "InvalidNumber.__init__" s_InvalidNumber___init__ 1 ["self", "value"] (spEInit K c.InvalidNumber) := by
  refine T.f_InvalidNumber___init__.ok sc_InvalidNumber___init__ (fun vs H Q E h => ?_) (fun _ _ _ _ _ _ us hl => match us, hl with | [_, _], _ => rfl) (fun f cdv A outer s H vs Q E hr h => ?_)
  · obtain ⟨a, y, rfl, ha, q⟩ := h
    rfl
  · obtain ⟨a, y, rfl, ha, q⟩ := h
    refine ⟨_, (pss_cons (ps_expr (pe_beinit T.xb_ (pa_cons (pv 0) (pa_cons pe_str pa_nil))))
    (pss_one (ps_ost (pv 0) (pv 1)))), ?_⟩
    refine w_start (σ' := [some (.ref a), some (y)]) rfl ?_
    walk_at "g"
    refine w_veIE (by simp) T.x_InvalidNumber.o ha ?_
    walk_at "g"
    refine w_ostE T.x_InvalidNumber.o T.x_InvalidNumber.no ha (fun dx nd ne => ?_)
    walk_at "g"
    exact q dx nd ne
/-! ### books and their page counts -/
theorem cp_ct {x s : Int} (hs : 0 < s) : (x + s - 1) / s = (x - 1) / s + 1 := by
  rw [show x + s - 1 = (x - 1) + s by omega, Int.add_ediv_of_dvd_right (Int.dvd_refl s), Int.ediv_self (by omega)]
def spCheckBook (K : PySem.W.Frag) : Sp := fun vs H Q _ => ∃ (p : Addr) (ns : List Int), vs = [.ref p] ∧ H p = some (.lst (ns.map V.int)) ∧ ns.length ≤ 1000000 ∧ (∀ n ∈ ns, 1 ≤ n) ∧ ∀ H', Fr [] H H' → Q .non H'
def spCheckSize : Sp := fun vs H Q _ => ∃ (s : Int), vs = [.int s] ∧ 1 ≤ s ∧ Q .non H
def spCp : Sp := fun vs H Q _ => ∃ (l s : Int), vs = [.int l, .int s] ∧ 0 < s ∧ s < 2 ^ 390 ∧ Q (.int ((l - 1) / s + 1)) H
def spPages (K : PySem.W.Frag) : Sp := fun vs H Q _ => ∃ (p : Addr) (ns : List Int) (s : Int), vs = [.ref p, .int s] ∧ H p = some (.lst (ns.map V.int)) ∧ ns.length ≤ 1000000 ∧ 0 < s ∧ s < 2 ^ 390 ∧ ∀ H', Fr [] H H' → Q (.int (ct ns s)) H'
def spPagesC (K : PySem.W.Frag) : Sp := fun vs H Q _ => ∃ (p : Addr) (ns : List Int) (s : Int), vs = [.ref p, .int s] ∧ H p = some (.lst (ns.map V.int)) ∧ ns.length ≤ 1000000 ∧ (∀ n ∈ ns, 1 ≤ n) ∧ 0 < s ∧ s < 2 ^ 390 ∧ ∀ H', Fr [] H H' → Q (.int (ct ns s)) H'
set_option maxHeartbeats 4000000 in
theorem ok_check_book (T : Txt K mg c) : DefAt P w K mg base "check_book" s_check_book 1 ["book"] (spCheckBook K) := by
  refine T.f_check_book.ok sc_check_book (fun vs H Q E h => ?_) (fun _ _ _ _ _ _ us hl => match us, hl with | [_], _ => rfl) (fun f cdv A outer s H vs Q E hr h => ?_)
  · obtain ⟨p, ns, rfl, hp, hl, h1, q⟩ := h
    rfl
  · obtain ⟨p, ns, rfl, hp, hl, h1, q⟩ := h
    refine ⟨_, (pss_one (ps_for PassesOwn.never rfl (pi_enum (by rfl) T.n_enumerate (pa_cons (pv 0) pa_nil)) (pg_tup rfl (pgs_cons (pg_name (i := 1) sc_check_book.nd rfl (Or.inl rfl)) (pgs_cons (pg_name (i := 2) sc_check_book.nd rfl (Or.inl rfl)) pgs_nil))) (pss_one (ps_if (pt_cmpR op_lt (pv 2) pe_int (nomark _)) (pss_one ps_never) pss_nil)))), ?_⟩
    refine w_start (σ' := [some (.ref p), none, none]) rfl ?_
    walk_at "g"
    refine f_enum (ns.map V.int) (fun i σ' H2 => ∃ v w : Option V, σ' = [some (.ref p), v, w] ∧ Fr [] H H2) ⟨none, none, rfl, Fr.refl⟩ ?_ ?_ ?_
    · rintro i σ' H2 _ ⟨v, w, rfl, f2⟩
      exact SqL.of (f2.at0 hp)
    · rintro i x T σ' H2 hx ⟨v, w, rfl, f2⟩ hT
      obtain ⟨n, hn, rfl⟩ := map_at hx
      walk_at "g"
      refine w_ite (fun h => ?_) (fun h => ?_)
      · have := h1 n (List.mem_of_getElem? hn)
        omega
      · walk_at "g"
        exact ⟨_, _, rfl, by walk_at "F"⟩
    · rintro σ' H2 ⟨v, w, rfl, f2⟩
      exact q _ f2
set_option maxHeartbeats 4000000 in
theorem ok_check_size (T : Txt K mg c) : DefAt P w K mg base "check_size" s_check_size 1 ["size"] spCheckSize := by
  refine T.f_check_size.ok sc_check_size (fun vs H Q E h => ?_) (fun _ _ _ _ _ _ us hl => match us, hl with | [_], _ => rfl) (fun f cdv A outer s H vs Q E hr h => ?_)
  · obtain ⟨n, rfl, n0, q⟩ := h
    rfl
  · obtain ⟨n, rfl, n0, q⟩ := h
    refine ⟨_, (pss_one (ps_if (pt_cmpR op_lt (pv 0) pe_int (nomark _)) (pss_one ps_never) pss_nil)), ?_⟩
    refine w_start (σ' := [some (.int n)]) rfl ?_
    walk_at "g"
    refine w_ite (fun h => ?_) (fun h => ?_)
    · omega
    · walk_at "g"
      exact q
set_option maxHeartbeats 4000000 in
theorem ok_chapter_pages (T : Txt K mg c) : DefAt P w K mg base "chapter_pages" s_chapter_pages 1 ["length", "size"] spCp := by
  refine T.f_chapter_pages.ok sc_chapter_pages (fun vs H Q E h => ?_) (fun _ _ _ _ _ _ us hl => match us, hl with | [_, _], _ => rfl) (fun f cdv A outer s H vs Q E hr h => ?_)
  · obtain ⟨l, n, rfl, n0, n1, q⟩ := h
    rfl
  · obtain ⟨l, n, rfl, n0, n1, q⟩ := h
    refine ⟨_, (pss_one (ps_ret (pe_op op_fdivW (pe_op op_sub (pe_op op_add (pv 0) (pv 1)) pe_int) (pv 1)))), ?_⟩
    refine w_start (σ' := [some (.int l), some (.int n)]) rfl ?_
    walk_at "g"
    rw [cp_ct n0]
    exact q
set_option maxHeartbeats 4000000 in
theorem ok_count_pages (T : Txt K mg c) : DefAt P w K mg base "count_pages" s_count_pages 2 ["book", "size"] (spPages K) := by
  have D_chapter_pages := ok_chapter_pages (P := P) (w := w) (base := base) T
  refine T.f_count_pages.ok sc_count_pages (fun vs H Q E h => ?_) (fun _ _ _ _ _ _ us hl => match us, hl with | [_, _], _ => rfl) (fun f cdv A outer s H vs Q E hr h => ?_)
  · obtain ⟨p, ns, n, rfl, hp, hl, n0, n1, q⟩ := h
    rfl
  · obtain ⟨p, ns, n, rfl, hp, hl, n0, n1, q⟩ := h
    refine ⟨_, (pss_one (ps_ret (pe_callB (cr_sum rfl) (by rfl) T.n_sum (by decide +kernel) (pa_cons (pe_lc (own := [("length", 2)]) (tt := tYes) rfl sc_count_pages.nd (pi_list (pv 0)) (blkOk_by (N := sc_count_pages_N) (sc := defScope s_count_pages) (by decide +kernel)) (fun _ _ _ _ _ => (pg_name (i := 2) sc_count_pages.nd rfl (Or.inl rfl))) (fun _ _ _ _ _ => pts_nil) (fun _ _ _ _ _ => (pe_callD D_chapter_pages (hr.mono (by decide)) (pa_cons (pv 2) (pa_cons (pv 1) pa_nil))))) pa_nil)))), ?_⟩
    refine w_start (σ' := [some (.ref p), some (.int n), none]) rfl ?_
    walk_at "g"
    refine l_map ns (fun l => (l - 1) / n + 1) (SqL.of hp) (fun _ => rfl) (by omega) (fun i l H2 hi f2 Q2 k2 => ?_) (fun L H2 hL f2 h2 => ?_)
    · walk_at "g"
      exact ⟨l, n, rfl, n0, n1, k2 _ Fr.refl⟩
    · walk_at "g"
      exact q _ f2
theorem kb_pages_size_book : KB0 "pages" "pages" s_pages ["book", "size"] ["size", "book"] 0 [1, 0] := fun _ _ _ _ _ _ us ws hu hw => match us, ws, hu, hw with | [], [_, _], _, _ => rfl
set_option maxHeartbeats 4000000 in
theorem ok_pages (T : Txt K mg c) : DefAt P w K mg base "pages" s_pages 3 ["book", "size"] (spPagesC K) := by
  have D_check_book := ok_check_book (P := P) (w := w) (base := base) T
  have D_check_size := ok_check_size (P := P) (w := w) (base := base) T
  have D_count_pages := ok_count_pages (P := P) (w := w) (base := base) T
  refine T.f_pages.ok sc_pages (fun vs H Q E h => ?_) (fun _ _ _ _ _ _ us hl => match us, hl with | [_, _], _ => rfl) (fun f cdv A outer s H vs Q E hr h => ?_)
  · obtain ⟨p, ns, n, rfl, hp, hl, h1, n0, n1, q⟩ := h
    rfl
  · obtain ⟨p, ns, n, rfl, hp, hl, h1, n0, n1, q⟩ := h
    refine ⟨_, (pss_cons (ps_expr (pe_callD D_check_book (hr.mono (by decide)) (pa_cons (pv 0) pa_nil)))
    (pss_cons (ps_expr (pe_callD D_check_size (hr.mono (by decide)) (pa_cons (pv 1) pa_nil)))
    (pss_one (ps_ret (pe_callD D_count_pages (hr.mono (by decide)) (pa_cons (pv 0) (pa_cons (pv 1) pa_nil))))))), ?_⟩
    refine w_start (σ' := [some (.ref p), some (.int n)]) rfl ?_
    walk_at "g"
    refine ⟨p, ns, rfl, hp, hl, h1, fun H2 f2 => ?_⟩
    walk_at "g"
    refine ⟨n, rfl, by omega, ?_⟩
    walk_at "g"
    exact ⟨p, ns, n, rfl, f2.at0 hp, hl, n0, n1, fun H3 f3 => q H3 (f2.trans f3)⟩
def spCounts (K : PySem.W.Frag) : SpG := fun vs H Q _ => ∃ (p : Addr) (ns : List Int) (g : Nat), vs = [.ref p, .int g] ∧ H p = some (.lst (ns.map V.int)) ∧ ns.length ≤ 1000000 ∧ (∀ n ∈ ns, 1 ≤ n) ∧ g ≤ 100000 ∧ ∀ H', Fr [] H H' → Q ((tab ns g).map V.int) H'
theorem kb_counts_limit_book : KB0 "counts" "counts" s_counts ["book", "limit"] ["limit", "book"] 0 [1, 0] := fun _ _ _ _ _ _ us ws hu hw => match us, ws, hu, hw with | [], [_, _], _, _ => rfl
set_option maxHeartbeats 4000000 in
theorem ok_counts (T : Txt K mg c) : GnAt P w K mg base "counts" s_counts 3 ["book", "limit"] (spCounts K) := by
  have D_check_book := ok_check_book (P := P) (w := w) (base := base) T
  have D_InvalidNumber___init__ := ok_InvalidNumber___init__ (P := P) (w := w) (base := base) T
  have D_count_pages := ok_count_pages (P := P) (w := w) (base := base) T
  refine T.f_counts.okGn sc_counts (fun vs H Q E h => ?_) (fun _ _ _ _ _ _ us hl => match us, hl with | [_, _], _ => rfl) (fun f cdv A outer s H vs Q E pn hr h => ?_)
  · obtain ⟨p, ns, g, rfl, hp, hl, h1, hg, q⟩ := h
    rfl
  · obtain ⟨p, ns, g, rfl, hp, hl, h1, hg, q⟩ := h
    refine ⟨_, (gss_cons (gs_ps (ps_expr (pe_callD D_check_book (hr.mono (by decide)) (pa_cons (pv 0) pa_nil))))
    (gss_cons (gs_ps (ps_if (pt_cmpR op_lt (pv 1) pe_int (nomark _)) (pss_one (ps_raiseX T.x_InvalidNumber D_InvalidNumber___init__ (hr.mono (by decide)) takes_gcx (pv 1))) pss_nil))
    (gss_cons (gs_ps (ps_set (i := 2) sc_counts.nd rfl (Or.inl rfl) pe_int))
    (gss_cons (gs_while owns_gcx (pt_cmpR op_le (pv 2) (pv 1) (nomark _)) (gss_cons (gs_yield (pe_callD D_count_pages (hr.mono (by decide)) (pa_cons (pv 0) (pa_cons (pv 2) pa_nil))))
    (gss_cons (gs_ps (ps_aug (i := 2) sc_counts.nd rfl (Or.inl rfl) pe_int ip_add))
    gss_nil)))
    gss_nil)))), ?_⟩
    refine w_gStart (σ' := [some (.ref p), some (.int g), none]) rfl ?_
    walk_at "g"
    refine ⟨p, ns, rfl, hp, hl, h1, fun H2 f2 => ?_⟩
    walk_at "g"
    refine w_gWhile (fun m ys σ' H' => ∃ i : Nat, ys = (tab ns i).map V.int ∧ i ≤ g ∧ m = g - i ∧ σ' = [some (.ref p), some (.int g), some (.int (1 + i))] ∧ Fr [] H H') g ⟨0, rfl, by omega, rfl, rfl, f2⟩ ?_
    rintro m ys σ' H' ⟨i, rfl, hi, rfl, rfl, f3⟩
    have ti := tab_len ns i
    walk_at "g"
    refine w_ite (fun h => ?_) (fun h => ?_)
    · walk_at "g"
      refine w_gYield (by rw [List.length_map]; omega) ?_
      walk_at "g"
      refine ⟨p, ns, _, rfl, f3.at0 hp, hl, by omega, by omega, fun H4 f4 => ?_⟩
      walk_at "g"
      refine ⟨g - (i + 1), by omega, i + 1, ?_, by omega, rfl, ?_, f3.trans f4⟩
      · rw [tab_succ, List.map_append, show (1 : Int) + i = i + 1 by omega]
        rfl
      · rw [show (1 : Int) + (i + 1 : Nat) = 1 + i + 1 by omega]
        rfl
    · walk_at "g"
      have e : i = g := by omega
      subst e
      exact q _ f3
/-! ### places of lines -/
def cp (x w : Int) : Int := (x - 1) / w + 1
theorem cp_pos {x w : Int} (hw : 0 < w) (hx : 1 ≤ x) : 1 ≤ cp x w := by
  have : 0 ≤ (x - 1) / w := Int.ediv_nonneg (by omega) (by omega)
  unfold cp
  omega
theorem cp_up {x w : Int} (hw : 0 < w) : x ≤ cp x w * w := by
  have := Int.lt_mul_ediv_self_add (x := x - 1) (k := w) hw
  unfold cp
  rw [Int.add_mul, Int.mul_comm]
  omega
theorem cp_down {x w : Int} (hw : 0 < w) : (cp x w - 1) * w < x := by
  have := Int.mul_ediv_self_le (x := x - 1) (k := w) (by omega)
  unfold cp
  rw [Int.mul_comm]
  have e : (x - 1) / w + 1 - 1 = (x - 1) / w := by omega
  rw [e]
  omega
theorem cp_le {x w l : Int} (hw : 0 < w) : l ≤ cp x w ↔ (l - 1) * w < x := by
  unfold cp
  have : l - 1 ≤ (x - 1) / w ↔ (l - 1) * w ≤ x - 1 := Int.le_ediv_iff_mul_le hw
  omega
theorem ct_cp (x : Int) (ns : List Int) (w : Int) : ct (x :: ns) w = cp x w + ct ns w := by rw [ct_cons]; rfl
theorem ct_append (xs ys : List Int) (w : Int) : ct (xs ++ ys) w = ct xs w + ct ys w := by simp [ct]
theorem ct_nonneg {w : Int} (hw : 0 < w) : ∀ {ns : List Int}, (∀ x ∈ ns, 1 ≤ x) → (ns.length : Int) ≤ ct ns w
  | [], _ => by simp [ct]
  | x :: ns, h => by
    have ih := ct_nonneg hw (ns := ns) fun y hy => h y (List.mem_cons_of_mem _ hy)
    have hx := cp_pos hw (h x List.mem_cons_self)
    rw [ct_cp, List.length_cons]
    omega
theorem ct_sum_le {w : Int} (hw : 0 < w) : ∀ (ns : List Int), ns.sum ≤ ct ns w * w
  | [] => by simp [ct]
  | x :: ns => by
    have ih := ct_sum_le hw ns
    have hx := cp_up (x := x) hw
    rw [ct_cp, List.sum_cons, Int.add_mul]
    omega
theorem ct_sum_ge {w : Int} (hw : 0 < w) : ∀ (ns : List Int), (ct ns w - ns.length) * w ≤ ns.sum - ns.length
  | [] => by simp [ct]
  | x :: ns => by
    have ih := ct_sum_ge hw ns
    have hx := cp_down (x := x) hw
    rw [ct_cp, List.sum_cons, List.length_cons]
    have e : (cp x w + ct ns w - ((ns.length + 1 : Nat) : Int)) * w = (cp x w - 1) * w + (ct ns w - ns.length) * w := by
      rw [← Int.add_mul]
      congr 1
      omega
    rw [e]
    omega
theorem ct_over {w : Int} (hw : 0 < w) (ns : List Int) : ct ns w ≤ ns.length + (ns.sum - ns.length) / w := by
  have := (Int.le_ediv_iff_mul_le hw).mpr (ct_sum_ge hw ns)
  omega
theorem sheets_eq {x w : Int} (hw : 0 < w) : x / w + (if decide (0 < x % w) = true then 1 else 0) = cp x w := by
  have h1 := Int.emod_nonneg x (show w ≠ 0 by omega)
  have h2 := Int.emod_lt_of_pos x hw
  have h3 := Int.mul_ediv_add_emod x w
  unfold cp
  by_cases h : 0 < x % w
  · rw [if_pos (decide_eq_true h)]
    have : (x - 1) / w = x / w := by
      rw [show x - 1 = (x % w - 1) + w * (x / w) by omega, Int.add_mul_ediv_left _ _ (by omega), Int.ediv_eq_zero_of_lt (by omega) (by omega)]
      omega
    omega
  · rw [if_neg (by simpa using h)]
    have e : x % w = 0 := by omega
    have : (x - 1) / w = x / w - 1 := by
      rw [show x - 1 = (w - 1) + w * (x / w - 1) by rw [Int.mul_sub]; omega, Int.add_mul_ediv_left _ _ (by omega), Int.ediv_eq_zero_of_lt (by omega) (by omega)]
      omega
    omega
theorem cp_sum_le {w : Int} (hw : 0 < w) (ns : List Int) : cp ns.sum w ≤ ct ns w := by
  have h := ct_sum_le hw ns
  have : cp ns.sum w ≤ ct ns w ↔ cp ns.sum w < ct ns w + 1 := by omega
  rw [this]
  apply Int.not_le.mp
  intro h2
  have h3 := (cp_le (x := ns.sum) (l := ct ns w + 1) hw).mp h2
  have e : ct ns w + 1 - 1 = ct ns w := by omega
  rw [e] at h3
  omega
theorem cp_mono {x w v : Int} (hw : 0 < w) (h : w ≤ v) (hx : 1 ≤ x) : cp x v ≤ cp x w := by
  rw [cp_le hw]
  have h1 := cp_down (x := x) (w := v) (by omega)
  have h2 := cp_pos (x := x) (w := v) (by omega) hx
  have := Int.mul_le_mul_of_nonneg_left h (show 0 ≤ cp x v - 1 by omega)
  omega
theorem ct_mono {w v : Int} (hw : 0 < w) (h : w ≤ v) : ∀ {ns : List Int}, (∀ x ∈ ns, 1 ≤ x) → ct ns v ≤ ct ns w
  | [], _ => by simp [ct]
  | x :: ns, hn => by
    have ih := ct_mono hw h (ns := ns) fun y hy => hn y (List.mem_cons_of_mem _ hy)
    have hx := cp_mono hw h (hn x List.mem_cons_self)
    rw [ct_cp, ct_cp]
    omega
theorem cp_times {x w m : Int} (hw : 0 < w) (hm : 1 ≤ m) : cp x w ≤ m * cp x (w * m) := by
  have hp : 0 < w * m := Int.mul_pos hw (by omega)
  have h1 := cp_up (x := x) hp
  have : cp x w ≤ m * cp x (w * m) ↔ cp x w < m * cp x (w * m) + 1 := by omega
  rw [this]
  apply Int.not_le.mp
  intro h2
  have h3 := (cp_le (x := x) (l := m * cp x (w * m) + 1) hw).mp h2
  have e : (m * cp x (w * m) + 1 - 1) * w = cp x (w * m) * (w * m) := by
    have : m * cp x (w * m) + 1 - 1 = m * cp x (w * m) := by omega
    rw [this, Int.mul_comm m, Int.mul_assoc, Int.mul_comm m w]
  rw [e] at h3
  omega
theorem ct_times {w m : Int} (hw : 0 < w) (hm : 1 ≤ m) : ∀ (ns : List Int), ct ns w ≤ m * ct ns (w * m)
  | [] => by simp [ct]
  | x :: ns => by
    have ih := ct_times hw hm ns
    have hx := cp_times (x := x) hw hm
    rw [ct_cp, ct_cp, Int.mul_add]
    omega
theorem cp_join {x y w : Int} (hw : 0 < w) (hx : 1 ≤ x) (hy : 1 ≤ y) : cp (x + y) w ≤ cp x w + cp y w ∧ cp x w + cp y w - 1 ≤ cp (x + y) w := by
  constructor
  · have := cp_sum_le hw [x, y]
    rw [ct_cp, ct_cp] at this
    simpa [ct] using this
  · rw [cp_le hw]
    have h1 := cp_down (x := x) hw
    have h2 := cp_down (x := y) hw
    have e : (cp x w + cp y w - 1 - 1) * w = (cp x w - 1) * w + (cp y w - 1) * w := by
      rw [← Int.add_mul]
      congr 1
      omega
    rw [e]
    omega
/-- the lines a to b of the chapter i -/
def seg (i a b : Int) : List (Int × Int) := (List.range (b + 1 - a).toNat).map fun k : Nat => (i, a + (k : Int))
theorem seg_nil {i a b : Int} (h : b < a) : seg i a b = [] := by
  unfold seg
  rw [show (b + 1 - a).toNat = 0 by omega]
  rfl
theorem seg_app {i a m b : Int} (h1 : a ≤ m + 1) (h2 : m ≤ b) : seg i a m ++ seg i (m + 1) b = seg i a b := by
  unfold seg
  rw [show (b + 1 - a).toNat = (m + 1 - a).toNat + (b + 1 - (m + 1)).toNat by omega, List.range_add, List.map_append, List.map_map]
  congr 1
  refine List.map_congr_left fun k _ => ?_
  show (i, m + 1 + (k : Int)) = (i, a + (((m + 1 - a).toNat + k : Nat) : Int))
  congr 1
  omega
def allL : Int → List Int → List (Int × Int)
  | _, [] => []
  | i, x :: xs => seg i 1 x ++ allL (i + 1) xs
theorem allL_snoc : ∀ (i : Int) (xs : List Int) (x : Int), allL i (xs ++ [x]) = allL i xs ++ seg (i + xs.length) 1 x
  | i, [], x => by simp [allL]
  | i, y :: xs, x => by
    show seg i 1 y ++ allL (i + 1) (xs ++ [x]) = seg i 1 y ++ allL (i + 1) xs ++ _
    rw [allL_snoc (i + 1) xs x, List.append_assoc, List.length_cons]
    congr 3
    omega
def doneL (w : Int) : Int → List Int → Int → List (Int × Int)
  | _, [], _ => []
  | i, x :: xs, j => if j ≤ cp x w then seg i 1 (min (j * w) x) else seg i 1 x ++ doneL w (i + 1) xs (j - cp x w)
theorem done_zero {w : Int} (hw : 0 < w) (i : Int) : ∀ {ns : List Int}, (∀ x ∈ ns, 1 ≤ x) → doneL w i ns 0 = []
  | [], _ => rfl
  | x :: ns, h => by
    have hx := h x List.mem_cons_self
    have := cp_pos hw hx
    show (if (0 : Int) ≤ cp x w then _ else _) = _
    rw [if_pos (by omega), Int.zero_mul, seg_nil (by omega)]
theorem done_all {w : Int} (hw : 0 < w) : ∀ (i : Int) {ns : List Int}, (∀ x ∈ ns, 1 ≤ x) → doneL w i ns (ct ns w) = allL i ns
  | _, [], _ => rfl
  | i, x :: ns, h => by
    have hn : ∀ y ∈ ns, 1 ≤ y := fun y hy => h y (List.mem_cons_of_mem _ hy)
    have ih := done_all hw (i + 1) hn
    have hx := h x List.mem_cons_self
    have c1 := ct_nonneg hw hn
    have up := cp_up (x := x) hw
    show (if ct (x :: ns) w ≤ cp x w then _ else _) = seg i 1 x ++ allL (i + 1) ns
    rw [ct_cp]
    split
    · rename_i hle
      have e : ns = [] := List.eq_nil_of_length_eq_zero (by omega)
      subst e
      have e2 : ct [] w = 0 := rfl
      rw [e2, Int.add_zero, Int.min_eq_right up]
      simp [allL]
    · rw [show cp x w + ct ns w - cp x w = ct ns w by omega, ih]
theorem done_step {w : Int} (hw : 0 < w) : ∀ (i : Int) {ns : List Int} (k : Nat) (x j l : Int), (∀ x ∈ ns, 1 ≤ x) → ns[k]? = some x → l = j - ct (ns.take k) w → 1 ≤ l → l ≤ cp x w →
    doneL w i ns j = doneL w i ns (j - 1) ++ seg (i + k) ((l - 1) * w + 1) (min (l * w) x)
  | i, [], k, x, j, l, _, hk, _, _, _ => by simp at hk
  | i, y :: ns, 0, x, j, l, h, hk, hl, l1, l2 => by
    have e : y = x := by simpa using hk
    subst e
    have e2 : l = j := by rw [hl]; simp [ct]
    subst e2
    have hy := h y List.mem_cons_self
    have dn := (cp_le (x := y) hw).mp l2
    have s0 : 0 ≤ (l - 1) * w := Int.mul_nonneg (by omega) (by omega)
    have s1 : l * w = (l - 1) * w + w := by rw [Int.sub_mul]; omega
    show (if l ≤ cp y w then _ else _) = (if l - 1 ≤ cp y w then _ else _) ++ _
    rw [if_pos l2, if_pos (by omega), Int.min_eq_left (a := (l - 1) * w) (by omega), show i + ((0 : Nat) : Int) = i by omega, seg_app (by omega) (by omega)]
  | i, y :: ns, k + 1, x, j, l, h, hk, hl, l1, l2 => by
    have hn : ∀ y ∈ ns, 1 ≤ y := fun z hz => h z (List.mem_cons_of_mem _ hz)
    have hk2 : ns[k]? = some x := by simpa using hk
    have hy := h y List.mem_cons_self
    have up := cp_up (x := y) hw
    have ht : ∀ z ∈ ns.take k, 1 ≤ z := fun z hz => hn z (List.mem_of_mem_take hz)
    have c1 := ct_nonneg hw ht
    have hl2 : l = (j - cp y w) - ct (ns.take k) w := by
      rw [hl, List.take_succ_cons, ct_cp]
      omega
    have ih := done_step hw (i + 1) k x (j - cp y w) l hn hk2 hl2 l1 l2
    show (if j ≤ cp y w then _ else _) = (if j - 1 ≤ cp y w then _ else _) ++ _
    rw [if_neg (by omega), ih, show i + ((k + 1 : Nat) : Int) = i + 1 + k by omega]
    by_cases hj : j - 1 ≤ cp y w
    · rw [if_pos hj]
      have e : j - 1 = cp y w := by omega
      rw [e, Int.min_eq_right up, show j - cp y w - 1 = 0 by omega, done_zero hw (i + 1) hn, List.nil_append]
    · rw [if_neg hj, show j - cp y w - 1 = j - 1 - cp y w by omega, List.append_assoc]
theorem seg_one (i a : Int) (n : Nat) : (List.range (n + 1)).map (fun k : Nat => (i, a + (k : Int))) = (List.range n).map (fun k : Nat => (i, a + (k : Int))) ++ [(i, a + n)] := by
  rw [List.range_succ, List.map_append]
  rfl
/-- where a page lies: the chapter (from 0), its place among the pages of the chapter -/
def OnPage (ns : List Int) (w pg : Int) (k : Nat) (x l : Int) : Prop := ns[k]? = some x ∧ l = pg - ct (ns.take k) w ∧ 1 ≤ l ∧ l ≤ cp x w
/-- lines_on: the chapter, the first and the last line of a page -/
def spLinesOn (K : PySem.W.Frag) : Sp := fun vs H Q _ => ∃ (p : Addr) (ns : List Int) (w j : Int), vs = [.ref p, .int w, .int j] ∧ H p = some (.lst (ns.map V.int)) ∧ ns.length ≤ 1000000 ∧ (∀ n ∈ ns, 1 ≤ n) ∧ 0 < w ∧ w < 2 ^ 390 ∧ 1 ≤ j ∧ j ≤ ct ns w ∧ ct ns w < 2 ^ 390 ∧
  ∀ (q : Addr) (k : Nat) (x l : Int) (H' : Hp), OnPage ns w j k x l → Fr [] H H' → H q = none → H' q = some (.tup [.int (k + 1), .int ((l - 1) * w + 1), .int (if x < l * w then x else l * w)]) → Q (.ref q) H'
def spPageOf (K : PySem.W.Frag) : Sp := fun vs H Q _ => ∃ (p : Addr) (ns : List Int) (w : Int) (k : Nat) (x b : Int), vs = [.ref p, .int w, .int (k + 1), .int b] ∧ H p = some (.lst (ns.map V.int)) ∧ ns.length ≤ 1000000 ∧ (∀ n ∈ ns, 1 ≤ n) ∧ 0 < w ∧ w < 2 ^ 390 ∧ ns[k]? = some x ∧ 1 ≤ b ∧ b ≤ x ∧
  ∀ H', Fr [] H H' → Q (.int (ct (ns.take k) w + cp b w)) H'
def spSame (K : PySem.W.Frag) (n : Nat) : Sp := fun vs H Q _ => ∃ v u, vs = [v, u] ∧ Sm H n v u ∧ ∀ H', Fr [] H H' → Q (.bl true) H'
set_option maxHeartbeats 4000000 in
theorem ok_law_same (T : Txt K mg c) : ∀ dp : Nat, DefAt P w K mg base "_law_same" s_law_same (1 + dp + 1) ["found", "wanted"] ((spSame K) dp) := by
  intro dp
  induction dp with
  | zero =>
    have D_law_same : DefAt P w K mg base "_law_same" s_law_same 1 ["found", "wanted"] spNo := T.f_law_same.never (fun _ _ _ _ _ _ us hl => match us, hl with | [_, _], _ => rfl)
    refine T.f_law_same.ok sc_law_same (fun vs H Q E h => ?_) (fun _ _ _ _ _ _ us hl => match us, hl with | [_, _], _ => rfl) (fun f cdv A outer s H vs Q E hr h => ?_)
    · obtain ⟨v, u, rfl, hs, q⟩ := h
      rfl
    · obtain ⟨v, u, rfl, hs, q⟩ := h
      refine ⟨_, (pss_cons (ps_if (pt_cmpR op_isN1 (pv 1) pe_non (nomark _)) (pss_one (ps_ret (pe_cmpR op_isN1 (pv 0) pe_non (nomark _)))) pss_nil)
    (pss_cons (ps_if (pt_val (pe_callB call_isi (by rfl) T.n_isinstance (by decide +kernel) (pa_cons (pv 1) (pa_cons (pe_bltn (v := .ty "bool") (u := .type "bool") (by rfl) T.n_bool (by decide +kernel) rfl) pa_nil)))) (pss_one (ps_ret (pe_and (pe_callB call_isi (by rfl) T.n_isinstance (by decide +kernel) (pa_cons (pv 0) (pa_cons (pe_bltn (v := .ty "bool") (u := .type "bool") (by rfl) T.n_bool (by decide +kernel) rfl) pa_nil))) (pe_one (pe_cmpR (op_eqD hr.units) (pv 0) (pv 1) (nomark _)))))) pss_nil)
    (pss_cons (ps_if (pt_val (pe_callB call_isi (by rfl) T.n_isinstance (by decide +kernel) (pa_cons (pv 1) (pa_cons (pe_bltn (v := .ty "int") (u := .type "int") (by rfl) T.n_int (by decide +kernel) rfl) pa_nil)))) (pss_one (ps_ret (pe_and (pe_callB call_isi (by rfl) T.n_isinstance (by decide +kernel) (pa_cons (pv 0) (pa_cons (pe_bltn (v := .ty "int") (u := .type "int") (by rfl) T.n_int (by decide +kernel) rfl) pa_nil))) (pe_and (pe_not (pe_callB call_isi (by rfl) T.n_isinstance (by decide +kernel) (pa_cons (pv 0) (pa_cons (pe_bltn (v := .ty "bool") (u := .type "bool") (by rfl) T.n_bool (by decide +kernel) rfl) pa_nil)))) (pe_one (pe_cmpR (op_eqD hr.units) (pv 0) (pv 1) (nomark _))))))) pss_nil)
    (pss_cons (ps_if (pt_val (pe_callB call_isi (by rfl) T.n_isinstance (by decide +kernel) (pa_cons (pv 1) (pa_cons (pe_bltn (v := .ty "str") (u := .type "str") (by rfl) T.n_str (by decide +kernel) rfl) pa_nil)))) (pss_one (ps_ret (pe_and (pe_callB call_isi (by rfl) T.n_isinstance (by decide +kernel) (pa_cons (pv 0) (pa_cons (pe_bltn (v := .ty "str") (u := .type "str") (by rfl) T.n_str (by decide +kernel) rfl) pa_nil))) (pe_one (pe_cmpR (op_eqD hr.units) (pv 0) (pv 1) (nomark _)))))) pss_nil)
    (pss_cons (ps_if (pt_cmpR op_ne (pe_callB call_isi (by rfl) T.n_isinstance (by decide +kernel) (pa_cons (pv 0) (pa_cons (pe_bltn (v := .ty "list") (u := .type "list") (by rfl) T.n_list (by decide +kernel) rfl) pa_nil))) (pe_callB call_isi (by rfl) T.n_isinstance (by decide +kernel) (pa_cons (pv 1) (pa_cons (pe_bltn (v := .ty "list") (u := .type "list") (by rfl) T.n_list (by decide +kernel) rfl) pa_nil))) (nomark _)) (pss_one (ps_ret pe_bl)) pss_nil)
    (pss_cons (ps_if (PW.pt (pw_or (pt_cmpR op_ne (pe_callB call_isi (by rfl) T.n_isinstance (by decide +kernel) (pa_cons (pv 0) (pa_cons (pe_bltn (v := .ty "tuple") (u := .type "tuple") (by rfl) T.n_tuple (by decide +kernel) rfl) pa_nil))) (pe_callB call_isi (by rfl) T.n_isinstance (by decide +kernel) (pa_cons (pv 1) (pa_cons (pe_bltn (v := .ty "tuple") (u := .type "tuple") (by rfl) T.n_tuple (by decide +kernel) rfl) pa_nil))) (nomark _)) (pw_or1 (pt_cmpR op_ne (pe_callB call_lenN (by rfl) T.n_len (by decide +kernel) (pa_cons (pv 0) pa_nil)) (pe_callB call_lenN (by rfl) T.n_len (by decide +kernel) (pa_cons (pv 1) pa_nil)) (nomark _))))) (pss_one (ps_ret pe_bl)) pss_nil)
    (pss_one (ps_ret (pe_cmpR (op_eqD hr.units) (pe_lc (own := [("k", 2)])  rfl sc_law_same.nd (pi_range1 (by rfl) T.n_range (pa_cons (pe_callB call_lenN (by rfl) T.n_len (by decide +kernel) (pa_cons (pv 1) pa_nil)) pa_nil)) (blkOk_by (N := sc_law_same_N) (sc := defScope s_law_same) (by decide +kernel)) (fun _ _ _ _ _ => (pg_name (i := 2) sc_law_same.nd rfl (Or.inl rfl))) (fun _ _ _ _ _ => (pts_one (pt_not (pt_val (pe_callD D_law_same (hr.mono (by omega)) (pa_cons (pe_ix (kc_ix (K := K) (r := rIxA) ix_any rfl) (pv 0) (pv 2) (fun _ _ => rfl)) (pa_cons (pe_ix (kc_ix (K := K) (r := rIxA) ix_any rfl) (pv 1) (pv 2) (fun _ _ => rfl)) pa_nil))))))) (fun _ _ _ _ _ => (pv 2))) (pe_lst pa_nil) (nomark _)))))))))), ?_⟩
      refine w_start (σ' := [some (v), some (u), none]) rfl ?_
      obtain ⟨rfl, hf⟩ := hs
      rcases scal_cases hf with rfl | ⟨b, rfl⟩ | ⟨i, rfl⟩ | ⟨s, rfl⟩
      · walk_at "g"
        exact q _ Fr.refl
      · walk_at "g"
        refine w_eqAtom hf ?_
        walk_at "g"
        exact q _ Fr.refl
      · walk_at "g"
        refine w_eqAtom hf ?_
        walk_at "g"
        exact q _ Fr.refl
      · walk_at "g"
        refine w_eqAtom hf ?_
        walk_at "g"
        exact q _ Fr.refl
  | succ dp ih =>
    have D_law_same := ih
    refine T.f_law_same.ok sc_law_same (fun vs H Q E h => ?_) (fun _ _ _ _ _ _ us hl => match us, hl with | [_, _], _ => rfl) (fun f cdv A outer s H vs Q E hr h => ?_)
    · obtain ⟨v, u, rfl, hs, q⟩ := h
      rfl
    · obtain ⟨v, u, rfl, hs, q⟩ := h
      refine ⟨_, (pss_cons (ps_if (pt_cmpR op_isN1 (pv 1) pe_non (nomark _)) (pss_one (ps_ret (pe_cmpR op_isN1 (pv 0) pe_non (nomark _)))) pss_nil)
    (pss_cons (ps_if (pt_val (pe_callB call_isi (by rfl) T.n_isinstance (by decide +kernel) (pa_cons (pv 1) (pa_cons (pe_bltn (v := .ty "bool") (u := .type "bool") (by rfl) T.n_bool (by decide +kernel) rfl) pa_nil)))) (pss_one (ps_ret (pe_and (pe_callB call_isi (by rfl) T.n_isinstance (by decide +kernel) (pa_cons (pv 0) (pa_cons (pe_bltn (v := .ty "bool") (u := .type "bool") (by rfl) T.n_bool (by decide +kernel) rfl) pa_nil))) (pe_one (pe_cmpR (op_eqD hr.units) (pv 0) (pv 1) (nomark _)))))) pss_nil)
    (pss_cons (ps_if (pt_val (pe_callB call_isi (by rfl) T.n_isinstance (by decide +kernel) (pa_cons (pv 1) (pa_cons (pe_bltn (v := .ty "int") (u := .type "int") (by rfl) T.n_int (by decide +kernel) rfl) pa_nil)))) (pss_one (ps_ret (pe_and (pe_callB call_isi (by rfl) T.n_isinstance (by decide +kernel) (pa_cons (pv 0) (pa_cons (pe_bltn (v := .ty "int") (u := .type "int") (by rfl) T.n_int (by decide +kernel) rfl) pa_nil))) (pe_and (pe_not (pe_callB call_isi (by rfl) T.n_isinstance (by decide +kernel) (pa_cons (pv 0) (pa_cons (pe_bltn (v := .ty "bool") (u := .type "bool") (by rfl) T.n_bool (by decide +kernel) rfl) pa_nil)))) (pe_one (pe_cmpR (op_eqD hr.units) (pv 0) (pv 1) (nomark _))))))) pss_nil)
    (pss_cons (ps_if (pt_val (pe_callB call_isi (by rfl) T.n_isinstance (by decide +kernel) (pa_cons (pv 1) (pa_cons (pe_bltn (v := .ty "str") (u := .type "str") (by rfl) T.n_str (by decide +kernel) rfl) pa_nil)))) (pss_one (ps_ret (pe_and (pe_callB call_isi (by rfl) T.n_isinstance (by decide +kernel) (pa_cons (pv 0) (pa_cons (pe_bltn (v := .ty "str") (u := .type "str") (by rfl) T.n_str (by decide +kernel) rfl) pa_nil))) (pe_one (pe_cmpR (op_eqD hr.units) (pv 0) (pv 1) (nomark _)))))) pss_nil)
    (pss_cons (ps_if (pt_cmpR op_ne (pe_callB call_isi (by rfl) T.n_isinstance (by decide +kernel) (pa_cons (pv 0) (pa_cons (pe_bltn (v := .ty "list") (u := .type "list") (by rfl) T.n_list (by decide +kernel) rfl) pa_nil))) (pe_callB call_isi (by rfl) T.n_isinstance (by decide +kernel) (pa_cons (pv 1) (pa_cons (pe_bltn (v := .ty "list") (u := .type "list") (by rfl) T.n_list (by decide +kernel) rfl) pa_nil))) (nomark _)) (pss_one (ps_ret pe_bl)) pss_nil)
    (pss_cons (ps_if (PW.pt (pw_or (pt_cmpR op_ne (pe_callB call_isi (by rfl) T.n_isinstance (by decide +kernel) (pa_cons (pv 0) (pa_cons (pe_bltn (v := .ty "tuple") (u := .type "tuple") (by rfl) T.n_tuple (by decide +kernel) rfl) pa_nil))) (pe_callB call_isi (by rfl) T.n_isinstance (by decide +kernel) (pa_cons (pv 1) (pa_cons (pe_bltn (v := .ty "tuple") (u := .type "tuple") (by rfl) T.n_tuple (by decide +kernel) rfl) pa_nil))) (nomark _)) (pw_or1 (pt_cmpR op_ne (pe_callB call_lenN (by rfl) T.n_len (by decide +kernel) (pa_cons (pv 0) pa_nil)) (pe_callB call_lenN (by rfl) T.n_len (by decide +kernel) (pa_cons (pv 1) pa_nil)) (nomark _))))) (pss_one (ps_ret pe_bl)) pss_nil)
    (pss_one (ps_ret (pe_cmpR (op_eqD hr.units) (pe_lc (own := [("k", 2)])  rfl sc_law_same.nd (pi_range1 (by rfl) T.n_range (pa_cons (pe_callB call_lenN (by rfl) T.n_len (by decide +kernel) (pa_cons (pv 1) pa_nil)) pa_nil)) (blkOk_by (N := sc_law_same_N) (sc := defScope s_law_same) (by decide +kernel)) (fun _ _ _ _ _ => (pg_name (i := 2) sc_law_same.nd rfl (Or.inl rfl))) (fun _ _ _ _ _ => (pts_one (pt_not (pt_val (pe_callD D_law_same (hr.mono (by omega)) (pa_cons (pe_ix (kc_ix (K := K) (r := rIxA) ix_any rfl) (pv 0) (pv 2) (fun _ _ => rfl)) (pa_cons (pe_ix (kc_ix (K := K) (r := rIxA) ix_any rfl) (pv 1) (pv 2) (fun _ _ => rfl)) pa_nil))))))) (fun _ _ _ _ _ => (pv 2))) (pe_lst pa_nil) (nomark _)))))))))), ?_⟩
      refine w_start (σ' := [some (v), some (u), none]) rfl ?_
      rcases hs with ⟨rfl, hf⟩ | ⟨p, p', xs, ys, rfl, rfl, hk, hlen, hz, hel⟩
      · rcases scal_cases hf with rfl | ⟨b, rfl⟩ | ⟨i, rfl⟩ | ⟨s, rfl⟩
        · walk_at "g"
          exact q _ Fr.refl
        · walk_at "g"
          refine w_eqAtom hf ?_
          walk_at "g"
          exact q _ Fr.refl
        · walk_at "g"
          refine w_eqAtom hf ?_
          walk_at "g"
          exact q _ Fr.refl
        · walk_at "g"
          refine w_eqAtom hf ?_
          walk_at "g"
          exact q _ Fr.refl
      · rcases hk with ⟨ha, hb⟩ | ⟨ha, hb⟩
        · walk_at "g"
          refine w_iteNP (by rw [hlen]) ?_
          walk_at "g"
          refine l_range (fun L i H' => Fr [] H H' ∧ H' L = some (.lst [])) (fun L hL => ⟨Fr.refl.new hL, upd_same⟩) (fun L i H' hL hi h => ?_) (fun L H' hL h => ?_)
          · obtain ⟨f1, h1⟩ := h
            refine w_gname ⟨rfl, ?_⟩
            walk_at "g"
            refine w_ixAL (f1.at0 ha) (by omega) (by omega) (fun x hx => ?_)
            walk_at "g"
            refine w_ixAL (f1.at0 hb) (by omega) (by omega) (fun y hy => ?_)
            walk_at "g"
            rw [show (0 + (i : Int)).toNat = i by omega] at hx hy
            refine ⟨x, y, rfl, (hel i x y hx hy).fr f1, fun H2 f2 => ?_⟩
            walk_at "g"
            exact ⟨f1.trans f2, f2.at0 h1⟩
          · obtain ⟨f1, h1⟩ := h
            walk_at "g"
            rename_i p9 np9
            refine w_eqNil (ns := []) (SqL.of (at_upd h1 np9)) (SqL.of upd_same) ?_
            exact q _ (f1.new np9)
        · walk_at "g"
          refine w_iteNP (by rw [hlen]) ?_
          walk_at "g"
          refine l_range (fun L i H' => Fr [] H H' ∧ H' L = some (.lst [])) (fun L hL => ⟨Fr.refl.new hL, upd_same⟩) (fun L i H' hL hi h => ?_) (fun L H' hL h => ?_)
          · obtain ⟨f1, h1⟩ := h
            refine w_gname ⟨rfl, ?_⟩
            walk_at "g"
            refine w_ixAT (f1.at0 ha) (by omega) (by omega) (fun x hx => ?_)
            walk_at "g"
            refine w_ixAT (f1.at0 hb) (by omega) (by omega) (fun y hy => ?_)
            walk_at "g"
            rw [show (0 + (i : Int)).toNat = i by omega] at hx hy
            refine ⟨x, y, rfl, (hel i x y hx hy).fr f1, fun H2 f2 => ?_⟩
            walk_at "g"
            exact ⟨f1.trans f2, f2.at0 h1⟩
          · obtain ⟨f1, h1⟩ := h
            walk_at "g"
            rename_i p9 np9
            refine w_eqNil (ns := []) (SqL.of (at_upd h1 np9)) (SqL.of upd_same) ?_
            exact q _ (f1.new np9)
/-- a word that is, or is not, a number -/
def spNum (K : PySem.W.Frag) : Sp := fun vs H Q _ => ∃ wd : Str, vs = [.str wd] ∧ wd.length ≤ 100000 ∧ (IsNum (TL.tl wd) → ∀ H', Fr [] H H' → Q (.int (NumText.digitsVal (TL.tl wd) : Nat)) H') ∧ (¬ IsNum (TL.tl wd) → ∀ H', Fr [] H H' → Q .non H')
def spStretch (K : PySem.W.Frag) : Sp := fun vs H Q _ => ∃ wd : Str, vs = [.str wd] ∧ wd.length ≤ 100000 ∧ (∀ p, Stretch (TL.tl wd) p → ∀ r H', Fr [] H H' → H r = none → H' r = some (.tup [.int (p.1 : Int), .int p.2]) → Q (.ref r) H') ∧ ((∀ p, ¬ Stretch (TL.tl wd) p) → ∀ H', Fr [] H H' → Q .non H')
def dg : Str := "0123456789"
theorem dg_mem {c : Nat} : c ∈ (("0123456789" : Str)).cps.toList ↔ 48 ≤ c ∧ c ≤ 57 := by
  have e : (("0123456789" : Str)).cps.toList = [48, 49, 50, 51, 52, 53, 54, 55, 56, 57] := by decide +kernel
  rw [e]
  simp
  omega
theorem spl_bd {S : List Nat} : ∀ (l : List Nat) (k : Nat) (acc : List Nat), (TL.spl S k acc l).length ≤ l.length + 1 ∧ ∀ p ∈ TL.spl S k acc l, p.length ≤ acc.length + l.length
  | [], k, acc => by rw [TL.spl_nil]; simp
  | c :: r, 0, acc => by
    cases hq : TL.pre S (c :: r) with
    | true =>
      rw [TL.spl_hit hq]
      obtain ⟨h1, h2⟩ := spl_bd (S := S) r (S.length - 1) []
      refine ⟨by simp; omega, fun p hp => ?_⟩
      rcases List.mem_cons.mp hp with e | e
      · rw [e]
        omega
      · have := h2 p e
        simp at this ⊢
        omega
    | false =>
      rw [TL.spl_miss hq]
      obtain ⟨h1, h2⟩ := spl_bd (S := S) r 0 (acc ++ [c])
      refine ⟨by simp; omega, fun p hp => ?_⟩
      have := h2 p hp
      simp at this ⊢
      omega
  | c :: r, k + 1, acc => by
    obtain ⟨h1, h2⟩ := spl_bd (S := S) r k acc
    refine ⟨?_, fun p hp => ?_⟩
    · show (TL.spl S k acc r).length ≤ _
      simp
      omega
    · have := h2 p hp
      simp
      omega
theorem w_inN {K : PySem.W.Frag} {H : Hp} {Q : VK} {p : Addr} {xs : List V} (h : H p = some (.lst xs)) (f : xs.all flatV = true) (q : Q (.bl (xs.any fun y => eqV y .non)) H) : rIn K false .non (.ref p) H Q := ⟨p, xs, rfl, .inl (SqL.of h), rfl, f, q⟩
set_option maxHeartbeats 4000000 in
theorem ok_number_of (T : Txt K mg c) : DefAt P w K mg base "number_of" s_number_of 1 ["word"] (spNum K) := by
  refine T.f_number_of.ok sc_number_of (fun vs H Q E h => ?_) (fun _ _ _ _ _ _ us hl => match us, hl with | [_], _ => rfl) (fun f cdv A outer s H vs Q E hr h => ?_)
  · obtain ⟨wd, rfl, hl, q, e⟩ := h
    rfl
  · obtain ⟨wd, rfl, hl, q, e⟩ := h
    refine ⟨_, (pss_cons (ps_if (PW.pt (pw_or (pt_not (pt_chain op_le op_le pe_int (pe_callB call_lenN (by rfl) T.n_len (by decide +kernel) (pa_cons (pv 0) pa_nil)) (pe_gint T.c_MOST_DIGITS))) (pw_or (pt_not (pt_val (pe_callB (cr_all rfl) (by rfl) T.n_all (by decide +kernel) (pa_cons (pe_lc (own := [("sign", 1)]) (tt := tYes) rfl sc_number_of.nd (pi_str (pv 0)) (blkOk_by (N := sc_number_of_N) (sc := defScope s_number_of) (by decide +kernel)) (fun _ _ _ _ _ => (pg_name (i := 1) sc_number_of.nd rfl (Or.inl rfl))) (fun _ _ _ _ _ => pts_nil) (fun _ _ _ _ _ => (pe_cmpR op_inSg (pv 1) (pe_gstr T.c_DIGITS) (by rfl)))) pa_nil)))) (pw_or1 (pt_cmpR op_eq (pe_ix ix_str (pv 0) pe_int (fun _ _ => rfl)) pe_str (nomark _)))))) (pss_one (ps_ret pe_non)) pss_nil)
    (pss_one (ps_ret (pe_callTy call_intS (by rfl) T.n_int (by decide +kernel) (pa_cons (pv 0) pa_nil))))), ?_⟩
    refine w_start (σ' := [some (.str wd), none]) rfl ?_
    walk_at "g"
    have hlt := len_tl wd
    refine w_lenS (by omega) ?_
    walk_at "g"
    refine w_ite (fun h1 => ?_) (fun h1 => ?_)
    · walk_at "g"
      refine w_iteN (fun h2 => ?_) (fun h2 => ?_)
      · walk_at "g"
        exact e (fun z => h2 (by have := z.2.1; omega)) _ Fr.refl
      · walk_at "g"
        refine l_it walk_str (fun L i H' => Fr [] H H' ∧ H' L = some (.lst (((TL.tl wd).take i).map fun c => V.bl (decide (48 ≤ c ∧ c ≤ 57))))) (fun L hL => ⟨Fr.refl.new hL, upd_same⟩) (fun _ _ _ _ _ _ => trivial) (fun L i x H' H'' hL hi h y => ?_) (fun L H' hL h => ?_)
        · obtain ⟨f1, g1⟩ := h
          obtain ⟨rfl, c, hc, rfl⟩ := y
          have hc2 : (TL.tl wd)[i]? = some c := by
            rw [← hc]
            simp [TL.tl]
          have hil := (List.getElem?_eq_some_iff.mp hc2).1
          refine w_gname ⟨rfl, ?_⟩
          walk_at "g"
          have ec : decide (c ∈ (("0123456789" : Str)).cps.toList) = decide (48 ≤ c ∧ c ≤ 57) := decide_eq_decide.mpr dg_mem
          rw [ec]
          refine w_appE g1 (by rw [List.length_map, List.length_take]; omega) ⟨f1.put (.inl hL), ?_⟩
          rw [List.take_succ, hc2, upd_same]
          simp
        · obtain ⟨f1, g1⟩ := h
          have g2 : H' L = some (.lst (((TL.tl wd).map fun c => decide (48 ≤ c ∧ c ≤ 57)).map V.bl)) := by
            rw [g1, show wd.cps.size = (TL.tl wd).length by simp [TL.tl], List.take_length, List.map_map]
            rfl
          walk_at "g"
          refine w_all g2 ⟨_, rfl, ?_⟩
          cases hb : ((TL.tl wd).map fun c => decide (48 ≤ c ∧ c ≤ 57)).all id with
          | false =>
            walk_at "g"
            refine e (fun z => ?_) _ f1
            have : ((TL.tl wd).map fun c => decide (48 ≤ c ∧ c ≤ 57)).all id = true := by
              simp only [List.all_map, List.all_eq_true, Function.comp, id, decide_eq_true_eq]
              exact z.2.2.1
            rw [hb] at this
            cases this
          | true =>
            have hd : ∀ c ∈ TL.tl wd, 48 ≤ c ∧ c ≤ 57 := by
              simpa only [List.all_map, List.all_eq_true, Function.comp, id, decide_eq_true_eq] using hb
            obtain ⟨c, r, ew⟩ : ∃ c r, TL.tl wd = c :: r := by
              cases z : TL.tl wd with
              | nil => rw [z] at hlt; simp at hlt; omega
              | cons c r => exact ⟨c, r, rfl⟩
            walk_at "g"
            refine w_ixS (by omega) ew ?_
            walk_at "g"
            have e0 : ("0" : Str) = ⟨#[48]⟩ := by decide +kernel
            refine w_ite (fun h3 => ?_) (fun h3 => ?_)
            · walk_at "g"
              refine e (fun z => z.2.2.2 ?_) _ f1
              rw [e0] at h3
              have h4 : c = 48 := by simpa using h3
              rw [ew, h4]
              rfl
            · walk_at "g"
              have hn : IsNum (TL.tl wd) := ⟨by omega, by omega, hd, fun z => h3 (by
                rw [ew] at z
                have h4 : c = 48 := by simpa using z
                rw [e0, h4])⟩
              exact w_intS hn (q hn _ f1)
    · walk_at "g"
      exact e (fun z => h1 (by have := z.1; omega)) _ Fr.refl
set_option maxHeartbeats 4000000 in
theorem ok_stretch_of (T : Txt K mg c) : DefAt P w K mg base "stretch_of" s_stretch_of 2 ["word"] (spStretch K) := by
  have D_number_of := ok_number_of (P := P) (w := w) (base := base) T
  refine T.f_stretch_of.ok sc_stretch_of (fun vs H Q E h => ?_) (fun _ _ _ _ _ _ us hl => match us, hl with | [_], _ => rfl) (fun f cdv A outer s H vs Q E hr h => ?_)
  · obtain ⟨wd, rfl, hl, q, e⟩ := h
    rfl
  · obtain ⟨wd, rfl, hl, q, e⟩ := h
    refine ⟨_, (pss_cons (ps_setLc (i := 1) (own := [("part", 2)]) (tt := tYes) rfl sc_stretch_of.nd rfl rfl (sw_true rfl rfl rfl (by decide +kernel)) (pi_list (pe_splitN (pv 0) (pe_gstr T.c_TIMES))) (blkOk_by (N := sc_stretch_of_N) (sc := defScope s_stretch_of) (by decide +kernel)) (fun _ _ _ _ _ => (pg_name (i := 2) sc_stretch_of.nd rfl (Or.inl rfl))) (fun _ _ _ _ _ => pts_nil) (fun _ _ _ _ _ => (pe_callD D_number_of (hr.mono (by decide)) (pa_cons (pv 2) pa_nil))))
    (pss_cons (ps_if (PW.pt (pw_or (pt_cmpR op_in_seq pe_non (pv 1) (by rfl)) (pw_or1 (pt_cmpR op_gt (pe_callB call_lenN (by rfl) T.n_len (by decide +kernel) (pa_cons (pv 1) pa_nil)) pe_int (nomark _))))) (pss_one (ps_ret pe_non)) pss_nil)
    (pss_cons (ps_if (pt_cmpR op_eq (pe_callB call_lenN (by rfl) T.n_len (by decide +kernel) (pa_cons (pv 1) pa_nil)) pe_int (nomark _)) (pss_one (ps_ret (pe_tup (pa_cons pe_int (pa_cons (pe_ix ix_list (pv 1) pe_int (fun _ _ => rfl)) pa_nil))))) pss_nil)
    (pss_one (ps_ret (pe_ifExp (pt_cmpR op_gt (pe_ix ix_list (pv 1) pe_int (fun _ _ => rfl)) pe_int (nomark _)) (pe_tup (pa_cons (pe_ix ix_list (pv 1) pe_int (fun _ _ => rfl)) (pa_cons (pe_ix ix_list (pv 1) pe_int (fun _ _ => rfl)) pa_nil))) pe_non)))))), ?_⟩
    refine w_start (σ' := [some (.str wd), none, none]) rfl ?_
    walk_at "g"
    refine w_splitE (by omega) (by decide +kernel) (fun p1 np1 => ?_)
    walk_at "g"
    have hsp : (Txt.split wd ("x" : Str)).map TL.tl = TL.spl [120] 0 [] (TL.tl wd) := by
      have e1 : TL.tl ("x" : Str) = [120] := by decide +kernel
      rw [← e1]
      exact TL.split_spl wd ("x" : Str) (by rw [e1]; simp) (TL.kind_ok (by decide +kernel))
    have hlt := len_tl wd
    have hbd := spl_bd (S := [120]) (TL.tl wd) 0 []
    rw [← hsp] at hbd
    have hpl : (Txt.split wd ("x" : Str)).length ≤ 200000 := by
      have := hbd.1
      rw [List.length_map] at this
      omega
    have hpa : ∀ a ∈ Txt.split wd ("x" : Str), a.length ≤ 100000 := fun a ha => by
      have := hbd.2 (TL.tl a) (List.mem_map_of_mem ha)
      rw [List.length_nil] at this
      rw [len_tl]
      omega
    refine l_list ((Txt.split wd ("x" : Str)).map V.str) (fun L i H' => ∃ vs : List V, Fr [] (upd H p1 (.lst ((Txt.split wd ("x" : Str)).map V.str))) H' ∧ H' L = some (.lst vs) ∧ vs.length = i ∧ ∀ (j : Nat) (a : Str), j < i → (Txt.split wd ("x" : Str))[j]? = some a → (IsNum (TL.tl a) ∧ vs[j]? = some (.int (NumText.digitsVal (TL.tl a) : Nat))) ∨ (¬ IsNum (TL.tl a) ∧ vs[j]? = some .non)) (fun L hL => ⟨[], Fr.refl.new hL, upd_same, rfl, fun j a hj => by omega⟩) (fun L i H' _ _ h => .of (h.choose_spec.1.at0 upd_same)) (fun L i x H' hL hx h => ?_) (fun L H' hL h => ?_)
    · obtain ⟨vs, f1, g1, hv, hj⟩ := h
      obtain ⟨a, ha, rfl⟩ : ∃ a, (Txt.split wd ("x" : Str))[i]? = some a ∧ x = .str a := by
        rw [List.getElem?_map] at hx
        cases z : (Txt.split wd ("x" : Str))[i]? with
        | none => rw [z] at hx; cases hx
        | some a =>
          rw [z] at hx
          cases hx
          exact ⟨a, rfl, rfl⟩
      have hil := (List.getElem?_eq_some_iff.mp ha).1
      have snoc : ∀ v, ((IsNum (TL.tl a) ∧ v = V.int (NumText.digitsVal (TL.tl a) : Nat)) ∨ (¬ IsNum (TL.tl a) ∧ v = .non)) → ∀ (j : Nat) (b : Str), j < i + 1 → (Txt.split wd ("x" : Str))[j]? = some b → (IsNum (TL.tl b) ∧ (vs ++ [v])[j]? = some (.int (NumText.digitsVal (TL.tl b) : Nat))) ∨ (¬ IsNum (TL.tl b) ∧ (vs ++ [v])[j]? = some .non) := fun v hv2 j b hj1 hb => by
        rcases Nat.lt_succ_iff_lt_or_eq.mp hj1 with z | z
        · rw [List.getElem?_append_left (by omega)]
          exact hj j b z hb
        · subst z
          rw [ha] at hb
          cases hb
          rw [List.getElem?_append_right (by omega), show j - vs.length = 0 by omega]
          rcases hv2 with ⟨h1, rfl⟩ | ⟨h1, rfl⟩
          · exact .inl ⟨h1, rfl⟩
          · exact .inr ⟨h1, rfl⟩
      refine w_gname ⟨rfl, ?_⟩
      walk_at "g"
      refine ⟨a, rfl, hpa a (List.mem_of_getElem? ha), fun hn H2 f2 => ?_, fun hn H2 f2 => ?_⟩
      · exact w_appE (f2.at0 g1) (by omega) ⟨_, (f1.trans f2).put (.inl hL), upd_same, by simp [hv], snoc _ (.inl ⟨hn, rfl⟩)⟩
      · exact w_appE (f2.at0 g1) (by omega) ⟨_, (f1.trans f2).put (.inl hL), upd_same, by simp [hv], snoc _ (.inr ⟨hn, rfl⟩)⟩
    · obtain ⟨vs, f1, g1, hv, hj⟩ := h
      rw [List.length_map] at hv hj
      have f01 : Fr [] H H' := (Fr.refl.new np1).trans f1
      have hat : ∀ (j : Nat) (v : V), vs[j]? = some v → ∃ a, (Txt.split wd ("x" : Str))[j]? = some a ∧ ((IsNum (TL.tl a) ∧ v = .int (NumText.digitsVal (TL.tl a) : Nat)) ∨ (¬ IsNum (TL.tl a) ∧ v = .non)) := fun j v hjv => by
        have hjl := (List.getElem?_eq_some_iff.mp hjv).1
        have ha : (Txt.split wd ("x" : Str))[j]? = some (Txt.split wd ("x" : Str))[j] := List.getElem?_eq_getElem (by omega)
        refine ⟨_, ha, ?_⟩
        have := hj j _ (by omega) ha
        rw [hjv] at this
        simpa using this
      have hflat : vs.all flatV = true := by
        rw [List.all_eq_true]
        intro v hv2
        obtain ⟨j, hjv⟩ := List.getElem?_of_mem hv2
        obtain ⟨a, _, ⟨_, rfl⟩ | ⟨_, rfl⟩⟩ := hat j v hjv <;> rfl
      walk_at "g"
      refine w_inN g1 hflat ⟨_, rfl, ?_⟩
      refine w_iteB (fun hany => ?_) (fun hany => ?_)
      · walk_at "g"
        refine e (fun p hp => ?_) _ f01
        rw [List.any_eq_true] at hany
        obtain ⟨v, hvm, hv2⟩ := hany
        obtain ⟨j, hjv⟩ := List.getElem?_of_mem hvm
        obtain ⟨a, ha, ⟨_, rfl⟩ | ⟨hno, rfl⟩⟩ := hat j v hjv
        · cases hv2
        · refine hno ?_
          have ham : TL.tl a ∈ (Txt.split wd ("x" : Str)).map TL.tl := List.mem_map_of_mem (List.mem_of_getElem? ha)
          rw [hsp] at ham
          rcases hp.parts with ⟨_, h2, h3, _⟩ | ⟨_, a', b', h2, h3, h4, _⟩
          · rw [h2] at ham
            rw [List.mem_singleton.mp ham]
            exact h3
          · rw [h2] at ham
            simp only [List.mem_cons, List.not_mem_nil, or_false] at ham
            rcases ham with z | z <;> rw [z] <;> assumption
      · have hnum : ∀ (j : Nat) (v : V), vs[j]? = some v → ∃ a, (Txt.split wd ("x" : Str))[j]? = some a ∧ IsNum (TL.tl a) ∧ v = .int (NumText.digitsVal (TL.tl a) : Nat) := fun j v hjv => by
          obtain ⟨a, ha, h | ⟨_, rfl⟩⟩ := hat j v hjv
          · exact ⟨a, ha, h⟩
          · have : (vs.any fun y => eqV y .non) = true := List.any_eq_true.mpr ⟨.non, List.mem_of_getElem? hjv, rfl⟩
            rw [hany] at this
            cases this
        walk_at "g"
        refine w_ite (fun hl3 => ?_) (fun hl3 => ?_)
        · walk_at "g"
          refine e (fun p hp => ?_) _ f01
          have hll : ((Txt.split wd ("x" : Str)).map TL.tl).length = vs.length := by rw [List.length_map, hv]
          rw [hsp] at hll
          rcases hp.parts with ⟨_, h2, _⟩ | ⟨_, a', b', h2, _⟩ <;> rw [h2] at hll <;> simp at hll <;> omega
        · walk_at "g"
          have hlen : (TL.spl [120] 0 [] (TL.tl wd)).length = vs.length := by rw [← hsp, List.length_map, hv]
          have hne : vs.length ≠ 0 := by
            rw [← hlen]
            have := spl_ne (S := [120]) (TL.tl wd) 0 []
            cases z : TL.spl [120] 0 [] (TL.tl wd) with
            | nil => exact absurd z this
            | cons a b => simp
          have getp : ∀ (j : Nat) (v : V), vs[j]? = some v → ∃ a, (TL.spl [120] 0 [] (TL.tl wd))[j]? = some a ∧ IsNum a ∧ v = .int (NumText.digitsVal a : Nat) := fun j v hjv => by
            obtain ⟨a, ha, h1, h2⟩ := hnum j v hjv
            refine ⟨TL.tl a, ?_, h1, h2⟩
            rw [← hsp, List.getElem?_map, ha]
            rfl
          refine w_ite (fun hl1 => ?_) (fun hl1 => ?_)
          · walk_at "g"
            refine w_ixAt g1 (by omega) (by omega) (fun v hv0 => ?_)
            obtain ⟨a, ha, hna, rfl⟩ := getp 0 v hv0
            walk_at "g"
            rename_i r9 nr9
            have ea : TL.tl wd = a := by
              have hw := joinL_spl (S := [120]) (by simp) (TL.tl wd).length (TL.tl wd) [] (Nat.le_refl _)
              cases z : TL.spl [120] 0 [] (TL.tl wd) with
              | nil => exact absurd z (spl_ne _ _ _)
              | cons x y =>
                rw [z] at ha hlen hw
                cases y with
                | nil =>
                  cases ha
                  simpa [TL.joinL] using hw.symm
                | cons y1 y2 => simp at hlen; omega
            subst ea
            exact q (1, (NumText.digitsVal (TL.tl wd) : Nat)) (stretch_one hna) r9 _ (f01.new nr9) (f01.free List.not_mem_nil nr9) upd_same
          · walk_at "g"
            refine w_ixAt g1 (by omega) (by omega) (fun v hv0 => ?_)
            obtain ⟨a, ha, hna, rfl⟩ := getp 0 v hv0
            obtain ⟨b, hb, hnb⟩ : ∃ b, (TL.spl [120] 0 [] (TL.tl wd))[1]? = some b ∧ IsNum b ∧ vs[1]? = some (.int (NumText.digitsVal b : Nat)) := by
              obtain ⟨v1, hv1⟩ : ∃ v1, vs[1]? = some v1 := ⟨_, List.getElem?_eq_getElem (by omega)⟩
              obtain ⟨b, hb, hnb, rfl⟩ := getp 1 v1 hv1
              exact ⟨b, hb, hnb, hv1⟩
            have es : TL.spl [120] 0 [] (TL.tl wd) = [a, b] := by
              cases z : TL.spl [120] 0 [] (TL.tl wd) with
              | nil => exact absurd z (spl_ne _ _ _)
              | cons x y =>
                rw [z] at ha hb hlen
                cases y with
                | nil => simp at hb
                | cons y1 y2 =>
                  cases y2 with
                  | nil =>
                    cases ha
                    cases hb
                    rfl
                  | cons y3 y4 => simp at hlen; omega
            walk_at "g"
            refine w_ite (fun h1 => ?_) (fun h1 => ?_)
            · walk_at "g"
              refine w_ixAt g1 (by omega) (by omega) (fun v hv0 => ?_)
              obtain ⟨a', ha', _, rfl⟩ := getp 0 v hv0
              rw [es] at ha'
              cases ha'
              walk_at "g"
              refine w_ixAt g1 (by omega) (by omega) (fun v hv0 => ?_)
              obtain ⟨b', hb', _, rfl⟩ := getp 1 v hv0
              rw [es] at hb'
              cases hb'
              walk_at "g"
              rename_i r9 nr9
              exact q (NumText.digitsVal a, (NumText.digitsVal b : Nat)) (stretch_two es hna hnb.1 (by omega)) r9 _ (f01.new nr9) (f01.free List.not_mem_nil nr9) upd_same
            · walk_at "g"
              refine e (fun p hp => ?_) _ f01
              rcases hp.parts with ⟨_, h2, _⟩ | ⟨h0, a', b', h2, _, _, h5, _⟩
              · rw [h2] at es
                simp at es
              · rw [h2] at es
                cases es
                omega
def Adj (rs : List (Nat × Int)) : Prop := ∀ (i : Nat) (p q : Nat × Int), rs[i]? = some p → rs[i + 1]? = some q → p.2 ≠ q.2
theorem adj_snoc {rs : List (Nat × Int)} {p q : Nat × Int} (h : Adj (rs ++ [p])) (hq : p.2 ≠ q.2) : Adj (rs ++ [p] ++ [q]) := fun i a b ha hb => by
  by_cases hi : i + 1 < (rs ++ [p]).length
  · rw [List.getElem?_append_left (by omega)] at ha
    rw [List.getElem?_append_left hi] at hb
    exact h i a b ha hb
  · have hl := (List.getElem?_eq_some_iff.mp hb).1
    simp only [List.length_append, List.length_cons, List.length_nil] at hi hl
    obtain rfl : i = rs.length := by omega
    rw [List.getElem?_append_left (by simp), List.getElem?_append_right (by omega)] at ha
    rw [List.getElem?_append_right (by simp)] at hb
    simp at ha hb
    rw [← ha, ← hb]
    exact hq
theorem adj_set {rs : List (Nat × Int)} {p q : Nat × Int} (h : Adj (rs ++ [p])) (e : q.2 = p.2) : Adj (rs ++ [q]) := fun i a b ha hb => by
  have hl := (List.getElem?_eq_some_iff.mp hb).1
  simp only [List.length_append, List.length_cons, List.length_nil] at hl
  have hia : (rs ++ [p])[i]? = some a := by
    rw [List.getElem?_append_left (by omega)] at ha ⊢
    exact ha
  by_cases hi : i + 1 < rs.length
  · refine h i a b hia ?_
    rw [List.getElem?_append_left hi] at hb ⊢
    exact hb
  · have hlen : i + 1 = rs.length := by omega
    have hb2 : (rs ++ [p])[i + 1]? = some p := by
      rw [hlen]
      simp
    have hbq : b = q := by
      rw [hlen] at hb
      simp at hb
      exact hb.symm
    rw [hbq, e]
    exact h i a p hia hb2
theorem adj_add (rs : List (Nat × Int)) (x : Int) (h : Adj rs) : Adj (addRun rs x) := by
  rcases snoc_cases rs with rfl | ⟨i, p, rfl⟩
  · intro i a b ha hb
    simp [addRun] at hb
  · rw [addRun_snoc]
    split
    · exact adj_set h rfl
    · rename_i hne
      have := adj_snoc (q := (1, x)) h hne
      simpa using this
theorem runs_adj (ns : List Int) : Adj (runs ns) := by
  have key : ∀ (ns : List Int) (rs : List (Nat × Int)), Adj rs → Adj (ns.foldl addRun rs) := by
    intro ns
    induction ns with
    | nil => intro rs h; exact h
    | cons n ns ih => intro rs h; exact ih _ (adj_add rs n h)
  exact key ns [] (fun i p q h => by simp at h)
theorem unrun_snoc (rs : List (Nat × Int)) (p : Nat × Int) : unrun (rs ++ [p]) = unrun rs ++ List.replicate p.1 p.2 := by simp [unrun]
theorem unrun_last {rs : List (Nat × Int)} {p : Nat × Int} (hp : 1 ≤ p.1) {i : List Int} {x : Int} (h : unrun (rs ++ [p]) = i ++ [x]) : x = p.2 := by
  rw [unrun_snoc] at h
  have e : (unrun rs ++ List.replicate p.1 p.2).getLast? = some p.2 := by
    obtain ⟨n, hn⟩ : ∃ n, p.1 = n + 1 := ⟨p.1 - 1, by omega⟩
    rw [hn, List.replicate_succ', ← List.append_assoc, List.getLast?_append]
    simp
  rw [h] at e
  simpa using e
theorem unrun_take_len (rs : List (Nat × Int)) (i : Nat) : (unrun (rs.take i)).length ≤ (unrun rs).length := by
  have e : unrun rs = unrun (rs.take i) ++ unrun (rs.drop i) := by
    unfold unrun
    rw [← List.flatMap_append, List.take_append_drop]
  rw [e, List.length_append]
  omega
theorem unrun_nil {rs : List (Nat × Int)} (h : ∀ p ∈ rs, 1 ≤ p.1) (e : unrun rs = []) : rs = [] := by
  cases rs with
  | nil => rfl
  | cons p r =>
    have := h p (by simp)
    have z := congrArg List.length e
    simp [unrun] at z
    omega
def spReadOk (K : PySem.W.Frag) : Sp := fun vs H Q _ => ∃ (t : Str) (ns : List Int), vs = [.str t] ∧ t = txt ns ∧ (∀ n ∈ ns, 1 ≤ n ∧ n < 10 ^ 40) ∧ ns.length ≤ 2000 ∧ t.length ≤ 90000 ∧ ∀ r H', Fr [] H H' → H r = none → H' r = some (.lst (ns.map V.int)) → Q (.ref r) H'
set_option maxHeartbeats 4000000 in
theorem ok_read_book (T : Txt K mg c) : DefAt P w K mg base "read_book" s_read_book 3 ["text"] (spReadOk K) := by
  have D_stretch_of := ok_stretch_of (P := P) (w := w) (base := base) T
  refine T.f_read_book.ok sc_read_book (fun vs H Q E h => ?_) (fun _ _ _ _ _ _ us hl => match us, hl with | [_], _ => rfl) (fun f cdv A outer s H vs Q E hr h => ?_)
  · obtain ⟨t, ns, rfl, ht, hn, hl, htl, q⟩ := h
    rfl
  · obtain ⟨t, ns, rfl, ht, hn, hl, htl, q⟩ := h
    refine ⟨_, (pss_cons (ps_if (pt_cmpR op_eq (pv 0) (pe_gstr T.c_EMPTY) (nomark _)) (pss_one (ps_ret (pe_lst pa_nil))) pss_nil)
    (pss_cons (ps_set (i := 1) sc_read_book.nd rfl (Or.inl rfl) (pe_lst pa_nil))
    (pss_cons (ps_for PassesOwn.never rfl (pi_list (pe_splitN (pv 0) (pe_gstr T.c_BETWEEN))) (pg_name (i := 2) sc_read_book.nd rfl (Or.inl rfl)) (pss_cons (ps_set (i := 3) sc_read_book.nd rfl (Or.inl rfl) (pe_callD D_stretch_of (hr.mono (by decide)) (pa_cons (pv 2) pa_nil)))
    (pss_cons (ps_if (PW.pt (pw_or (pt_cmpR op_isN1 (pv 3) pe_non (nomark _)) (pw_or1 (PW.pt (pw_and (pt_cmpR (op_neD hr.units) (pv 1) (pe_lst pa_nil) (nomark _)) (pw_and1 (pt_cmpR op_eq (pe_ix ix_list (pv 1) (pe_un un_neg pe_int) (fun _ _ => rfl)) (pe_ix ix_tup (pv 3) pe_int (fun _ _ => rfl)) (nomark _)))))))) (pss_one ps_never) pss_nil)
    (pss_one (ps_expr (pe_bm PySem.F.plainAttrs_list PySem.F.slot_list_extend PySem.F.type_list_extend mt_extend (pv 1) (pa_cons (pe_op op_rep (pe_lst (pa_cons (pe_ix ix_tup (pv 3) pe_int (fun _ _ => rfl)) pa_nil)) (pe_ix ix_tup (pv 3) pe_int (fun _ _ => rfl))) pa_nil)))))))
    (pss_one (ps_ret (pv 1)))))), ?_⟩
    refine w_start (σ' := [some (.str t), none, none, none]) rfl ?_
    walk_at "g"
    have hn1 : ∀ n ∈ ns, 1 ≤ n := fun n h => (hn n h).1
    refine w_ite (fun h => ?_) (fun h => ?_)
    · have e : ns = [] := Classical.byContradiction fun z => txt_empty hn1 z (ht ▸ h)
      subst e
      walk_at "g"
      exact q _ _ (by walk_at "F") (by assumption) upd_same
    · have hne : ns ≠ [] := fun z => h (by rw [ht, z]; rfl)
      have hsp : Txt.split t (" + " : Str) = (runs ns).map word := by
        rw [ht]
        unfold txt
        rw [if_neg hne]
        refine TL.split_join tl_sep (by decide +kernel) (by simpa using runs_ne hne) (fun p hp => ?_)
        obtain ⟨r, hr, rfl⟩ := List.mem_map.mp hp
        exact word_free (by have := hn1 r.2 (runs_ok ns r hr).2.2; omega) (.inl (by decide)) (by decide)
      walk_at "g"
      rename_i B nB
      refine w_splitE (by omega) (by decide +kernel) (fun p1 np1 => ?_)
      rw [hsp]
      walk_at "g"
      refine f_list (((runs ns).map word).map V.str) (fun i σ' H' => ∃ (o2 o3 : Option V), σ' = [some (.str t), some (.ref B), o2, o3] ∧ Fr [] H H' ∧ H' p1 = some (.lst (((runs ns).map word).map V.str)) ∧ p1 ≠ B ∧ H' B = some (.lst ((unrun ((runs ns).take i)).map V.int))) ⟨_, _, rfl, by walk_at "F", upd_same, (ne_of_none upd_same np1).symm, at_upd upd_same np1⟩ ?_ ?_ ?_
      · rintro i σ' H' hi ⟨o2, o3, rfl, f1, h1, _, h2⟩
        exact .of h1
      · rintro i x σ' H' hx ⟨o2, o3, rfl, f1, h1, h1B, h2⟩
        obtain ⟨pr, hpr, rfl⟩ : ∃ pr, (runs ns)[i]? = some pr ∧ x = .str (word pr) := by
          rw [List.getElem?_map, List.getElem?_map] at hx
          cases z : (runs ns)[i]? with
          | none => rw [z] at hx; cases hx
          | some pr =>
            rw [z] at hx
            cases hx
            exact ⟨pr, rfl, rfl⟩
        have hok := runs_ok ns pr (List.mem_of_getElem? hpr)
        have hb := hn pr.2 hok.2.2
        have hst : Stretch (TL.tl (word pr)) pr := ⟨rfl, hok.1, by have := hok.2.1; omega, hb.1, hb.2⟩
        have hwl := len_word (p := pr) (by have := hok.2.1; omega) (by omega) hb.2
        have hil := (List.getElem?_eq_some_iff.mp hpr).1
        have hel := unrun_take_len (runs ns) i
        rw [unrun_runs] at hel
        have et : unrun ((runs ns).take (i + 1)) = unrun ((runs ns).take i) ++ List.replicate pr.1 pr.2 := by
          rw [List.take_succ, hpr]
          exact unrun_snoc _ pr
        walk_at "g"
        refine ⟨word pr, rfl, by omega, fun p hp r H2 f2 nr hr => ?_, fun hno => (hno pr hst).elim⟩
        obtain rfl := hp.uniq hst
        have h1' := f2.at0 h1
        have h2' := f2.at0 h2
        have f02 : Fr [] H H2 := f1.trans f2
        clear f1 f2 h1 h2
        have fin : ∀ (H3 : Hp) (zs : List Int), Fr [] H H3 → H3 p1 = some (.lst (((runs ns).map word).map V.str)) → zs = List.replicate p.1 p.2 →
            ∃ (o2 o3 : Option V), [some (.str t), some (.ref B), some (.str (word p)), some (.ref r)] = [some (V.str t), some (.ref B), o2, o3] ∧ Fr [] H (upd H3 B (.lst ((unrun ((runs ns).take i) ++ zs).map V.int))) ∧ (upd H3 B (.lst ((unrun ((runs ns).take i) ++ zs).map V.int))) p1 = some (.lst (((runs ns).map word).map V.str)) ∧ p1 ≠ B ∧ (upd H3 B (.lst ((unrun ((runs ns).take i) ++ zs).map V.int))) B = some (.lst ((unrun ((runs ns).take (i + 1))).map V.int)) := fun H3 zs f3 g1 hz =>
          ⟨_, _, rfl, f3.put (.inl nB), by rw [upd_ne h1B]; exact g1, h1B, by rw [upd_same, et, hz]⟩
        walk_at "g"
        rename_i p5 np5
        refine w_iteN (fun hne2 => ?_) (fun he2 => ?_)
        · walk_at "g"
          rename_i ini x5 hx5
          have hxn : x5 ≠ p.2 := by
            have hi0 : 0 < i := by
              rcases Nat.eq_zero_or_pos i with z | z
              · subst z
                exact absurd rfl hne2
              · exact z
            obtain ⟨pp, hpp⟩ : ∃ pp, (runs ns)[i - 1]? = some pp := ⟨_, List.getElem?_eq_getElem (by omega)⟩
            have e3 : (runs ns).take i = (runs ns).take (i - 1) ++ [pp] := by
              have z := List.take_succ (l := runs ns) (i := i - 1)
              rw [show i - 1 + 1 = i by omega, hpp] at z
              exact z
            have hadj := runs_adj ns (i - 1) pp p hpp (by rw [show i - 1 + 1 = i by omega]; exact hpr)
            rw [e3] at hx5
            rw [unrun_last (runs_ok ns pp (List.mem_of_getElem? hpp)).1 hx5]
            exact hadj
          refine w_ite (fun z => absurd z hxn) (fun _ => ?_)
          walk_at "g"
          rename_i p6 np6 p7 np7
          exact fin _ _ (((f02.new np5).new np6).new np7) (at_upd (at_upd (at_upd h1' np5) np6) np7) (by simp)
        · walk_at "g"
          rename_i p6 np6 p7 np7
          exact fin _ _ (((f02.new np5).new np6).new np7) (at_upd (at_upd (at_upd h1' np5) np6) np7) (by simp)
      · rintro σ' H' ⟨o2, o3, rfl, f1, h1, _, h2⟩
        rw [List.length_map, List.length_map, List.take_length, unrun_runs] at h2
        walk_at "g"
        exact q B H' f1 nB h2
def spLens : Sp := fun vs H Q _ => ∃ (a g : Addr) (k m : Int), vs = [.ref a, .int m] ∧ Src H a g k ∧ 0 ≤ m ∧ m ≤ 1000 ∧ k < 2 ^ 38 ∧
  ∀ (p : Addr) (xs : List Int) (k' : Int) (H' : Hp), xs.length ≤ m.toNat → (∀ x ∈ xs, 1 ≤ x ∧ x ≤ 10 ^ 30 - 1) → k' ≤ k + 2 + 2 * m → Src H' a g k' → Fr [a, g] H H' → H p = none → H' p = some (.lst (xs.map V.int)) → Q (.ref p) H'
def spWide (K : PySem.W.Frag) : Sp := fun vs H Q _ => ∃ (a g p : Addr) (xs : List Int) (k : Int), vs = [.ref a, .ref p] ∧ Src H a g k ∧ p ≠ a ∧ p ≠ g ∧ H p = some (.lst (xs.map V.int)) ∧ xs.length ≤ 1000 ∧ (∀ x ∈ xs, 1 ≤ x ∧ x ≤ 10 ^ 30 - 1) ∧ k < 2 ^ 38 ∧
  ∀ (v k' : Int) (H' : Hp), 1 ≤ v → v ≤ 10 ^ 30 - 1 → k' ≤ k + 10 → Src H' a g k' → Fr [a, g] H H' → Q (.int v) H'
def spSheets : Sp := fun vs H Q _ => ∃ (x w : Int), vs = [.int x, .int w] ∧ 0 < w ∧ w < 2 ^ 390 ∧ x.natAbs < 2 ^ 390 ∧ Q (.int (cp x w)) H
set_option maxHeartbeats 4000000 in
theorem ok_law_lengths (T : Txt K mg c) : DefAt P w K mg base "_law_lengths" s_law_lengths 2 ["source", "many"] spLens := by
  have D_law_draw := ok_law_draw (P := P) (w := w) (base := base) T
  refine T.f_law_lengths.ok sc_law_lengths (fun vs H Q E h => ?_) (fun _ _ _ _ _ _ us hl => match us, hl with | [_, _], _ => rfl) (fun f cdv A outer s H vs Q E hr h => ?_)
  · obtain ⟨a, g, k, m, rfl, hp, m0, m1, k1, q⟩ := h
    rfl
  · obtain ⟨a, g, k, m, rfl, hp, m0, m1, k1, q⟩ := h
    refine ⟨_, (pss_cons (ps_set (i := 2) sc_law_lengths.nd rfl (Or.inr rfl) (pe_ix ix_list (pe_lst (pa_cons pe_int (pa_cons pe_int (pa_cons pe_int (pa_cons pe_int (pa_cons (pe_op op_sub (pe_op op_powW pe_int pe_int) pe_int) pa_nil)))))) (pe_callD D_law_draw (hr.mono (by decide)) (pa_cons (pv 0) (pa_cons pe_int pa_nil))) (fun _ _ => rfl)))
    (pss_one (ps_ret (pe_lc (own := [("part", 3)]) (tt := tYes) rfl sc_law_lengths.nd (pi_range1 (by rfl) T.n_range (pa_cons (pe_callD D_law_draw (hr.mono (by decide)) (pa_cons (pv 0) (pa_cons (pe_op op_add (pv 1) pe_int) pa_nil))) pa_nil)) (blkOk_by (N := sc_law_lengths_N) (sc := defScope s_law_lengths) (by decide +kernel)) (fun _ _ _ _ _ => (pg_name (i := 3) sc_law_lengths.nd rfl (Or.inl rfl))) (fun _ _ _ _ _ => pts_nil) (fun _ _ _ _ _ => (pe_op op_add pe_int (pe_callD D_law_draw (hr.mono (by decide)) (pa_cons (pv 0) (pa_cons (pe_ix (kc_ix (K := K) (r := rIxL) ix_list rfl) (pe_lst (pa_cons (pv 2) (pa_cons (pv 2) (pa_cons pe_int pa_nil)))) (pe_callD D_law_draw (hr.mono (by decide)) (pa_cons (pv 0) (pa_cons pe_int pa_nil))) (fun _ _ => rfl)) pa_nil))))))))), ?_⟩
    refine w_start (σ' := [some (.ref a), some (.int m), none, none]) rfl ?_
    walk_at "g"
    rename_i p0 np0 r1 k2 H2 r10 r11 hk2 hp2 f2 wd hwd r3 k3 H3 r30 r31 hk3 hp3 f3
    have hw1 : 1 ≤ wd ∧ wd ≤ 10 ^ 30 - 1 := by omega
    have f03 : Fr [a, g] H H3 := by walk_at "F"
    clear f2 f3 hp2
    refine l_range (fun L i H' => ∃ (ys : List Int) (k4 : Int), Src H' a g k4 ∧ k4 ≤ k3 + 2 * i ∧ Fr [a, g] H3 H' ∧ H' L = some (.lst (ys.map V.int)) ∧ ys.length = i ∧ ∀ y ∈ ys, 1 ≤ y ∧ y ≤ 10 ^ 30 - 1) (fun L hL => ?_) (fun L i H' hL hi h => ?_) (fun L H' hL h => ?_)
    · exact ⟨[], k3, by walk_at "P", by omega, by walk_at "F", upd_same, rfl, by simp⟩
    · obtain ⟨ys, k4, hp4, hk4, f4, h4, hl4, hy4⟩ := h
      have hLa : L ≠ a := hp3.ne hL
      have hLg : L ≠ g := hp3.ne2 hL
      refine w_gname ⟨rfl, ?_⟩
      walk_at "g"
      exact ⟨_, _, by walk_at "P", by omega, by walk_at "F", upd_same, len_snoc hl4, mem_snoc hy4 (by omega)⟩
    · obtain ⟨ys, k4, hp4, hk4, f4, h4, hl4, hy4⟩ := h
      have nL : H L = none := by walk_at "Z"
      exact q L ys k4 H' (by omega) hy4 (by omega) hp4 (f03.trans f4) nL h4
set_option maxHeartbeats 4000000 in
theorem ok_law_wide (T : Txt K mg c) : DefAt P w K mg base "_law_wide" s_law_wide 2 ["source", "lengths"] (spWide K) := by
  have D_law_draw := ok_law_draw (P := P) (w := w) (base := base) T
  refine T.f_law_wide.ok sc_law_wide (fun vs H Q E h => ?_) (fun _ _ _ _ _ _ us hl => match us, hl with | [_, _], _ => rfl) (fun f cdv A outer s H vs Q E hr h => ?_)
  · obtain ⟨a, g, p, xs, k, rfl, hp, hpa, hpg, h, lxs, hxs, k1, q⟩ := h
    rfl
  · obtain ⟨a, g, p, xs, k, rfl, hp, hpa, hpg, h, lxs, hxs, k1, q⟩ := h
    refine ⟨_, (pss_cons (ps_set (i := 2) sc_law_wide.nd rfl (Or.inl rfl) (pe_ifExp (pt_cmpR (op_neD hr.units) (pv 1) (pe_lst pa_nil) (nomark _)) (pe_ix ix_list (pv 1) (pe_callD D_law_draw (hr.mono (by decide)) (pa_cons (pv 0) (pa_cons (pe_callB call_lenN (by rfl) T.n_len (by decide +kernel) (pa_cons (pv 1) pa_nil)) pa_nil))) (fun _ _ => rfl)) pe_int))
    (pss_cons (ps_set (i := 3) sc_law_wide.nd rfl (Or.inl rfl) (pe_lst (pa_cons (pe_op op_add pe_int (pe_callD D_law_draw (hr.mono (by decide)) (pa_cons (pv 0) (pa_cons pe_int pa_nil)))) (pa_cons (pe_op op_sub (pe_op op_add (pv 2) (pe_callD D_law_draw (hr.mono (by decide)) (pa_cons (pv 0) (pa_cons pe_int pa_nil)))) pe_int) (pa_cons (pe_op op_add (pe_op op_fdivW (pv 2) (pe_op op_add pe_int (pe_callD D_law_draw (hr.mono (by decide)) (pa_cons (pv 0) (pa_cons pe_int pa_nil))))) pe_int) pa_nil)))))
    (pss_one (ps_ret (pe_callB (call_max2N rfl) (by rfl) T.n_max (by decide +kernel) (pa_cons pe_int (pa_cons (pe_callB (call_min2N rfl) (by rfl) T.n_min (by decide +kernel) (pa_cons (pe_op op_sub (pe_op op_powW pe_int pe_int) pe_int) (pa_cons (pe_ix ix_list (pe_op op_cat (pv 3) (pe_lst (pa_cons (pe_op op_add pe_int (pe_callD D_law_draw (hr.mono (by decide)) (pa_cons (pv 0) (pa_cons (pe_op op_sub (pe_op op_powW pe_int pe_int) pe_int) pa_nil)))) pa_nil))) (pe_callD D_law_draw (hr.mono (by decide)) (pa_cons (pv 0) (pa_cons pe_int pa_nil))) (fun _ _ => rfl)) pa_nil))) pa_nil))))))), ?_⟩
    refine w_start (σ' := [some (.ref a), some (.ref p), none, none]) rfl ?_
    walk_at "g"
    rename_i p0 np0
    refine w_iteN (fun hne => ?_) (fun he => ?_)
    · have hpos := List.length_pos_iff.mpr hne
      walk_at "g"
      rename_i r7 k7 H7 r70 r71 hk7 hp7 f7 v hv
      refine q _ k7 _ (by (repeat' split) <;> omega) (by (repeat' split) <;> omega) (by omega) hp7 ?_
      walk_at "F"
    · walk_at "g"
      rename_i r7 k7 H7 r70 r71 hk7 hp7 f7 v hv
      refine q _ k7 _ (by (repeat' split) <;> omega) (by (repeat' split) <;> omega) (by omega) hp7 ?_
      walk_at "F"
set_option maxHeartbeats 4000000 in
theorem ok_law_sheets (T : Txt K mg c) : DefAt P w K mg base "_law_sheets" s_law_sheets 1 ["long", "wide"] spSheets := by
  refine T.f_law_sheets.ok sc_law_sheets (fun vs H Q E h => ?_) (fun _ _ _ _ _ _ us hl => match us, hl with | [_, _], _ => rfl) (fun f cdv A outer s H vs Q E hr h => ?_)
  · obtain ⟨x, n, rfl, n0, n1, x1, q⟩ := h
    rfl
  · obtain ⟨x, n, rfl, n0, n1, x1, q⟩ := h
    refine ⟨_, (pss_one (ps_ret (pe_op op_add (pe_op op_fdivW (pv 0) (pv 1)) (pe_callTy call_int1N (by rfl) T.n_int (by decide +kernel) (pa_cons (pe_cmpR op_gt (pe_op op_mod (pv 0) (pv 1)) pe_int (nomark _)) pa_nil))))), ?_⟩
    refine w_start (σ' := [some (.int x), some (.int n)]) rfl ?_
    walk_at "g"
    rw [sheets_eq n0]
    exact q
def spTotal (K : PySem.W.Frag) : Sp := fun vs H Q _ => ∃ (p : Addr) (ns : List Int) (w : Int), vs = [.ref p, .int w] ∧ H p = some (.lst (ns.map V.int)) ∧ ns.length ≤ 1000000 ∧ (∀ n ∈ ns, 1 ≤ n ∧ n < 2 ^ 200) ∧ 0 < w ∧ w < 2 ^ 390 ∧ ∀ H', Fr [] H H' → Q (.int (ct ns w)) H'
set_option maxHeartbeats 4000000 in
theorem ok_law_total (T : Txt K mg c) : DefAt P w K mg base "_law_total" s_law_total 2 ["lengths", "wide"] (spTotal K) := by
  have D_law_sheets := ok_law_sheets (P := P) (w := w) (base := base) T
  refine T.f_law_total.ok sc_law_total (fun vs H Q E h => ?_) (fun _ _ _ _ _ _ us hl => match us, hl with | [_, _], _ => rfl) (fun f cdv A outer s H vs Q E hr h => ?_)
  · obtain ⟨p, ns, w1, rfl, hp, hl, hn, w0, w2, q⟩ := h
    rfl
  · obtain ⟨p, ns, w1, rfl, hp, hl, hn, w0, w2, q⟩ := h
    refine ⟨_, (pss_cons (ps_set (i := 2) sc_law_total.nd rfl (Or.inl rfl) pe_int)
    (pss_cons (ps_for PassesOwn.never rfl (pi_list (pv 0)) (pg_name (i := 3) sc_law_total.nd rfl (Or.inl rfl)) (pss_one (ps_set (i := 2) sc_law_total.nd rfl (Or.inl rfl) (pe_op op_add (pv 2) (pe_callD D_law_sheets (hr.mono (by decide)) (pa_cons (pv 3) (pa_cons (pv 1) pa_nil)))))))
    (pss_one (ps_ret (pv 2))))), ?_⟩
    refine w_start (σ' := [some (.ref p), some (.int w1), none, none]) rfl ?_
    walk_at "g"
    refine f_list (ns.map V.int) (fun i σ' H' => ∃ (o3 : Option V), σ' = [some (.ref p), some (.int w1), some (.int (ct (ns.take i) w1)), o3] ∧ Fr [] H H') ⟨none, rfl, Fr.refl⟩ ?_ ?_ ?_
    · rintro i σ' H' hi ⟨o3, rfl, f1⟩
      exact .of (f1.at0 hp)
    · rintro i x σ' H' hx ⟨o3, rfl, f1⟩
      obtain ⟨n, hn2, rfl⟩ := map_at hx
      have hb := hn n (List.mem_of_getElem? hn2)
      walk_at "g"
      refine ⟨n, w1, rfl, w0, w2, by omega, ?_⟩
      walk_at "g"
      have e : ct (ns.take (i + 1)) w1 = ct (ns.take i) w1 + cp n w1 := by
        rw [List.take_succ, hn2, ct_append]
        show _ + ct [n] w1 = _
        rw [ct_cp]
        simp [ct]
      refine ⟨some (.int n), ?_, f1⟩
      rw [e]
      rfl
    · rintro σ' H' ⟨o3, rfl, f1⟩
      rw [List.length_map, List.take_length]
      walk_at "g"
      exact q _ f1
def spCountsN (K : PySem.W.Frag) : SpN := fun vs H G => ∃ (p : Addr) (ns : List Int) (m : Int), vs = [.ref p, .int m] ∧ ns.length ≤ 1000000 ∧ (∀ n ∈ ns, 1 ≤ n) ∧ 0 ≤ m ∧ m < 2 ^ 380 ∧ (∀ j H', G.ok j H' → H' p = some (.lst (ns.map V.int))) ∧
  (∀ (j : Nat) H1 H2, G.ok j H1 → (j : Int) < m → Fr [] H1 H2 → G.yd j (.int (ct ns ((j : Int) + 1))) H1 H2) ∧ (∀ (j : Nat) H1 H2, G.ok j H1 → m ≤ j → Fr [] H1 H2 → G.rt j H1 H2)
def spFirst (K : PySem.W.Frag) : Sp := fun vs H Q _ => ∃ (p : Addr) (ns : List Int) (m : Int) (F : Nat), vs = [.ref p, .int m, .int F] ∧ H p = some (.lst (ns.map V.int)) ∧ ns.length ≤ 1000000 ∧ (∀ n ∈ ns, 1 ≤ n) ∧ F ≤ m ∧ m < 2 ^ 380 ∧ 1 ≤ F ∧ F ≤ 100 ∧
  ∀ (q : Addr) H', Fr [] H H' → H q = none → H' q = some (.lst ((tab ns F).map V.int)) → Q (.ref q) H'
def prs (xs ys : List Int) : List (Int × Int) := xs.flatMap fun x => ys.map fun y => (x, y)
theorem prs_len (xs ys : List Int) : (prs xs ys).length = xs.length * ys.length := by
  unfold prs
  induction xs with
  | nil => simp
  | cons x xs ih =>
    rw [List.flatMap_cons, List.length_append, ih, List.length_map, List.length_cons, Nat.succ_mul, Nat.add_comm]
theorem prs_snoc (ns ys : List Int) (j : Nat) : prs (tab ns (j + 1)) ys = prs (tab ns j) ys ++ ys.map fun y => (ct ns ((j : Int) + 1), y) := by
  rw [tab_succ]
  simp [prs]
def spPairs (K : PySem.W.Frag) : Sp := fun vs H Q _ => ∃ (p : Addr) (ns : List Int) (M : Nat), vs = [.ref p, .int M] ∧ H p = some (.lst (ns.map V.int)) ∧ ns.length ≤ 1000000 ∧ (∀ n ∈ ns, 1 ≤ n) ∧ M ≤ 100 ∧
  ∀ (q : Addr) (ps : List Addr) H', Fr [] H H' → H q = none → H' q = some (.lst (ps.map V.ref)) → PairsAt H' ps (prs (tab ns M) (tab ns M)) → Q (.ref q) H'
set_option maxHeartbeats 4000000 in
theorem okN_counts (T : Txt K mg c) : NnAt P w K mg base "counts" s_counts 3 ["book", "limit"] (spCountsN K) := by
  have D_check_book := ok_check_book (P := P) (w := w) (base := base) T
  have D_InvalidNumber___init__ := ok_InvalidNumber___init__ (P := P) (w := w) (base := base) T
  have D_count_pages := ok_count_pages (P := P) (w := w) (base := base) T
  refine T.f_counts.okN sc_counts (fun _ => rfl) (fun y => nocells (by decide) y) (fun _ _ _ _ _ _ us hl => match us, hl with | [_, _], _ => rfl) (fun f cdv A outer L pn vs H hr => ?_)
  refine ⟨?_, ?hs, fun G h H₀ hok => ?_⟩
  case hs => exact (nss_cons (ns_ps (fun _ _ => (ps_expr (pe_callD D_check_book (hr.mono (by decide)) (pa_cons (pv 0) pa_nil)))))
    (nss_cons (ns_ps (fun _ _ => (ps_if (pt_cmpR op_lt (pv 1) pe_int (nomark _)) (pss_one (ps_raiseXn T.x_InvalidNumber D_InvalidNumber___init__ (hr.mono (by decide)) takes_ncx (pv 1))) pss_nil)))
    (nss_cons (ns_ps (fun _ _ => (ps_set (i := 2) sc_counts.nd rfl (Or.inl rfl) pe_int)))
    (nss_cons (ns_while (fun _ _ => (pt_cmpR op_le (pv 2) (pv 1) (nomark _))) (nss_cons (ns_yield (fun _ _ => (pe_callD D_count_pages (hr.mono (by decide)) (pa_cons (pv 0) (pa_cons (pv 2) pa_nil)))))
    (nss_cons (ns_ps (fun _ _ => (ps_aug (i := 2) sc_counts.nd rfl (Or.inl rfl) pe_int ip_add)))
    nss_nil)))
    nss_nil))))
  obtain ⟨p, ns, m, rfl, hl, h1, m0, m1, hok2, hyd, hrt⟩ := h
  refine w_nStart (σ' := [some (.ref p), some (.int m), none]) rfl ?_
  walk_at "g"
  refine ⟨p, ns, rfl, hok2 0 _ hok, hl, h1, fun H2 f2 => ?_⟩
  walk_at "g"
  refine w_iteQ (by omega) ?_
  walk_at "g"
  refine w_nWhile (fun mm j H₀ σ H => ∃ o : Int, σ = [some (.ref p), some (.int m), some (.int o)] ∧ o = 1 + (j : Int) ∧ (mm : Int) = m + 1 - o ∧ G.ok j H₀ ∧ Fr [] H₀ H) m.toNat ⟨1, rfl, by omega, by omega, hok, f2⟩ ?_
  rintro mm j H₀ σ H ⟨o, rfl, ho, hmm, ok, fr⟩
  walk_at "g"
  refine w_ite (fun hc => ?_) (fun hc => ?_)
  · walk_at "g"
    refine ⟨p, ns, o, rfl, fr.at0 (hok2 _ _ ok), hl, by omega, by omega, fun H3 f3 => ⟨?_, fun H4 ok4 => ?_⟩⟩
    · rw [ho, Int.add_comm]
      exact hyd j _ _ ok (by omega) (fr.trans f3)
    · walk_at "g"
      exact ⟨mm - 1, by omega, o + 1, rfl, by omega, by omega, ok4, Fr.refl⟩
  · walk_at "g"
    exact hrt j _ _ ok (by omega) fr
set_option maxHeartbeats 4000000 in
theorem ok_law_first (T : Txt K mg c) : DefAt P w K mg base "_law_first" s_law_first 7 ["lengths", "most", "many"] (spFirst K) := by
  have DN_counts := okN_counts (P := P) (w := w) (base := base) T
  have D_counts := ok_counts (P := P) (w := w) (base := base) T
  refine T.f_law_first.ok sc_law_first (fun vs H Q E h => ?_) (fun _ _ _ _ _ _ us hl => match us, hl with | [_, _, _], _ => rfl) (fun f cdv A outer s H vs Q E hr h => ?_)
  · obtain ⟨p, ns, m, F, rfl, hp, hl, h1, Fm, m1, F1, F2, q⟩ := h
    rfl
  · obtain ⟨p, ns, m, F, rfl, hp, hl, h1, Fm, m1, F1, F2, q⟩ := h
    refine ⟨_, (pss_cons (ps_set (i := 3) sc_law_first.nd rfl (Or.inl rfl) (pe_lst pa_nil))
    (pss_cons (ps_forNC PassesOwn.never rfl DN_counts (hr.mono (by decide)) (pa_cons (pv 0) (pa_cons (pv 1) pa_nil)) (pg_name (i := 4) sc_law_first.nd rfl (Or.inl rfl)) (pss_cons (ps_expr (pe_bm PySem.F.plainAttrs_list PySem.F.slot_list_append PySem.F.type_list_append mt_append (pv 3) (pa_cons (pv 4) pa_nil)))
    (pss_one (ps_if (pt_cmpR op_eq (pe_callB call_lenN (by rfl) T.n_len (by decide +kernel) (pa_cons (pv 3) pa_nil)) (pv 2) (nomark _)) (pss_one ps_break) pss_nil))))
    (pss_one (ps_ret (pv 3))))), ?_⟩
    refine w_start (σ' := [some (.ref p), some (.int m), some (.int F), none, none]) rfl ?_
    walk_at "g"
    rename_i fo nfo
    refine w_forNE F (fun j σ' H' => ∃ (o4 : Option V), σ' = [some (.ref p), some (.int m), some (.int F), some (.ref fo), o4] ∧ Fr [] H H' ∧ H' fo = some (.lst ((tab ns j).map V.int)) ∧ j < F) ⟨none, rfl, Fr.refl.new nfo, upd_same, by omega⟩ ?_
    refine ⟨p, ns, m, rfl, hl, h1, by omega, m1, ?_, ?_, ?_⟩
    · rintro j H' ⟨σ', o4, rfl, f, _⟩
      exact f.at0 hp
    · rintro j H3 H4 ⟨σ', o4, rfl, f, hs, j3⟩ hjm f4
      refine ⟨j3, ?_⟩
      rintro σ2 ⟨o4', rfl, _, hs', _⟩
      have hs4 := f4.at0 hs'
      have f04 := f.trans f4
      clear hs hs' f f4
      have e8 : (tab ns j ++ [ct ns ((j : Int) + 1)]).length = j + 1 := by rw [List.length_append, tab_len]; rfl
      have htl : (tab ns j).length = j := tab_len ns j
      walk_at "g"
      refine w_ite (fun h3 => ?_) (fun h3 => ?_)
      · unfold tBreak
        dsimp only
        walk_at "g"
        obtain rfl : F = j + 1 := by omega
        rw [← tab_succ]
        exact q fo _ (f04.put (.inl nfo)) nfo upd_same
      · walk_at "g"
        refine ⟨_, rfl, f04.put (.inl nfo), by rw [tab_succ]; exact upd_same, by omega⟩
    · rintro j H3 H4 ⟨σ', o4, rfl, f, hs, j3⟩ hjm f4
      omega
set_option maxHeartbeats 4000000 in
theorem ok_law_pairs (T : Txt K mg c) : DefAt P w K mg base "_law_pairs" s_law_pairs 7 ["lengths", "most"] (spPairs K) := by
  have DN_counts := okN_counts (P := P) (w := w) (base := base) T
  have D_counts := ok_counts (P := P) (w := w) (base := base) T
  refine T.f_law_pairs.ok sc_law_pairs (fun vs H Q E h => ?_) (fun _ _ _ _ _ _ us hl => match us, hl with | [_, _], _ => rfl) (fun f cdv A outer s H vs Q E hr h => ?_)
  · obtain ⟨p, ns, M, rfl, hp, hl, h1, M1, q⟩ := h
    rfl
  · obtain ⟨p, ns, M, rfl, hp, hl, h1, M1, q⟩ := h
    refine ⟨_, (pss_cons (ps_set (i := 2) sc_law_pairs.nd rfl (Or.inl rfl) (pe_lst pa_nil))
    (pss_cons (ps_forNC PassesOwn.never rfl DN_counts (hr.mono (by decide)) (pa_cons (pv 0) (pa_cons (pv 1) pa_nil)) (pg_name (i := 3) sc_law_pairs.nd rfl (Or.inr rfl)) (pss_one (ps_expr (pe_bm PySem.F.plainAttrs_list PySem.F.slot_list_extend PySem.F.type_list_extend mt_extend (pv 2) (pa_cons (pe_lcNC (own := [("other", 4)]) DN_counts (hr.mono (by decide)) (pa_cons (pv 0) (pa_cons (pv 1) pa_nil)) rfl sc_law_pairs.nd (blkOk_by (N := sc_law_pairs_N) (sc := defScope s_law_pairs) (by decide +kernel)) (by decide) (fun _ _ _ _ _ => (pg_name (i := 4) sc_law_pairs.nd rfl (Or.inl rfl))) (fun _ _ _ _ _ => (pe_tup (pa_cons (pv 3) (pa_cons (pv 4) pa_nil))))) pa_nil)))))
    (pss_one (ps_ret (pv 2))))), ?_⟩
    refine w_start (σ' := [some (.ref p), some (.int M), none, none, none]) rfl ?_
    walk_at "g"
    rename_i fo nfo
    refine w_forNE M (fun j σ' H' => ∃ (o3 : Option V) (ps : List Addr), σ' = [some (.ref p), some (.int M), some (.ref fo), o3, none] ∧ Fr [] H H' ∧ H' fo = some (.lst (ps.map V.ref)) ∧ PairsAt H' ps (prs (tab ns j) (tab ns M)) ∧ j ≤ M) ⟨none, [], rfl, Fr.refl.new nfo, upd_same, .nil, by omega⟩ ?_
    refine ⟨p, ns, M, rfl, hl, h1, by omega, by omega, ?_, ?_, ?_⟩
    · rintro j H' ⟨σ', o3, ps, rfl, f, _⟩
      exact f.at0 hp
    · rintro j H3 H4 ⟨σ', o3, ps, rfl, f, hs, hps, j3⟩ hjm f4
      refine ⟨by omega, ?_⟩
      rintro σ2 ⟨o3', ps', rfl, _, hs', hps', _⟩
      have hs4 := f4.at0 hs'
      have hps4 := hps'.fr f4
      have f04 := f.trans f4
      clear hs hs' f f4 hps hps'
      walk_at "g"
      refine w_lcNE M (fun D t H'' => ∃ qs : List Addr, Fr [] H4 H'' ∧ H'' D = some (.lst (qs.map V.ref)) ∧ PairsAt H'' qs ((tab ns t).map fun y => (ct ns ((j : Int) + 1), y)) ∧ t ≤ M) (fun D hD => ⟨⟨[], Fr.refl.new hD, upd_same, .nil, by omega⟩, fun t H'' ⟨qs, _, h, _⟩ => ⟨_, h⟩, ?_⟩)
      refine ⟨p, ns, M, rfl, hl, h1, by omega, by omega, ?_, ?_, ?_⟩
      · rintro t H' ⟨qs, f, _⟩
        exact (f04.trans f).at0 hp
      · rintro t H5 H6 ⟨qs, f, hD5, hqs, t3⟩ htm f6
        refine ⟨by omega, ⟨_, f6.at0 hD5⟩, ?_⟩
        walk_at "g"
        refine ⟨rfl, ?_⟩
        walk_at "g"
        rename_i u nu
        have hD6 := f6.at0 hD5
        have hD7 : upd H6 u (.tup [.int (ct ns ((j : Int) + 1)), .int (ct ns ((t : Int) + 1))]) D = some (.lst (qs.map V.ref)) := at_upd hD6 nu
        have hql : qs.length = t := by rw [hqs.1, List.length_map, tab_len]
        refine ⟨_, hD7, szlt (by rw [List.length_map]; omega), qs ++ [u], ((f.trans f6).new nu).put (.inl hD), by rw [List.map_append]; exact upd_same, ?_, by omega⟩
        rw [tab_succ, List.map_append]
        refine PairsAt.snoc (((hqs.fr f6).fr (Fr.refl.new nu)).put hD7) ?_
        rw [upd_ne (ne_of_none hD6 nu).symm]
        exact upd_same
      · rintro t H5 H6 ⟨qs, f, hD5, hqs, t3⟩ htm f6
        refine ⟨⟨_, f6.at0 hD5⟩, ?_⟩
        obtain rfl : M = t := by omega
        have hql : qs.length = M := by rw [hqs.1, List.length_map, tab_len]
        have hpl : ps'.length = j * M := by rw [hps4.1, prs_len, tab_len, tab_len]
        have hb : j * M ≤ 100 * 100 := Nat.mul_le_mul (by omega) (by omega)
        walk_at "g"
        refine w_extendR (f6.at0 (f.at0 hs4)) (f6.at0 hD5) (by omega) ?_
        walk_at "g"
        refine ⟨_, ps' ++ qs, rfl, (f04.trans (f.trans f6)).put (.inl nfo), upd_same, ?_, by omega⟩
        rw [prs_snoc]
        exact ((hps4.fr (f.trans f6)).app (hqs.fr f6)).put (f6.at0 (f.at0 hs4))
    · rintro j H3 H4 ⟨σ', o3, ps, rfl, f, hs, hps, j3⟩ hjm f4
      rintro σ2 ⟨o3', ps', rfl, _, hs', hps', _⟩
      walk_at "g"
      obtain rfl : M = j := by omega
      exact q fo ps' _ (f.trans f4) nfo (f4.at0 hs') (hps'.fr f4)
theorem runs_last {xs : List Int} {i0 : List (Nat × Int)} {pr : Nat × Int} (h : runs xs = i0 ++ [pr]) : 0 < xs.length ∧ xs[xs.length - 1]? = some pr.2 := by
  have e := unrun_runs xs
  rw [h] at e
  have hp := (runs_ok xs pr (by rw [h]; simp)).1
  have e2 : xs = unrun i0 ++ List.replicate pr.1 pr.2 := by
    rw [← e]
    simp [unrun]
  have hl : xs.length = (unrun i0).length + pr.1 := by
    rw [e2, List.length_append, List.length_replicate]
  refine ⟨by omega, ?_⟩
  rw [hl, e2, List.getElem?_append_right (by omega), List.getElem?_replicate, if_pos (by omega)]
theorem runs_block {xs : List Int} {y : Int} (h : ∀ i0 pr, runs xs = i0 ++ [pr] → pr.2 ≠ y) : ∀ m : Nat, runs (xs ++ List.replicate (m + 1) y) = runs xs ++ [(m + 1, y)]
  | 0 => by
    show runs (xs ++ [y]) = _
    rw [runs_snoc]
    rcases snoc_cases (runs xs) with e | ⟨i0, pr, e⟩
    · rw [e]
      rfl
    · rw [e, addRun_snoc, if_neg (h i0 pr e)]
      simp
  | m + 1 => by
    rw [List.replicate_succ', ← List.append_assoc, runs_snoc, runs_block h m, addRun_snoc, if_pos rfl]
theorem two_three {N : Nat} {L : Int} (hN : 2 ≤ N) (hL : 5 ≤ L) : num N ++ ("x" : Str) ++ num L ++ (" + 4 + " : Str) ++ num N ++ ("x" : Str) ++ num L = txt (List.replicate N L ++ [4] ++ List.replicate N L) := by
  obtain ⟨m, rfl⟩ : ∃ m, N = m + 1 := ⟨N - 1, by omega⟩
  have e1 : runs (List.replicate (m + 1) L) = [(m + 1, L)] := by
    have := runs_block (xs := []) (y := L) (fun i0 pr h => by simp [runs] at h) m
    simpa [runs] using this
  have e2 : runs (List.replicate (m + 1) L ++ [4]) = [(m + 1, L), (1, 4)] := by
    have := runs_block (xs := List.replicate (m + 1) L) (y := 4) (fun i0 pr h => by
      rw [e1] at h
      have z : [(m + 1, L)].getLast? = (i0 ++ [pr]).getLast? := by rw [h]
      simp at z
      rw [← z]
      show L ≠ 4
      omega) 0
    rw [e1] at this
    simpa using this
  have e3 : runs (List.replicate (m + 1) L ++ [4] ++ List.replicate (m + 1) L) = [(m + 1, L), (1, 4), (m + 1, L)] := by
    have := runs_block (xs := List.replicate (m + 1) L ++ [4]) (y := L) (fun i0 pr h => by
      rw [e2] at h
      have z : [(m + 1, L), (1, 4)].getLast? = (i0 ++ [pr]).getLast? := by rw [h]
      simp at z
      rw [← z]
      show (4 : Int) ≠ L
      omega) m
    rw [e2] at this
    simpa using this
  refine TL.ext_tl ?_
  unfold txt
  rw [if_neg (by simp), e3, TL.join_eq, TL.tl_join, tl_sep]
  have w1 : word (m + 1, L) = num ((m + 1 : Nat) : Int) ++ ("x" : Str) ++ num L := if_neg (show m + 1 ≠ 1 by omega)
  have w2 : word (1, 4) = num 4 := if_pos rfl
  simp only [List.map_cons, List.map_nil, w1, w2, TL.tl_append]
  have s1 : TL.tl (" + 4 + " : Str) = [32, 43, 32, 52, 32, 43, 32] := by decide +kernel
  have s2 : TL.tl (num 4) = [52] := by decide +kernel
  rw [s1, s2]
  simp [TL.joinL]
theorem ct_rep (n : Nat) (L w : Int) : ct (List.replicate n L) w = n * cp L w := by
  induction n with
  | zero => simp [ct]
  | succ n ih =>
    rw [List.replicate_succ, ct_cp, ih]
    push_cast
    rw [Int.add_mul]
    omega
def three (N : Nat) (L : Int) : List Int := List.replicate N L ++ [4] ++ List.replicate N L
theorem three_len (N : Nat) (L : Int) : (three N L).length = 2 * N + 1 := by
  simp [three]
  omega
theorem three_all {N : Nat} {L w : Int} : ct (three N L) w = 2 * N * cp L w + cp 4 w := by
  unfold three
  rw [ct_append, ct_append, ct_rep, ct_cp]
  have e : ct [] w = 0 := rfl
  rw [e, Int.mul_assoc]
  omega
structure Bk2 (H : Hp) (p : Addr) (ns : List Int) : Prop where
  h : H p = some (.lst (ns.map V.int))
  l : ns.length ≤ 1000
  x : ∀ n ∈ ns, 1 ≤ n ∧ n ≤ 10 ^ 30 - 1
theorem Bk2.fr {H H' : Hp} {p : Addr} {ns : List Int} (k : Bk2 H p ns) (f : Fr [] H H') : Bk2 H' p ns := ⟨f.at0 k.h, k.l, k.x⟩
theorem Bk2.fr2 {H H' : Hp} {a g p : Addr} {ns : List Int} (k : Bk2 H p ns) (f : Fr [a, g] H H') (pa : p ≠ a) (pg : p ≠ g) : Bk2 H' p ns := ⟨f.at (nn3 pa pg) k.h, k.l, k.x⟩
theorem w_rep2V {H : Hp} {Q : VK} {a : Addr} {v : V} (h : H a = some (.lst [v])) (q : ∀ r, H r = none → Q (.ref r) (upd H r (.lst [v, v]))) : rRep (.ref a) (.int 2) H Q :=
  ⟨a, 2, _, rfl, rfl, h, by decide, by decide, szle rfl, fun r hr => q r hr⟩
theorem tab3 (ns : List Int) (M : Nat) : cutI (tab ns M) none (some 3) = tab ns (min 3 M) := by
  have := cutI_take (tab ns M) 3
  rw [show ((3 : Nat) : Int) = 3 from rfl] at this
  rw [this]
  simp [tab, List.take_range, ← List.map_take]
theorem sm_ints {H : Hp} {n : Nat} {p q : Addr} {xs : List Int} (h1 : H p = some (.lst (xs.map V.int))) (h2 : H q = some (.lst (xs.map V.int))) (hz : xs.length ≤ 10000) : Sm H (n + 1) (.ref p) (.ref q) :=
  .lst h1 h2 rfl (by rw [List.length_map]; exact hz) fun i x y e1 e2 => by
    rw [e1] at e2
    cases e2
    obtain ⟨m, _, rfl⟩ := map_at e1
    exact .atom rfl
theorem w_stJ {t : TS} {D : Ends} {σ : L2.St} {H : Hp} (I : L2.St → Hp → Prop) (h : ∀ N : L2.St → Hp → Prop, (∀ σ H, I σ H → N σ H) → t { D with nx := N } σ H) (k : ∀ σ H, I σ H → D.nx σ H) : t D σ H := h D.nx k
theorem stopIf {c : TT} {a b d : TS} {D : Ends} {σ : L2.St} {H : Hp} (h : tSeq (tIfS c a b) d D σ H) : tSeq (tIfS c a b) d D σ H := h
structure Bk3 (H : Hp) (b g p : Addr) (ns : List Int) : Prop where
  pb : p ≠ b
  pg : p ≠ g
  h : H p = some (.lst (ns.map V.int))
  l : ns.length ≤ 39
  x : ∀ n ∈ ns, 1 ≤ n ∧ n ≤ 10 ^ 30 - 1
theorem Bk3.fr {H H' : Hp} {b g p : Addr} {ns : List Int} (k : Bk3 H b g p ns) (f : Fr [] H H') : Bk3 H' b g p ns := ⟨k.pb, k.pg, f.at0 k.h, k.l, k.x⟩
theorem Bk3.fr2 {H H' : Hp} {b g p : Addr} {ns : List Int} (k : Bk3 H b g p ns) (f : Fr [b, g] H H') : Bk3 H' b g p ns := ⟨k.pb, k.pg, f.at (nn3 k.pb k.pg) k.h, k.l, k.x⟩
def spWalks (K : PySem.W.Frag) : Sp := fun vs H Q _ => ∃ (a g p : Addr) (ns : List Int) (k : Int), vs = [.ref a, .ref p] ∧ Src H a g k ∧ p ≠ a ∧ p ≠ g ∧ Bk2 H p ns ∧ k < 2 ^ 38 ∧
  ∀ (k' : Int) (H' : Hp), k' ≤ k + 10 → Src H' a g k' → Fr [a, g] H H' → Q (.bl true) H'
set_option maxHeartbeats 4000000 in
theorem ok_law_walks_right (T : Txt K mg c) : DefAt P w K mg base "_law_walks_right" s_law_walks_right 8 ["source", "lengths"] (spWalks K) := by
  have D_law_draw := ok_law_draw (P := P) (w := w) (base := base) T
  have D_law_total := ok_law_total (P := P) (w := w) (base := base) T
  have DN_counts := okN_counts (P := P) (w := w) (base := base) T
  have D_counts := ok_counts (P := P) (w := w) (base := base) T
  have D_law_same := ok_law_same (P := P) (w := w) (base := base) T 3
  have D_law_first := ok_law_first (P := P) (w := w) (base := base) T
  have D_law_pairs := ok_law_pairs (P := P) (w := w) (base := base) T
  refine T.f_law_walks_right.ok sc_law_walks_right (fun vs H Q E h => ?_) (fun _ _ _ _ _ _ us hl => match us, hl with | [_, _], _ => rfl) (fun f cdv A outer s H vs Q E hr h => ?_)
  · obtain ⟨a, g, p, ns, k, rfl, hP, p_a, p_g, hB, hk, q⟩ := h
    rfl
  · obtain ⟨a, g, p, ns, k, rfl, hP, p_a, p_g, hB, hk, q⟩ := h
    refine ⟨_, (pss_cons (ps_set (i := 2) sc_law_walks_right.nd rfl (Or.inl rfl) (pe_callD D_law_draw (hr.mono (by decide)) (pa_cons (pv 0) (pa_cons (pe_ix ix_list (pe_lst (pa_cons pe_int (pa_cons pe_int (pa_cons pe_int (pa_cons pe_int pa_nil))))) (pe_callD D_law_draw (hr.mono (by decide)) (pa_cons (pv 0) (pa_cons pe_int pa_nil))) (fun _ _ => rfl)) pa_nil))))
    (pss_cons (ps_setLc (i := 3) (own := [("wide", 7)]) (tt := tYes) rfl sc_law_walks_right.nd rfl rfl (sw_true rfl rfl rfl (by decide +kernel)) (pi_range2 (by rfl) T.n_range (pa_cons pe_int (pa_cons (pe_op op_add (pv 2) pe_int) pa_nil))) (blkOk_by (N := sc_law_walks_right_N) (sc := defScope s_law_walks_right) (by decide +kernel)) (fun _ _ _ _ _ => (pg_name (i := 7) sc_law_walks_right.nd rfl (Or.inl rfl))) (fun _ _ _ _ _ => pts_nil) (fun _ _ _ _ _ => (pe_callD D_law_total (hr.mono (by decide)) (pa_cons (pv 1) (pa_cons (pv 7) pa_nil)))))
    (pss_cons (ps_if (pt_not (pt_val (pe_callD D_law_same (hr.mono (by decide)) (pa_cons (pe_lst (pa_cons (pe_listGD D_counts (hr.mono (by decide)) (by rfl) T.n_list (pa_cons (pv 1) (pa_cons (pv 2) pa_nil))) (pa_cons (pe_listGDK D_counts (hr.mono (by decide)) (by rfl) T.n_list (pk_cons (pv 2) (pk_cons (pv 1) pk_nil)) kb_counts_limit_book) pa_nil))) (pa_cons (pe_op op_rep (pe_lst (pa_cons (pv 3) pa_nil)) pe_int) pa_nil))))) (pss_one (ps_ret pe_bl)) pss_nil)
    (pss_cons (ps_set (i := 4) sc_law_walks_right.nd rfl (Or.inl rfl) (pe_op op_add pe_int (pe_callD D_law_draw (hr.mono (by decide)) (pa_cons (pv 0) (pa_cons pe_int pa_nil)))))
    (pss_cons (ps_if (pt_not (pt_val (pe_callD D_law_same (hr.mono (by decide)) (pa_cons (pe_callD D_law_first (hr.mono (by decide)) (pa_cons (pv 1) (pa_cons (pe_op op_sub (pe_op op_powW pe_int pe_int) pe_int) (pa_cons (pv 4) pa_nil)))) (pa_cons (pe_lc (own := [("spot", 8)]) (tt := tYes) rfl sc_law_walks_right.nd (pi_range1 (by rfl) T.n_range (pa_cons (pv 4) pa_nil)) (blkOk_by (N := sc_law_walks_right_N) (sc := defScope s_law_walks_right) (by decide +kernel)) (fun _ _ _ _ _ => (pg_name (i := 8) sc_law_walks_right.nd rfl (Or.inl rfl))) (fun _ _ _ _ _ => pts_nil) (fun _ _ _ _ _ => (pe_callD D_law_total (hr.mono (by decide)) (pa_cons (pv 1) (pa_cons (pe_op op_add pe_int (pv 8)) pa_nil))))) pa_nil))))) (pss_one (ps_ret pe_bl)) pss_nil)
    (pss_cons (ps_set (i := 5) sc_law_walks_right.nd rfl (Or.inl rfl) (pe_lst pa_nil))
    (pss_cons (ps_for PassesOwn.never rfl (pi_list (pe_slice sl_list (pv 3) po_none (po_some pe_int))) (pg_name (i := 6) sc_law_walks_right.nd rfl (Or.inr rfl)) (pss_one (ps_expr (pe_bm PySem.F.plainAttrs_list PySem.F.slot_list_extend PySem.F.type_list_extend mt_extend (pv 5) (pa_cons (pe_lc (own := [("other", 9)]) (tt := tYes) rfl sc_law_walks_right.nd (pi_list (pe_slice sl_list (pv 3) po_none (po_some pe_int))) (blkOk_by (N := sc_law_walks_right_N) (sc := defScope s_law_walks_right) (by decide +kernel)) (fun _ _ _ _ _ => (pg_name (i := 9) sc_law_walks_right.nd rfl (Or.inl rfl))) (fun _ _ _ _ _ => pts_nil) (fun _ _ _ _ _ => (pe_tup (pa_cons (pv 6) (pa_cons (pv 9) pa_nil))))) pa_nil)))))
    (pss_one (ps_ret (pe_cmpR (op_eqD hr.units) (pe_callD D_law_pairs (hr.mono (by decide)) (pa_cons (pv 1) (pa_cons (pe_callB (call_min2N rfl) (by rfl) T.n_min (by decide +kernel) (pa_cons pe_int (pa_cons (pv 2) pa_nil))) pa_nil))) (pv 5) (nomark _))))))))))), ?_⟩
    refine w_start (σ' := [some (.ref a), some (.ref p), none, none, none, none, none, none, none, none]) rfl ?_
    walk_at "g"
    rename_i p1 np1 r1 k1 H1 r10 r11 hk1 hP1 f1 n2 hn2 r2 k2 H2 r20 r21 hk2 hP2 f2
    obtain ⟨M, rfl⟩ : ∃ M : Nat, r2 = (M : Int) := ⟨r2.toNat, by omega⟩
    have M9 : M ≤ 900 := by omega
    have hB2 : Bk2 H2 p ns := ((hB.fr (Fr.refl.new (o := .lst [.int 4, .int 60, .int 60, .int 900]) np1)).fr2 f1 p_a p_g).fr2 f2 p_a p_g
    have f02 : Fr [a, g] H H2 := by walk_at "F"
    have h1 : ∀ n ∈ ns, 1 ≤ n := fun n h => (hB.x n h).1
    clear f1 f2 hP hP1 np1 hB hn2 r21
    refine l_range (fun L i H' => Fr [] H2 H' ∧ H' L = some (.lst ((tab ns i).map V.int))) (fun L hL => ⟨Fr.refl.new hL, upd_same⟩) (fun L i H' hL hi h => ?_) (fun L H' hL h => ?_)
    · obtain ⟨f3, h3⟩ := h
      have hB3 := hB2.fr f3
      have hl3 := hB3.l
      have ti := tab_len ns i
      have hi9 : i < 1000 := by omega
      refine w_gname ⟨rfl, ?_⟩
      walk_at "g"
      refine ⟨p, ns, _, rfl, hB3.h, by omega, fun n h => by have := hB3.x n h; omega, by omega, by omega, fun H4 f4 => ?_⟩
      have h4 := f4.at0 h3
      walk_at "g"
      refine ⟨(f3.trans f4).put (.inl hL), ?_⟩
      rw [tab_succ, Int.add_comm]
      exact upd_same
    · obtain ⟨f3, h3⟩ := h
      have hB3 := hB2.fr f3
      have hP3 : Src H' a g k2 := hP2.fr f3 List.not_mem_nil List.not_mem_nil
      have hl3 := hB3.l
      have f03 : Fr [a, g] H H' := f02.then f3
      have L_a : L ≠ a := Src.ne hP2 hL
      have L_g : L ≠ g := Src.ne2 hP2 hL
      have eM : ((M : Int) + 1 - 1).toNat = M := by omega
      rw [eM] at h3
      clear f3 hP2 hB2 f02 hL
      walk_at "g"
      refine ⟨p, ns, M, rfl, hB3.h, by omega, h1, by omega, fun H4 f4 => ?_⟩
      have hB4 := hB3.fr f4
      have hP4 := hP3.fr f4 List.not_mem_nil List.not_mem_nil
      have h4 := f4.at0 h3
      have f04 : Fr [a, g] H H4 := f03.then f4
      clear f4 hP3 hB3 h3 f03
      walk_at "g"
      rename_i q1 nq1
      refine ⟨p, ns, M, rfl, at_upd hB4.h nq1, by omega, h1, by omega, fun H5 f5 => ?_⟩
      have hq5 : H5 q1 = some (.lst ((tab ns M).map V.int)) := f5.at0 upd_same
      have hB5 := (hB4.fr (Fr.refl.new nq1)).fr f5
      have hP5 := (hP4.new nq1).fr f5 List.not_mem_nil List.not_mem_nil
      have h5 := f5.at0 (at_upd h4 nq1)
      have f05 : Fr [a, g] H H5 := (f04.new nq1).then f5
      clear f5 hP4 hB4 h4 f04 nq1
      walk_at "g"
      rename_i q2 nq2 q3 nq3 q4 nq4
      refine w_rep2V upd_same (fun q5 nq5 => ?_)
      walk_at "g"
      have tM := tab_len ns M
      refine ⟨.ref q3, .ref q5, rfl, .lst (at_upd (at_upd upd_same nq4) nq5) upd_same rfl (by simp) (fun i x y e1 e2 => ?_), fun H6 f6 => ?_⟩
      · have z1 : ∀ {u : Addr} {o : HO}, H5 u = some o → upd (upd (upd (upd H5 q2 (.lst ((tab ns M).map V.int))) q3 (.lst [.ref q1, .ref q2])) q4 (.lst [.ref L])) q5 (.lst [.ref L, .ref L]) u = some o := fun h => at_upd (at_upd (at_upd (at_upd h nq2) nq3) nq4) nq5
        match i, e1, e2 with
        | 0, e1, e2 => cases e1; cases e2; exact sm_ints (z1 hq5) (z1 h5) (by omega)
        | 1, e1, e2 => cases e1; cases e2; exact sm_ints (at_upd (at_upd (at_upd upd_same nq3) nq4) nq5) (z1 h5) (by omega)
      have ff : Fr [] H5 H6 := (((((Fr.refl.new nq2).new nq3).new nq4).new nq5)).trans f6
      have hB6 := hB5.fr ff
      have hP6 := hP5.fr ff List.not_mem_nil List.not_mem_nil
      have h6 := ff.at0 h5
      have f06 : Fr [a, g] H H6 := f05.then ff
      clear f6 ff hP5 hB5 h5 hq5 f05 nq2 nq3 nq4 nq5
      walk_at "g"
      rename_i r7 k7 H7 r70 r71 hk7 hP7 f7
      obtain ⟨F, hF, F1, F9⟩ : ∃ F : Nat, 1 + r7 = (F : Int) ∧ 1 ≤ F ∧ F ≤ 9 := ⟨(1 + r7).toNat, by omega, by omega, by omega⟩
      rw [hF]
      have hB7 := hB6.fr2 f7 p_a p_g
      have h7 := f7.at (nn3 L_a L_g) h6
      have f07 : Fr [a, g] H H7 := f06.trans f7
      clear f7 hP6 hB6 h6 f06 hF r70 r71
      refine ⟨p, ns, _, F, rfl, hB7.h, by omega, h1, by omega, by decide, F1, by omega, fun u1 H8 f8 nu1 hu1 => ?_⟩
      have hB8 := hB7.fr f8
      have hP8 := hP7.fr f8 List.not_mem_nil List.not_mem_nil
      have h8 := f8.at0 h7
      have f08 : Fr [a, g] H H8 := f07.then f8
      clear f8 hP7 hB7 h7 f07 nu1
      walk_at "g"
      refine l_range (fun L i H' => Fr [] H8 H' ∧ H' L = some (.lst ((tab ns i).map V.int))) (fun L hL => ⟨Fr.refl.new hL, upd_same⟩) (fun L i H' hL hi h => ?_) (fun L2 H' hL2 h => ?_)
      · obtain ⟨f3, h3⟩ := h
        have hB3 := hB8.fr f3
        have hl3 := hB3.l
        have ti := tab_len ns i
        have hi9 : i < 1000 := by omega
        refine w_gname ⟨rfl, ?_⟩
        walk_at "g"
        refine ⟨p, ns, _, rfl, hB3.h, by omega, fun n h => by have := hB3.x n h; omega, by omega, by omega, fun H4 f4 => ?_⟩
        have h4 := f4.at0 h3
        walk_at "g"
        refine ⟨(f3.trans f4).put (.inl hL), ?_⟩
        rw [tab_succ, show (1 : Int) + (0 + (i : Int)) = (i : Int) + 1 by omega]
        exact upd_same
      obtain ⟨f9, h9⟩ := h
      have hu9 := f9.at0 hu1
      have hB9 := hB8.fr f9
      have hP9 := hP8.fr f9 List.not_mem_nil List.not_mem_nil
      have hL9 := f9.at0 h8
      have f09 : Fr [a, g] H H' := f08.then f9
      rw [show (F : Int).toNat = F by omega] at h9
      clear f9 hP8 hB8 h8 f08 hL2 hu1
      walk_at "g"
      have tF := tab_len ns F
      refine ⟨.ref u1, .ref L2, rfl, sm_ints hu9 h9 (by omega), fun H10 f10 => ?_⟩
      have hB10 := hB9.fr f10
      have hP10 := hP9.fr f10 List.not_mem_nil List.not_mem_nil
      have hL10 := f10.at0 hL9
      have f010 : Fr [a, g] H H10 := f09.then f10
      clear f10 hP9 hB9 hL9 f09 hu9 h9
      walk_at "g"
      rename_i bo nbo sl nsl
      rw [tab3]
      obtain ⟨N, hN, N3⟩ : ∃ N : Nat, min 3 M = N ∧ N ≤ 3 := ⟨_, rfl, Nat.min_le_left _ _⟩
      rw [hN]
      have tN := tab_len ns N
      have sb : sl ≠ bo := fun e => by
        rw [e, upd_same] at nsl
        cases nsl
      have nsl2 : H10 sl = none := (Fr.refl.new nbo).free (S := []) List.not_mem_nil nsl
      have hs11 : upd (upd H10 bo (.lst [])) sl (.lst ((tab ns N).map V.int)) sl = some (.lst ((tab ns N).map V.int)) := upd_same
      have hb11 : upd (upd H10 bo (.lst [])) sl (.lst ((tab ns N).map V.int)) bo = some (.lst []) := at_upd upd_same nsl
      have ff11 : Fr [] H10 (upd (upd H10 bo (.lst [])) sl (.lst ((tab ns N).map V.int))) := (Fr.refl.new nbo).new nsl
      refine f_list ((tab ns N).map V.int) (fun i σ' H' => ∃ (o6 : Option V) (ps : List Addr), σ' = [some (.ref a), some (.ref p), some (.int M), some (.ref L), some (.int F), some (.ref bo), o6, none, none, none] ∧ Fr [] H10 H' ∧ H' sl = some (.lst ((tab ns N).map V.int)) ∧ H' bo = some (.lst (ps.map V.ref)) ∧ PairsAt H' ps (prs (tab ns i) (tab ns N))) ⟨none, [], rfl, ff11, hs11, hb11, .nil⟩ ?_ ?_ ?_
      · rintro i σ' H11 _ ⟨o6, ps, rfl, f11, h11, _⟩
        exact .of h11
      · rintro i x σ' H11 hx ⟨o6, ps, rfl, f11, hs11, hb11, hps11⟩
        obtain ⟨y, hy, rfl⟩ := map_at hx
        have hi : i < N := by have := (List.getElem?_eq_some_iff.mp hy).1; omega
        rw [tab_at hi] at hy
        obtain rfl := Option.some.inj hy
        have hL11 := f11.at0 hL10
        walk_at "g"
        rename_i s2 ns2
        rw [tab3, hN]
        have hs12 : upd H11 s2 (.lst ((tab ns N).map V.int)) s2 = some (.lst ((tab ns N).map V.int)) := upd_same
        have ff12 : Fr [] H11 (upd H11 s2 (.lst ((tab ns N).map V.int))) := Fr.refl.new ns2
        generalize upd H11 s2 (.lst ((tab ns N).map V.int)) = H12 at *
        clear ns2
        refine l_list ((tab ns N).map V.int) (fun D t H' => ∃ qs : List Addr, Fr [] H12 H' ∧ H' D = some (.lst (qs.map V.ref)) ∧ PairsAt H' qs ((tab ns t).map fun y => (ct ns ((i : Int) + 1), y))) (fun D hD => ⟨[], Fr.refl.new hD, upd_same, .nil⟩) (fun D t H' _ _ h => ?_) (fun D t x H' hD hx h => ?_) (fun D H' hD h => ?_)
        · obtain ⟨qs, f, _⟩ := h
          exact .of (f.at0 hs12)
        · obtain ⟨qs, f, hD5, hqs⟩ := h
          obtain ⟨y, hy, rfl⟩ := map_at hx
          have ht : t < N := by have := (List.getElem?_eq_some_iff.mp hy).1; omega
          rw [tab_at ht] at hy
          obtain rfl := Option.some.inj hy
          refine w_gname ⟨rfl, ?_⟩
          walk_at "g"
          rename_i u nu
          have hD7 : upd H' u (.tup [.int (ct ns ((i : Int) + 1)), .int (ct ns ((t : Int) + 1))]) D = some (.lst (qs.map V.ref)) := at_upd hD5 nu
          have hql : qs.length = t := by rw [hqs.1, List.length_map, tab_len]
          refine w_appER hD7 (by omega) ⟨qs ++ [u], (f.new nu).put (.inl hD), upd_same, ?_⟩
          have e : (tab ns (t + 1)).map (fun y => (ct ns ((i : Int) + 1), y)) = (tab ns t).map (fun y => (ct ns ((i : Int) + 1), y)) ++ [(ct ns ((i : Int) + 1), ct ns ((t : Int) + 1))] := by
            rw [tab_succ, List.map_append]
            rfl
          rw [e]
          refine PairsAt.snoc ((hqs.fr (Fr.refl.new nu)).put hD7) ?_
          rw [upd_ne (ne_of_none hD5 nu).symm]
          exact upd_same
        · obtain ⟨qs, f, hD5, hqs⟩ := h
          rw [List.length_map, tN] at hqs
          have hql : qs.length = N := by rw [hqs.1, List.length_map, tab_len]
          have hpl : ps.length = i * N := by rw [hps11.1, prs_len, tab_len, tab_len]
          have hb : i * N ≤ 3 * 3 := Nat.mul_le_mul (by omega) (by omega)
          have hbo := f.at0 (ff12.at0 hb11)
          have hfr : Fr [] H11 H' := ff12.trans f
          walk_at "g"
          refine w_extendR hbo hD5 (by omega) ?_
          walk_at "g"
          refine ⟨_, ps ++ qs, rfl, (f11.trans hfr).put (.inl nbo), ?_, upd_same, ?_⟩
          · rw [upd_ne sb]
            exact hfr.at0 hs11
          · rw [prs_snoc]
            exact ((hps11.fr hfr).app hqs).put hbo
      · rintro σ' H11 ⟨o6, ps, rfl, f11, hs11, hb11, hps11⟩
        rw [List.length_map, tN] at hps11
        have hB11 := hB10.fr f11
        have hP11 := hP10.fr f11 List.not_mem_nil List.not_mem_nil
        have f011 : Fr [a, g] H H11 := f010.then f11
        walk_at "g"
        rw [show (if (M : Int) < 3 then (M : Int) else 3) = (N : Int) by rw [← hN]; split <;> omega]
        refine ⟨p, ns, N, rfl, hB11.h, by omega, h1, by omega, fun r12 rs H12 f12 nr12 hr12 hrs => ?_⟩
        walk_at "g"
        refine w_eqPairs hr12 (f12.at0 hb11) hrs (hps11.fr f12) ?_
        rw [decide_eq_true rfl]
        exact q k7 _ (by omega) (hP11.fr f12 List.not_mem_nil List.not_mem_nil) (f011.then f12)
set_option maxHeartbeats 4000000 in
theorem ok_law (T : Txt K mg c) : GefAt P w K mg base "law" s_law 9 ["script"] (spLaw K) := by
  have D_law_source := ok_law_source (P := P) (w := w) (base := base) T
  have D_law_draw := ok_law_draw (P := P) (w := w) (base := base) T
  have D_law_lengths := ok_law_lengths (P := P) (w := w) (base := base) T
  have D_law_wide := ok_law_wide (P := P) (w := w) (base := base) T
  have D_pages := ok_pages (P := P) (w := w) (base := base) T
  have D_law_total := ok_law_total (P := P) (w := w) (base := base) T
  have D_law_same := ok_law_same (P := P) (w := w) (base := base) T 3
  have D_law_walks_right := ok_law_walks_right (P := P) (w := w) (base := base) T
  have D_read_book := ok_read_book (P := P) (w := w) (base := base) T
  have D_law_sheets := ok_law_sheets (P := P) (w := w) (base := base) T
  have DN_counts := okN_counts (P := P) (w := w) (base := base) T
  have D_counts := ok_counts (P := P) (w := w) (base := base) T
  refine T.f_law.okG sc_law (fun vs H Q E h => ?_) (fun _ _ _ _ _ _ us hl => match us, hl with | [_], _ => rfl) (fun f cdv A outer s H vs Q E hr gds h => ?_)
  · obtain ⟨a, ns, rfl, hS, hl, hbits, q⟩ := h
    rfl
  · obtain ⟨a, ns, rfl, hS, hl, hbits, q⟩ := h
    refine ⟨_, (pss_cons (ps_set (i := 1) sc_law.nd rfl (Or.inr rfl) (pe_callD D_law_source (hr.mono (by decide)) (pa_cons (pv 0) pa_nil)))
    (pss_cons (ps_for PassesOwn.never rfl (pi_range1 (by rfl) T.n_range (pa_cons (pe_op op_add pe_int (pe_callB (call_min2N rfl) (by rfl) T.n_min (by decide +kernel) (pa_cons pe_int (pa_cons (pe_callB call_lenN (by rfl) T.n_len (by decide +kernel) (pa_cons (pv 0) pa_nil)) pa_nil)))) pa_nil)) (pg_name (i := 2) sc_law.nd rfl (Or.inl rfl)) (pss_cons (ps_set (i := 3) sc_law.nd rfl (Or.inr rfl) (pe_callD D_law_lengths (hr.mono (by decide)) (pa_cons (pv 1) (pa_cons (pe_ix ix_list (pe_lst (pa_cons pe_int (pa_cons pe_int pa_nil))) (pe_callD D_law_draw (hr.mono (by decide)) (pa_cons (pv 1) (pa_cons pe_int pa_nil))) (fun _ _ => rfl)) pa_nil))))
    (pss_cons (ps_for PassesOwn.never rfl (pi_range1 (by rfl) T.n_range (pa_cons pe_int pa_nil)) (pg_name (i := 4) sc_law.nd rfl (Or.inl rfl)) (pss_cons (ps_set (i := 5) sc_law.nd rfl (Or.inl rfl) (pe_callB (call_reprD gds (gu_of hr)) (by rfl) T.n_repr (by decide +kernel) (pa_cons (pv 3) pa_nil)))
    (pss_cons (ps_for PassesOwn.never rfl (pi_list (pe_op op_cat (pe_lc (own := [("time", 12)]) (tt := tYes) rfl sc_law.nd (pi_range1 (by rfl) T.n_range (pa_cons pe_int pa_nil)) (blkOk_by (N := sc_law_N) (sc := defScope s_law) (by decide +kernel)) (fun _ _ _ _ _ => (pg_name (i := 12) sc_law.nd rfl (Or.inl rfl))) (fun _ _ _ _ _ => pts_nil) (fun _ _ _ _ _ => (pe_callD D_law_wide (hr.mono (by decide)) (pa_cons (pv 1) (pa_cons (pv 3) pa_nil))))) (pe_lst (pa_cons pe_int (pa_cons (pe_op op_sub (pe_op op_powW pe_int pe_int) pe_int) pa_nil))))) (pg_name (i := 6) sc_law.nd rfl (Or.inl rfl)) (pss_cons (ps_set (i := 7) sc_law.nd rfl (Or.inl rfl) (pe_lst (pa_cons (pe_callD D_pages (hr.mono (by decide)) (pa_cons (pv 3) (pa_cons (pv 6) pa_nil))) (pa_cons (pe_callKD D_pages (hr.mono (by decide)) (pk_cons (pv 6) (pk_cons (pv 3) pk_nil)) kb_pages_size_book) pa_nil))))
    (pss_one (ps_if (pt_not (pt_val (pe_callD D_law_same (hr.mono (by decide)) (pa_cons (pv 7) (pa_cons (pe_op op_rep (pe_lst (pa_cons (pe_callD D_law_total (hr.mono (by decide)) (pa_cons (pv 3) (pa_cons (pv 6) pa_nil))) pa_nil)) pe_int) pa_nil))))) (pss_one (ps_ret pe_bl)) pss_nil))))
    (pss_cons (ps_if (PW.pt (pw_or (pt_not (pt_val (pe_callD D_law_walks_right (hr.mono (by decide)) (pa_cons (pv 1) (pa_cons (pv 3) pa_nil))))) (pw_or1 (pt_cmpR op_ne (pe_callB (call_reprD gds (gu_of hr)) (by rfl) T.n_repr (by decide +kernel) (pa_cons (pv 3) pa_nil)) (pv 5) (nomark _))))) (pss_one (ps_ret pe_bl)) pss_nil)
    (pss_cons (ps_if (pt_cmpR (op_neD hr.units) (pv 3) (pe_lst pa_nil) (nomark _)) (pss_cons (ps_set (i := 8) sc_law.nd rfl (Or.inl rfl) (pe_callD D_law_draw (hr.mono (by decide)) (pa_cons (pv 1) (pa_cons (pe_callB call_lenN (by rfl) T.n_len (by decide +kernel) (pa_cons (pv 3) pa_nil)) pa_nil))))
    (pss_one (ps_asg (pe_callB (call_max2N rfl) (by rfl) T.n_max (by decide +kernel) (pa_cons pe_int (pa_cons (pe_op op_add (pe_ix ix_list (pv 3) (pv 8) (fun _ _ => rfl)) (pe_ix ix_list (pe_lst (pa_cons (pe_un un_neg pe_int) (pa_cons (pe_op op_sub pe_int (pe_op op_fdivW (pe_ix ix_list (pv 3) (pv 8) (fun _ _ => rfl)) pe_int)) pa_nil))) (pe_callD D_law_draw (hr.mono (by decide)) (pa_cons (pv 1) (pa_cons pe_int pa_nil))) (fun _ _ => rfl))) pa_nil))) (pg_sub (pv 3) (pv 8) set_list)))) pss_nil)
    (pss_cons (ps_expr (pe_bm PySem.F.plainAttrs_list PySem.F.slot_list_insert PySem.F.type_list_insert mt_insertN (pv 3) (pa_cons (pe_callD D_law_draw (hr.mono (by decide)) (pa_cons (pv 1) (pa_cons (pe_op op_add (pe_callB call_lenN (by rfl) T.n_len (by decide +kernel) (pa_cons (pv 3) pa_nil)) pe_int) pa_nil))) (pa_cons (pe_op op_add pe_int (pe_callD D_law_draw (hr.mono (by decide)) (pa_cons (pv 1) (pa_cons pe_int pa_nil)))) pa_nil))))
    (pss_one (ps_set (i := 3) sc_law.nd rfl (Or.inr rfl) (pe_slice sl_list (pv 3) po_none (po_some pe_int))))))))))
    (pss_cons (ps_par (i := 9) (j := 10) rfl sc_law.nd rfl rfl (by decide) rfl rfl (pa_cons (pe_op op_add pe_int (pe_callD D_law_draw (hr.mono (by decide)) (pa_cons (pv 1) (pa_cons pe_int pa_nil)))) (pa_cons (pe_op op_add pe_int (pe_callD D_law_draw (hr.mono (by decide)) (pa_cons (pv 1) (pa_cons (pe_op op_sub (pe_op op_powW pe_int pe_int) pe_int) pa_nil)))) pa_nil)) (by rfl))
    (pss_cons (ps_set (i := 11) sc_law.nd rfl (Or.inl rfl) (pe_callD D_read_book (hr.mono (by decide)) (pa_cons (pe_op op_addS (pe_op op_addS (pe_op op_addS (pe_op op_addS (pe_op op_addS (pe_op op_addS (pe_callTy call_strN (by rfl) T.n_str (by decide +kernel) (pa_cons (pv 9) pa_nil)) pe_str) (pe_callTy call_strN (by rfl) T.n_str (by decide +kernel) (pa_cons (pv 10) pa_nil))) pe_str) (pe_callTy call_strN (by rfl) T.n_str (by decide +kernel) (pa_cons (pv 9) pa_nil))) pe_str) (pe_callTy call_strN (by rfl) T.n_str (by decide +kernel) (pa_cons (pv 10) pa_nil))) pa_nil)))
    (pss_cons (ps_set (i := 6) sc_law.nd rfl (Or.inl rfl) (pe_callD D_law_wide (hr.mono (by decide)) (pa_cons (pv 1) (pa_cons (pe_lst (pa_cons (pv 10) pa_nil)) pa_nil))))
    (pss_one (ps_if (pt_cmpR op_ne (pe_callD D_pages (hr.mono (by decide)) (pa_cons (pv 11) (pa_cons (pv 6) pa_nil))) (pe_op op_add (pe_op op_mulW (pe_op op_mulW pe_int (pv 9)) (pe_callD D_law_sheets (hr.mono (by decide)) (pa_cons (pv 10) (pa_cons (pv 6) pa_nil)))) (pe_callD D_law_sheets (hr.mono (by decide)) (pa_cons pe_int (pa_cons (pv 6) pa_nil)))) (nomark _)) (pss_one (ps_ret pe_bl)) pss_nil))))))))
    (pss_one (ps_ret (pe_and (pe_cmpR (op_eqD hr.units) (pe_listGD D_counts (hr.mono (by decide)) (by rfl) T.n_list (pa_cons (pe_lst (pa_cons pe_int (pa_cons pe_int (pa_cons pe_int pa_nil)))) (pa_cons pe_int pa_nil))) (pe_lst (pa_cons pe_int (pa_cons pe_int (pa_cons pe_int (pa_cons pe_int (pa_cons pe_int pa_nil)))))) (nomark _)) (pe_and (pe_cmpR op_eq (pe_callD D_pages (hr.mono (by decide)) (pa_cons (pe_lst pa_nil) (pa_cons pe_int pa_nil))) pe_int (nomark _)) (pe_one (pe_cmpR (op_eqD hr.units) (pe_listGD D_counts (hr.mono (by decide)) (by rfl) T.n_list (pa_cons (pe_lst (pa_cons pe_int pa_nil)) (pa_cons pe_int pa_nil))) (pe_lst pa_nil) (nomark _))))))))), ?_⟩
    refine w_start (σ' := [some (.ref a), none, none, none, none, none, none, none, none, none, none, none, none]) rfl ?_
    walk_at "g"
    refine ⟨a, ns, rfl, hS, hl, fun b g H1 f1 nb ng hB => ?_⟩
    walk_at "g"
    refine w_lenI (f1.seqL List.not_mem_nil hS) ?_
    walk_at "g"
    refine f_range (fun i σ' H' => ∃ (o2 o3 o4 o5 o6 o7 o8 o9 o10 o11 o12 : Option V) (k : Int), σ' = [some (.ref a), some (.ref b), o2, o3, o4, o5, o6, o7, o8, o9, o10, o11, o12] ∧ Src H' b g k ∧ k ≤ 1000 * i) ⟨_, _, _, _, _, _, _, _, _, _, _, 0, rfl, hB, by omega⟩ ?_ ?_
    · rintro i σ' H2 hi ⟨o2, o3, o4, o5, o6, o7, o8, o9, o10, o11, o12, k, rfl, hP2, hk2⟩
      have hi2 : i < 100 := by split at hi <;> omega
      clear hB hi f1
      walk_at "g"
      rename_i p4 np4 r4 k4 H4 r40 r41 hk4 hP4 f4 m4 hm4
      refine ⟨b, g, k4, m4, rfl, hP4, by omega, by omega, by omega, fun p xs k5 H5 hxl hx hk5 hP5 f5 np hp => ?_⟩
      have p_b : p ≠ b := Src.ne hP4 np
      have p_g : p ≠ g := Src.ne2 hP4 np
      have hx38 : xs.length ≤ 38 := by omega
      have hk5' : k5 ≤ 1000 * i + 80 := by omega
      clear hP2 hP4 f4 f5 np4 hm4 hk4 hk5 r40 r41 np hxl
      walk_at "g"
      have hQ5 : Bk3 H5 b g p xs := ⟨p_b, p_g, hp, by omega, hx⟩
      clear p_b p_g hx38 hp hx
      refine f_range (fun j σ' H' => ∃ (o4 o5 o6 o7 o8 o9 o10 o11 o12 : Option V) (p : Addr) (xs : List Int) (k3 : Int), σ' = [some (.ref a), some (.ref b), some (.int (0 + (i : Int))), some (.ref p), o4, o5, o6, o7, o8, o9, o10, o11, o12] ∧ Src H' b g k3 ∧ k3 ≤ 1000 * i + 80 + 100 * j ∧ Bk3 H' b g p xs) ⟨_, _, _, _, _, _, _, _, _, p, xs, k5, rfl, hP5, by omega, hQ5⟩ ?_ ?_
      · rintro j σ' H6 hj ⟨o4, o5, o6, o7, o8, o9, o10, o11, o12, p, xs, k3, rfl, hP6, hk3, hQ6⟩
        have hj4 : j < 4 := by omega
        have hp6 := hQ6.h
        have hl6 := hQ6.l
        have hx6 := hQ6.x
        have p_b := hQ6.pb
        have p_g := hQ6.pg
        clear hQ5 hP5
        walk_at "g"
        refine w_reprD (dp_ints (SqL.of hp6)) (fine_ints (fun x h => by have := hx6 x h; omega) (by omega)) ?_
        walk_at "g"
        refine l_range (fun L t H' => ∃ (ws : List Int) (k4 : Int), Src H' b g k4 ∧ k4 ≤ k3 + 10 * t ∧ Fr [b, g] H6 H' ∧ H' L = some (.lst (ws.map V.int)) ∧ ws.length = t ∧ ∀ v ∈ ws, 1 ≤ v ∧ v ≤ 10 ^ 30 - 1) (fun L hL => ⟨[], k3, hP6.new hL, by omega, Fr.refl.new hL, upd_same, rfl, by simp⟩) (fun L t H' hL ht h => ?_) (fun L H' hL h => ?_)
        · obtain ⟨ws, k4, hP7, hk4, f7, h7, hwl, hw⟩ := h
          have ht4 : t < 4 := by omega
          have hp7 := f7.at (nn3 p_b p_g) hp6
          have L_b : L ≠ b := Src.ne hP6 hL
          have L_g : L ≠ g := Src.ne2 hP6 hL
          refine w_gname ⟨rfl, ?_⟩
          walk_at "g"
          refine ⟨b, g, p, xs, k4, rfl, hP7, p_b, p_g, hp7, by omega, hx6, by omega, fun v k8 H8 v0 v1 hk8 hP8 f8 => ?_⟩
          have h8 := f8.at (nn3 L_b L_g) h7
          walk_at "g"
          exact ⟨ws ++ [v], k8, hP8.put L_b L_g, by omega, (f7.trans f8).put (.inl hL), upd_same, len_snoc hwl, mem_snoc hw (by omega)⟩
        · obtain ⟨ws, k4, hP7, hk4, f7, h7, hwl, hw⟩ := h
          have hp7 := f7.at (nn3 p_b p_g) hp6
          have hQ7 : Bk3 H' b g p xs := ⟨p_b, p_g, hp7, hl6, hx6⟩
          have hwl4 : ws.length = 4 := hwl
          have hk4' : k4 ≤ 1000 * i + 120 + 100 * j := by omega
          clear f7 hP6 hp6 hL hQ6 hwl hk4
          walk_at "g"
          rename_i t1 nt1 cl ncl
          have hc : upd (upd H' t1 (.lst [.int 1, .int (1000000000000000000000000000000 - 1 : Int)])) cl (.lst ((ws ++ [1, (1000000000000000000000000000000 - 1 : Int)]).map V.int)) cl = some (.lst ((ws ++ [1, (1000000000000000000000000000000 - 1 : Int)]).map V.int)) := upd_same
          have hQ8 : Bk3 (upd (upd H' t1 (.lst [.int 1, .int (1000000000000000000000000000000 - 1 : Int)])) cl (.lst ((ws ++ [1, (1000000000000000000000000000000 - 1 : Int)]).map V.int))) b g p xs := (hQ7.fr (Fr.refl.new nt1)).fr (Fr.refl.new ncl)
          have hP8 : Src (upd (upd H' t1 (.lst [.int 1, .int (1000000000000000000000000000000 - 1 : Int)])) cl (.lst ((ws ++ [1, (1000000000000000000000000000000 - 1 : Int)]).map V.int))) b g k4 := (hP7.new nt1).new ncl
          have hw8 : ∀ v ∈ ws ++ [1, (1000000000000000000000000000000 - 1 : Int)], 1 ≤ v ∧ v ≤ 10 ^ 30 - 1 := fun v h => by
            rcases List.mem_append.mp h with h | h
            · exact hw v h
            · simp at h
              omega
          generalize upd (upd H' t1 (.lst [.int 1, .int (1000000000000000000000000000000 - 1 : Int)])) cl (.lst ((ws ++ [1, (1000000000000000000000000000000 - 1 : Int)]).map V.int)) = H8 at hc hQ8 hP8 ⊢
          clear nt1 ncl hP7 hQ7 hp7 h7 hw
          generalize ws ++ [1, (1000000000000000000000000000000 - 1 : Int)] = us at hc hw8 ⊢
          have h1 : ∀ n ∈ xs, 1 ≤ n := fun n h => (hx6 n h).1
          refine f_list (us.map V.int) (fun t σ' H' => ∃ (o6 o7 : Option V), σ' = [some (.ref a), some (.ref b), some (.int (0 + (i : Int))), some (.ref p), some (.int (0 + (j : Int))), some (.str (PyData.list (xs.map PyData.int)).shown), o6, o7, o8, o9, o10, o11, o12] ∧ Fr [] H8 H') ⟨_, _, rfl, Fr.refl⟩ ?_ ?_ ?_
          · rintro t σ' H9 _ ⟨o6, o7, rfl, f9⟩
            exact .of (f9.at0 hc)
          · rintro t x σ' H9 hx ⟨o6, o7, rfl, f9⟩
            obtain ⟨v, hv, rfl⟩ := map_at hx
            have hv1 := hw8 v (List.mem_of_getElem? hv)
            have hp9 := f9.at0 hQ8.h
            walk_at "g"
            refine ⟨p, xs, v, rfl, hp9, by omega, h1, by omega, by omega, fun H10 f10 => ?_⟩
            walk_at "g"
            refine ⟨p, xs, v, rfl, f10.at0 hp9, by omega, h1, by omega, by omega, fun H11 f11 => ?_⟩
            have f911 := f9.trans (f10.trans f11)
            clear f10 f11
            walk_at "g"
            rename_i q1 nq1
            refine ⟨p, xs, v, rfl, at_upd (f911.at0 hQ8.h) nq1, by omega, fun n h => by have := hx6 n h; omega, by omega, by omega, fun H12 f12 => ?_⟩
            have hq12 : H12 q1 = some (.lst [.int (ct xs v), .int (ct xs v)]) := f12.at0 upd_same
            have f912 := (f911.new nq1).trans f12
            clear f12 nq1 f911
            walk_at "g"
            rename_i q2 nq2 q3 nq3
            refine ⟨.ref q1, .ref q3, rfl, sm_ints (xs := [ct xs v, ct xs v]) (at_upd (at_upd hq12 nq2) nq3) upd_same (by simp), fun H13 f13 => ?_⟩
            walk_at "g"
            exact ⟨_, _, rfl, ((f912.new nq2).new nq3).trans f13⟩
          · rintro σ' H9 ⟨o6, o7, rfl, f9⟩
            have hQ9 := hQ8.fr f9
            have hP9 := hP8.fr f9 List.not_mem_nil List.not_mem_nil
            clear f9 hP8 hQ8 hc
            walk_at "g"
            refine ⟨b, g, p, xs, k4, rfl, hP9, p_b, p_g, ⟨hQ9.h, by omega, hx6⟩, by omega, fun k10 H10 hk10 hP10 f10 => ?_⟩
            have hQ10 := hQ9.fr2 f10
            clear f10 hP9 hQ9
            have hp10 := hQ10.h
            walk_at "g"
            refine w_reprD (dp_ints (SqL.of hp10)) (fine_ints (fun x h => by have := hx6 x h; omega) (by omega)) ?_
            repeat ((fail_if_success with_reducible refine stopIf ?_); walk_at "1")
            dsimp only
            refine w_seq (w_stJ (fun σ'' H'' => ∃ (o8 : Option V) (zs : List Int) (k' : Int), σ'' = [some (.ref a), some (.ref b), some (.int (0 + (i : Int))), some (.ref p), some (.int (0 + (j : Int))), some (.str (PyData.list (xs.map PyData.int)).shown), o6, o7, o8, o9, o10, o11, o12] ∧ Src H'' b g k' ∧ k' ≤ k10 + 2 ∧ Bk3 H'' b g p zs) (fun N rest => ?_) ?_)
            · walk_at "g"
              refine w_iteN (fun hne => ?_) (fun he => ?_)
              · have hpos := List.length_pos_iff.mpr hne
                walk_at "g"
                rename_i p12 np12 rA kA HA rA0 rA1 hkA hPA fA x1 hx1 x2 hx2 p13 np13 rB kB HB rB0 rB1 hkB hPB fB nv hnv
                obtain rfl : x1 = x2 := Option.some.inj (hx1.symm.trans hx2)
                have hb1 := hx6 x1 (List.mem_of_getElem? hx1)
                refine rest _ _ ⟨_, xs.set rA.toNat _, kB, rfl, hPB.put p_b p_g, by omega, ⟨p_b, p_g, upd_same, by rw [List.length_set]; exact hl6, fun x hx => ?_⟩⟩
                rcases List.mem_or_eq_of_mem_set hx with h | rfl
                · exact hx6 x h
                · split <;> omega
              · walk_at "g"
                exact rest _ _ ⟨_, xs, k10, rfl, by walk_at "P", by omega, hQ10.fr (by walk_at "F")⟩
            rintro σ'' H11 ⟨o8', zs, k11, rfl, hP11, hk11, hQ11⟩
            have hp11 := hQ11.h
            have hl11 := hQ11.l
            dsimp only
            walk_at "g"
            rename_i rA kA HA rA0 rA1 hkA hPA fA rB kB HB rB0 rB1 hkB hPB fB
            have hpB : HB p = some (.lst (zs.map V.int)) := fB.at (nn3 p_b p_g) (fA.at (nn3 p_b p_g) hp11)
            refine w_insI hpB (by omega) (by omega) (by omega) ?_
            obtain ⟨zz, hzz⟩ : ∃ zz, zs.take rA.toNat ++ [1 + rB] ++ zs.drop rA.toNat = zz := ⟨_, rfl⟩
            rw [hzz]
            have hPC := hPB.put (o := .lst (zz.map V.int)) p_b p_g
            walk_at "g"
            rename_i s9 ns9
            refine ⟨_, _, _, _, _, _, _, _, _, s9, zz.take 39, kB, rfl, hPC.new ns9, by omega, ⟨Src.ne hPC ns9, Src.ne2 hPC ns9, by rw [← cutI_take]; exact upd_same, by rw [List.length_take]; omega, fun x hx => ?_⟩⟩
            have hx := List.mem_of_mem_take hx
            rw [← hzz] at hx
            rcases List.mem_append.mp hx with h | h
            · rcases List.mem_append.mp h with h | h
              · exact hQ11.x x (List.mem_of_mem_take h)
              · rw [List.mem_singleton.mp h]
                omega
            · exact hQ11.x x (List.mem_of_mem_drop h)
      · rintro σ' H6 ⟨o4, o5, o6, o7, o8, o9, o10, o11, o12, p, xs, k3, rfl, hP6, hk3, hQ6⟩
        walk_at "g"
        rename_i rm km Hm rm0 rm1 hkm hPm fm rl kl Hl rl0 rl1 hkl hPl fl
        obtain ⟨N, hN, hN2, hN3⟩ : ∃ N : Nat, 2 + rm = (N : Int) ∧ 2 ≤ N ∧ N ≤ 498 := ⟨(2 + rm).toNat, by omega, by omega, by omega⟩
        rw [hN]
        obtain ⟨L, hL⟩ : ∃ L : Int, 5 + rl = L := ⟨_, rfl⟩
        rw [hL]
        have L2 : 5 ≤ L ∧ L ≤ 10 ^ 30 - 1 := by omega
        clear fm fl hPm hN hL rl1
        have lN := len_num (i := (N : Int)) (by omega) (by omega)
        have lL := len_num (i := L) (by omega) (by omega)
        have lx : ("x" : Str).length = 1 := by decide +kernel
        have lp : (" + 4 + " : Str).length = 7 := by decide +kernel
        refine w_strN (log_lt (by omega)) ?_
        walk_at "g"
        refine w_addS (by omega) ?_
        walk_at "g"
        refine w_strN (log_lt (by omega)) ?_
        refine w_addS (by rw [len_app]; omega) ?_
        walk_at "g"
        refine w_addS (by rw [len_app, len_app]; omega) ?_
        walk_at "g"
        refine w_strN (log_lt (by omega)) ?_
        refine w_addS (by rw [len_app, len_app, len_app]; omega) ?_
        walk_at "g"
        refine w_addS (by rw [len_app, len_app, len_app, len_app]; omega) ?_
        walk_at "g"
        refine w_strN (log_lt (by omega)) ?_
        refine w_addS (by rw [len_app, len_app, len_app, len_app, len_app]; omega) ?_
        walk_at "g"
        have h1 : ∀ n ∈ three N L, 1 ≤ n ∧ n ≤ 10 ^ 30 := fun n h => by
          simp [three] at h
          omega
        have h3 : ∀ n ∈ three N L, 1 ≤ n := fun n h => (h1 n h).1
        refine ⟨_, three N L, rfl, two_three hN2 L2.1, fun n h => by have := h1 n h; omega, by rw [three_len]; omega, by simp only [len_app, lx, lp]; omega, fun r5 H5 f5 nr5 hr5 => ?_⟩
        have hP5 := hPl.fr f5 List.not_mem_nil List.not_mem_nil
        have r5b : r5 ≠ b := hPl.ne nr5
        have r5g : r5 ≠ g := hPl.ne2 nr5
        clear f5 nr5 hPl
        walk_at "g"
        rename_i p6 np6
        refine ⟨b, g, p6, [L], kl, rfl, hP5.new np6, hP5.ne np6, hP5.ne2 np6, upd_same, by simp, fun x h => by simp at h; omega, by omega, fun wd k7 H7 wd1 wd2 hk7 hP7 f7 => ?_⟩
        have hr7 := f7.at (nn3 r5b r5g) (at_upd hr5 np6)
        clear f7 hP5 np6 hr5
        have hw0 : 0 < wd := by omega
        walk_at "g"
        refine ⟨r5, three N L, wd, rfl, hr7, by rw [three_len]; omega, h3, by omega, by omega, fun H8 f8 => ?_⟩
        have hP8 := hP7.fr f8 List.not_mem_nil List.not_mem_nil
        clear f8 hP7 hr7
        walk_at "g"
        have hcL : 1 ≤ cp L wd ∧ cp L wd ≤ L := ⟨cp_pos hw0 (by omega), by
          unfold cp
          have := Int.ediv_le_self (a := L - 1) wd (by omega)
          omega⟩
        refine ⟨L, wd, rfl, hw0, by omega, by omega, ?_⟩
        walk_at "g"
        refine ⟨4, wd, rfl, hw0, by omega, by omega, ?_⟩
        have e3 := three_all (N := N) (L := L) (w := wd)
        walk_at "g"
        exact ⟨_, _, _, _, _, _, _, _, _, _, _, k7, rfl, hP8, by omega⟩
    · rintro σ' H2 ⟨o2, o3, o4, o5, o6, o7, o8, o9, o10, o11, o12, k, rfl, hP2, hk2⟩
      walk_at "g"
      rename_i p1 np1
      refine ⟨p1, [5, 3, 3], 5, rfl, upd_same, by decide, by decide, by decide, fun H3 f3 => ?_⟩
      clear f3
      walk_at "g"
      rename_i p3 np3 p4 np4
      refine w_eqLI (ms := [11, 7, 4, 4, 3]) (SqL.of (at_upd upd_same np4)) (SqL.of upd_same) ?_
      rw [decide_eq_true (show tab [5, 3, 3] 5 = [11, 7, 4, 4, 3] by decide +kernel)]
      walk_at "g"
      rename_i p5 np5
      refine ⟨p5, [], 1, rfl, upd_same, by decide, by simp, by decide, by decide, fun H6 f6 => ?_⟩
      clear f6 np5 np4 np3
      have e0 : ct [] 1 = 0 := rfl
      rw [e0]
      walk_at "g"
      rename_i p7 np7
      refine ⟨p7, [1], 0, rfl, upd_same, by decide, by decide, by decide, fun H8 f8 => ?_⟩
      clear f8 np7
      walk_at "g"
      rename_i p9 np9 p10 np10
      rw [decide_eq_true (show tab [1] 0 = [] from rfl)]
      exact q _
end
/-! ### the end -/
theorem all_mk {l : PySem.W.OpenLaw} {w : World} {K : PySem.W.Frag} {h : Heap} {mg : Str → Option Value} {fa : Addr} (X : K.In h) (G : h.Ns mainGlobals mg) (hfa : mg "law" = some (.ref fa))
    {C_InvalidBook : Addr}
    {C_InvalidNumber : Addr}
    {C_InvalidSize : Addr}
    {C_Unreadable : Addr}
    {C_BookError : Addr}
    {f1 : Addr} {od1 an1 : Option Addr} {sl1 : Array (Option Value)} {oc1 kV1 dc1 pm1 cd1 ct1 : Value}
    {f2 : Addr} {od2 an2 : Option Addr} {sl2 : Array (Option Value)} {oc2 kV2 dc2 pm2 cd2 ct2 : Value}
    {f3 : Addr} {od3 an3 : Option Addr} {sl3 : Array (Option Value)} {oc3 kV3 dc3 pm3 cd3 ct3 : Value}
    {f4 : Addr} {od4 an4 : Option Addr} {sl4 : Array (Option Value)} {oc4 kV4 dc4 pm4 cd4 ct4 : Value}
    {f5 : Addr} {od5 an5 : Option Addr} {sl5 : Array (Option Value)} {oc5 kV5 dc5 pm5 cd5 ct5 : Value}
    {f6 : Addr} {od6 an6 : Option Addr} {sl6 : Array (Option Value)} {oc6 kV6 dc6 pm6 cd6 ct6 : Value}
    {f7 : Addr} {od7 an7 : Option Addr} {sl7 : Array (Option Value)} {oc7 kV7 dc7 pm7 cd7 ct7 : Value}
    {f8 : Addr} {od8 an8 : Option Addr} {sl8 : Array (Option Value)} {oc8 kV8 dc8 pm8 cd8 ct8 : Value}
    {f9 : Addr} {od9 an9 : Option Addr} {sl9 : Array (Option Value)} {oc9 kV9 dc9 pm9 cd9 ct9 : Value}
    {f10 : Addr} {od10 an10 : Option Addr} {sl10 : Array (Option Value)} {oc10 kV10 dc10 pm10 cd10 ct10 : Value}
    {f11 : Addr} {od11 an11 : Option Addr} {sl11 : Array (Option Value)} {oc11 kV11 dc11 pm11 cd11 ct11 : Value}
    {f12 : Addr} {od12 an12 : Option Addr} {sl12 : Array (Option Value)} {oc12 kV12 dc12 pm12 cd12 ct12 : Value}
    {f13 : Addr} {od13 an13 : Option Addr} {sl13 : Array (Option Value)} {oc13 kV13 dc13 pm13 cd13 ct13 : Value}
    {f14 : Addr} {od14 an14 : Option Addr} {sl14 : Array (Option Value)} {oc14 kV14 dc14 pm14 cd14 ct14 : Value}
    {f15 : Addr} {od15 an15 : Option Addr} {sl15 : Array (Option Value)} {oc15 kV15 dc15 pm15 cd15 ct15 : Value}
    {f16 : Addr} {od16 an16 : Option Addr} {sl16 : Array (Option Value)} {oc16 kV16 dc16 pm16 cd16 ct16 : Value}
    {f17 : Addr} {od17 an17 : Option Addr} {sl17 : Array (Option Value)} {oc17 kV17 dc17 pm17 cd17 ct17 : Value}
    {f18 : Addr} {od18 an18 : Option Addr} {sl18 : Array (Option Value)} {oc18 kV18 dc18 pm18 cd18 ct18 : Value}
    {f19 : Addr} {od19 an19 : Option Addr} {sl19 : Array (Option Value)} {oc19 kV19 dc19 pm19 cd19 ct19 : Value}
    {f20 : Addr} {od20 an20 : Option Addr} {sl20 : Array (Option Value)} {oc20 kV20 dc20 pm20 cd20 ct20 : Value}
    {f21 : Addr} {od21 an21 : Option Addr} {sl21 : Array (Option Value)} {oc21 kV21 dc21 pm21 cd21 ct21 : Value}
    {tk_BETWEEN : Tok}
    {tk_DIGITS : Tok}
    {tk_EMPTY : Tok}
    {tk_MOST_DIGITS : Tok}
    {tk_TIMES : Tok}
    {nm_InvalidBook q_InvalidBook : Str} {N_InvalidBook : Addr} {bs_InvalidBook : List Value} {sn_InvalidBook : List Str} {sub_InvalidBook : List Value} {ab_InvalidBook : Bool} {col_InvalidBook : Option Bool} {dd_InvalidBook : Option Addr} {k0_InvalidBook k1_InvalidBook k2_InvalidBook k3_InvalidBook k5_InvalidBook : Option Value}
    {nm_InvalidNumber q_InvalidNumber : Str} {N_InvalidNumber : Addr} {bs_InvalidNumber : List Value} {sn_InvalidNumber : List Str} {sub_InvalidNumber : List Value} {ab_InvalidNumber : Bool} {col_InvalidNumber : Option Bool} {dd_InvalidNumber : Option Addr} {k0_InvalidNumber k1_InvalidNumber k2_InvalidNumber k3_InvalidNumber k5_InvalidNumber : Option Value}
    {nm_InvalidSize q_InvalidSize : Str} {N_InvalidSize : Addr} {bs_InvalidSize : List Value} {sn_InvalidSize : List Str} {sub_InvalidSize : List Value} {ab_InvalidSize : Bool} {col_InvalidSize : Option Bool} {dd_InvalidSize : Option Addr} {k0_InvalidSize k1_InvalidSize k2_InvalidSize k3_InvalidSize k5_InvalidSize : Option Value}
    {nm_Unreadable q_Unreadable : Str} {N_Unreadable : Addr} {bs_Unreadable : List Value} {sn_Unreadable : List Str} {sub_Unreadable : List Value} {ab_Unreadable : Bool} {col_Unreadable : Option Bool} {dd_Unreadable : Option Addr} {k0_Unreadable k1_Unreadable k2_Unreadable k3_Unreadable k5_Unreadable : Option Value}
    (aC_InvalidBook : PySem.W.nsIn K mainGlobals "InvalidBook" = some (some (.ref C_InvalidBook)))
    (aC_InvalidNumber : PySem.W.nsIn K mainGlobals "InvalidNumber" = some (some (.ref C_InvalidNumber)))
    (aC_InvalidSize : PySem.W.nsIn K mainGlobals "InvalidSize" = some (some (.ref C_InvalidSize)))
    (aC_Unreadable : PySem.W.nsIn K mainGlobals "Unreadable" = some (some (.ref C_Unreadable)))
    (aC_BookError : PySem.W.nsIn K mainGlobals "BookError" = some (some (.ref C_BookError)))
    (a1 : PySem.W.nsIn K mainGlobals "_law_source" = some (some (.ref f1)))
    (l1 : K.lookup f1 = some ⟨oc1, od1, .func (PySem.W.fnOf "_law_source" "_law_source" (defArgs s_law_source) (defBody s_law_source) (defScope s_law_source) .none kV1 dc1 pm1 an1 cd1 ct1), sl1⟩)
    (c1 : PySem.W.codeIn K cd1 "_law_source" = true)
    (k1 : PySem.W.keepIn K (.ref f1) = true)
    (a2 : PySem.W.nsIn K mainGlobals "_law_draw" = some (some (.ref f2)))
    (l2 : K.lookup f2 = some ⟨oc2, od2, .func (PySem.W.fnOf "_law_draw" "_law_draw" (defArgs s_law_draw) (defBody s_law_draw) (defScope s_law_draw) .none kV2 dc2 pm2 an2 cd2 ct2), sl2⟩)
    (c2 : PySem.W.codeIn K cd2 "_law_draw" = true)
    (k2 : PySem.W.keepIn K (.ref f2) = true)
    (a3 : PySem.W.findIn K (.ref C_InvalidNumber) "__init__" = some (some (.ref f3)))
    (i3 : PySem.W.isFn K (.ref f3) = true)
    (l3 : K.lookup f3 = some ⟨oc3, od3, .func (PySem.W.fnOf "__init__" "InvalidNumber.__init__" (defArgs s_InvalidNumber___init__) (defBody s_InvalidNumber___init__) (defScope s_InvalidNumber___init__) .none kV3 dc3 pm3 an3 cd3 ct3), sl3⟩)
    (c3 : PySem.W.codeIn K cd3 "InvalidNumber.__init__" = true)
    (k3 : PySem.W.keepIn K (.ref f3) = true)
    (a4 : PySem.W.nsIn K mainGlobals "check_book" = some (some (.ref f4)))
    (l4 : K.lookup f4 = some ⟨oc4, od4, .func (PySem.W.fnOf "check_book" "check_book" (defArgs s_check_book) (defBody s_check_book) (defScope s_check_book) .none kV4 dc4 pm4 an4 cd4 ct4), sl4⟩)
    (c4 : PySem.W.codeIn K cd4 "check_book" = true)
    (k4 : PySem.W.keepIn K (.ref f4) = true)
    (a5 : PySem.W.nsIn K mainGlobals "check_size" = some (some (.ref f5)))
    (l5 : K.lookup f5 = some ⟨oc5, od5, .func (PySem.W.fnOf "check_size" "check_size" (defArgs s_check_size) (defBody s_check_size) (defScope s_check_size) .none kV5 dc5 pm5 an5 cd5 ct5), sl5⟩)
    (c5 : PySem.W.codeIn K cd5 "check_size" = true)
    (k5 : PySem.W.keepIn K (.ref f5) = true)
    (a6 : PySem.W.nsIn K mainGlobals "chapter_pages" = some (some (.ref f6)))
    (l6 : K.lookup f6 = some ⟨oc6, od6, .func (PySem.W.fnOf "chapter_pages" "chapter_pages" (defArgs s_chapter_pages) (defBody s_chapter_pages) (defScope s_chapter_pages) .none kV6 dc6 pm6 an6 cd6 ct6), sl6⟩)
    (c6 : PySem.W.codeIn K cd6 "chapter_pages" = true)
    (k6 : PySem.W.keepIn K (.ref f6) = true)
    (a7 : PySem.W.nsIn K mainGlobals "count_pages" = some (some (.ref f7)))
    (l7 : K.lookup f7 = some ⟨oc7, od7, .func (PySem.W.fnOf "count_pages" "count_pages" (defArgs s_count_pages) (defBody s_count_pages) (defScope s_count_pages) .none kV7 dc7 pm7 an7 cd7 ct7), sl7⟩)
    (c7 : PySem.W.codeIn K cd7 "count_pages" = true)
    (k7 : PySem.W.keepIn K (.ref f7) = true)
    (a8 : PySem.W.nsIn K mainGlobals "pages" = some (some (.ref f8)))
    (l8 : K.lookup f8 = some ⟨oc8, od8, .func (PySem.W.fnOf "pages" "pages" (defArgs s_pages) (defBody s_pages) (defScope s_pages) .none kV8 dc8 pm8 an8 cd8 ct8), sl8⟩)
    (c8 : PySem.W.codeIn K cd8 "pages" = true)
    (k8 : PySem.W.keepIn K (.ref f8) = true)
    (a9 : PySem.W.nsIn K mainGlobals "counts" = some (some (.ref f9)))
    (l9 : K.lookup f9 = some ⟨oc9, od9, .func (PySem.W.fnOf "counts" "counts" (defArgs s_counts) (defBody s_counts) (defScope s_counts) .none kV9 dc9 pm9 an9 cd9 ct9), sl9⟩)
    (c9 : PySem.W.codeIn K cd9 "counts" = true)
    (k9 : PySem.W.keepIn K (.ref f9) = true)
    (a10 : PySem.W.nsIn K mainGlobals "_law_same" = some (some (.ref f10)))
    (l10 : K.lookup f10 = some ⟨oc10, od10, .func (PySem.W.fnOf "_law_same" "_law_same" (defArgs s_law_same) (defBody s_law_same) (defScope s_law_same) .none kV10 dc10 pm10 an10 cd10 ct10), sl10⟩)
    (c10 : PySem.W.codeIn K cd10 "_law_same" = true)
    (k10 : PySem.W.keepIn K (.ref f10) = true)
    (a11 : PySem.W.nsIn K mainGlobals "number_of" = some (some (.ref f11)))
    (l11 : K.lookup f11 = some ⟨oc11, od11, .func (PySem.W.fnOf "number_of" "number_of" (defArgs s_number_of) (defBody s_number_of) (defScope s_number_of) .none kV11 dc11 pm11 an11 cd11 ct11), sl11⟩)
    (c11 : PySem.W.codeIn K cd11 "number_of" = true)
    (k11 : PySem.W.keepIn K (.ref f11) = true)
    (a12 : PySem.W.nsIn K mainGlobals "stretch_of" = some (some (.ref f12)))
    (l12 : K.lookup f12 = some ⟨oc12, od12, .func (PySem.W.fnOf "stretch_of" "stretch_of" (defArgs s_stretch_of) (defBody s_stretch_of) (defScope s_stretch_of) .none kV12 dc12 pm12 an12 cd12 ct12), sl12⟩)
    (c12 : PySem.W.codeIn K cd12 "stretch_of" = true)
    (k12 : PySem.W.keepIn K (.ref f12) = true)
    (a13 : PySem.W.nsIn K mainGlobals "read_book" = some (some (.ref f13)))
    (l13 : K.lookup f13 = some ⟨oc13, od13, .func (PySem.W.fnOf "read_book" "read_book" (defArgs s_read_book) (defBody s_read_book) (defScope s_read_book) .none kV13 dc13 pm13 an13 cd13 ct13), sl13⟩)
    (c13 : PySem.W.codeIn K cd13 "read_book" = true)
    (k13 : PySem.W.keepIn K (.ref f13) = true)
    (a14 : PySem.W.nsIn K mainGlobals "_law_lengths" = some (some (.ref f14)))
    (l14 : K.lookup f14 = some ⟨oc14, od14, .func (PySem.W.fnOf "_law_lengths" "_law_lengths" (defArgs s_law_lengths) (defBody s_law_lengths) (defScope s_law_lengths) .none kV14 dc14 pm14 an14 cd14 ct14), sl14⟩)
    (c14 : PySem.W.codeIn K cd14 "_law_lengths" = true)
    (k14 : PySem.W.keepIn K (.ref f14) = true)
    (a15 : PySem.W.nsIn K mainGlobals "_law_wide" = some (some (.ref f15)))
    (l15 : K.lookup f15 = some ⟨oc15, od15, .func (PySem.W.fnOf "_law_wide" "_law_wide" (defArgs s_law_wide) (defBody s_law_wide) (defScope s_law_wide) .none kV15 dc15 pm15 an15 cd15 ct15), sl15⟩)
    (c15 : PySem.W.codeIn K cd15 "_law_wide" = true)
    (k15 : PySem.W.keepIn K (.ref f15) = true)
    (a16 : PySem.W.nsIn K mainGlobals "_law_sheets" = some (some (.ref f16)))
    (l16 : K.lookup f16 = some ⟨oc16, od16, .func (PySem.W.fnOf "_law_sheets" "_law_sheets" (defArgs s_law_sheets) (defBody s_law_sheets) (defScope s_law_sheets) .none kV16 dc16 pm16 an16 cd16 ct16), sl16⟩)
    (c16 : PySem.W.codeIn K cd16 "_law_sheets" = true)
    (k16 : PySem.W.keepIn K (.ref f16) = true)
    (a17 : PySem.W.nsIn K mainGlobals "_law_total" = some (some (.ref f17)))
    (l17 : K.lookup f17 = some ⟨oc17, od17, .func (PySem.W.fnOf "_law_total" "_law_total" (defArgs s_law_total) (defBody s_law_total) (defScope s_law_total) .none kV17 dc17 pm17 an17 cd17 ct17), sl17⟩)
    (c17 : PySem.W.codeIn K cd17 "_law_total" = true)
    (k17 : PySem.W.keepIn K (.ref f17) = true)
    (a18 : PySem.W.nsIn K mainGlobals "_law_first" = some (some (.ref f18)))
    (l18 : K.lookup f18 = some ⟨oc18, od18, .func (PySem.W.fnOf "_law_first" "_law_first" (defArgs s_law_first) (defBody s_law_first) (defScope s_law_first) .none kV18 dc18 pm18 an18 cd18 ct18), sl18⟩)
    (c18 : PySem.W.codeIn K cd18 "_law_first" = true)
    (k18 : PySem.W.keepIn K (.ref f18) = true)
    (a19 : PySem.W.nsIn K mainGlobals "_law_pairs" = some (some (.ref f19)))
    (l19 : K.lookup f19 = some ⟨oc19, od19, .func (PySem.W.fnOf "_law_pairs" "_law_pairs" (defArgs s_law_pairs) (defBody s_law_pairs) (defScope s_law_pairs) .none kV19 dc19 pm19 an19 cd19 ct19), sl19⟩)
    (c19 : PySem.W.codeIn K cd19 "_law_pairs" = true)
    (k19 : PySem.W.keepIn K (.ref f19) = true)
    (a20 : PySem.W.nsIn K mainGlobals "_law_walks_right" = some (some (.ref f20)))
    (l20 : K.lookup f20 = some ⟨oc20, od20, .func (PySem.W.fnOf "_law_walks_right" "_law_walks_right" (defArgs s_law_walks_right) (defBody s_law_walks_right) (defScope s_law_walks_right) .none kV20 dc20 pm20 an20 cd20 ct20), sl20⟩)
    (c20 : PySem.W.codeIn K cd20 "_law_walks_right" = true)
    (k20 : PySem.W.keepIn K (.ref f20) = true)
    (a21 : PySem.W.nsIn K mainGlobals "law" = some (some (.ref f21)))
    (l21 : K.lookup f21 = some ⟨oc21, od21, .func (PySem.W.fnOf "law" "law" (defArgs s_law) (defBody s_law) (defScope s_law) .none kV21 dc21 pm21 an21 cd21 ct21), sl21⟩)
    (c21 : PySem.W.codeIn K cd21 "law" = true)
    (k21 : PySem.W.keepIn K (.ref f21) = true)
    (z_all : PySem.W.nsIn K mainGlobals "all" = some none)
    (z_bool : PySem.W.nsIn K mainGlobals "bool" = some none)
    (z_enumerate : PySem.W.nsIn K mainGlobals "enumerate" = some none)
    (z_int : PySem.W.nsIn K mainGlobals "int" = some none)
    (z_isinstance : PySem.W.nsIn K mainGlobals "isinstance" = some none)
    (z_len : PySem.W.nsIn K mainGlobals "len" = some none)
    (z_list : PySem.W.nsIn K mainGlobals "list" = some none)
    (z_max : PySem.W.nsIn K mainGlobals "max" = some none)
    (z_min : PySem.W.nsIn K mainGlobals "min" = some none)
    (z_range : PySem.W.nsIn K mainGlobals "range" = some none)
    (z_repr : PySem.W.nsIn K mainGlobals "repr" = some none)
    (z_str : PySem.W.nsIn K mainGlobals "str" = some none)
    (z_sum : PySem.W.nsIn K mainGlobals "sum" = some none)
    (z_tuple : PySem.W.nsIn K mainGlobals "tuple" = some none)
    (v_BETWEEN : PySem.W.nsIn K mainGlobals "BETWEEN" = some (some (.str " + " tk_BETWEEN)))
    (v_DIGITS : PySem.W.nsIn K mainGlobals "DIGITS" = some (some (.str "0123456789" tk_DIGITS)))
    (v_EMPTY : PySem.W.nsIn K mainGlobals "EMPTY" = some (some (.str "empty" tk_EMPTY)))
    (v_MOST_DIGITS : PySem.W.nsIn K mainGlobals "MOST_DIGITS" = some (some (.int 40 tk_MOST_DIGITS)))
    (v_TIMES : PySem.W.nsIn K mainGlobals "TIMES" = some (some (.str "x" tk_TIMES)))
    (rd_B : PySem.W.readsIn K C_BookError (.type "type") = true)
    (ga_B : PySem.W.specialIn K (.ref C_BookError) "__getattribute__" = some (some (.builtin "type.__getattribute__")))
    (fi_B : PySem.W.findCls K (.ref C_BookError) (.type "type") "__init__" = some (.val (.builtin "ValueError.__init__")))
    (hd_B : PySem.W.hasDictIn K C_BookError = true)
    (ty_B : PySem.W.typeIn K (.ref C_BookError) = some (.type "type"))
    (xe_B : PySem.W.subIn K (.ref C_BookError) (.type "BaseException") = some true)
    (cn_B : PySem.W.specialIn K (.builtin "object.__class__") "__get__" = some (some (.builtin "getset_descriptor.__get__")))
    (ct_B : PySem.W.takesIn K (.builtin "object.__class__") = some true)
    (xl_InvalidBook : K.lookup C_InvalidBook = some (excClassObj nm_InvalidBook q_InvalidBook C_InvalidBook N_InvalidBook bs_InvalidBook [.ref C_BookError, .type "ValueError", .type "Exception", .type "BaseException", .type "object"] true sn_InvalidBook sub_InvalidBook ab_InvalidBook col_InvalidBook dd_InvalidBook k0_InvalidBook k1_InvalidBook k2_InvalidBook k3_InvalidBook k5_InvalidBook "ValueError.__new__"))
    (xkp_InvalidBook : PySem.W.keepIn K (.ref C_InvalidBook) = true)
    (xsa_InvalidBook : PySem.W.findIn K (.ref C_InvalidBook) "__setattr__" = some (some (.builtin "object.__setattr__")))
    (xex_InvalidBook : PySem.W.subIn K (.ref C_InvalidBook) (.type "BaseException") = some true)
    (xty_InvalidBook : PySem.W.typeIn K (.ref C_InvalidBook) = some (.type "type"))
    (xga_InvalidBook : PySem.W.findIn K (.ref C_InvalidBook) "__getattribute__" = some (some (.builtin "BaseException.__getattribute__")))
    (xgg_InvalidBook : PySem.W.findIn K (.ref C_InvalidBook) "__getattr__" = some none)
    (xhd_InvalidBook : PySem.W.hasDictIn K C_InvalidBook = true)
    (xcl_InvalidBook : PySem.W.findIn K (.ref C_InvalidBook) "__class__" = some (some (.builtin "object.__class__")))
    (xcm_InvalidBook : PySem.W.mroIn K C_InvalidBook (.type "object") = some true)
    (xno_InvalidBook : PySem.W.findIn K (.ref C_InvalidBook) "value" = some none)
    (xl_InvalidNumber : K.lookup C_InvalidNumber = some (excClassObj nm_InvalidNumber q_InvalidNumber C_InvalidNumber N_InvalidNumber bs_InvalidNumber [.ref C_BookError, .type "ValueError", .type "Exception", .type "BaseException", .type "object"] true sn_InvalidNumber sub_InvalidNumber ab_InvalidNumber col_InvalidNumber dd_InvalidNumber k0_InvalidNumber k1_InvalidNumber k2_InvalidNumber k3_InvalidNumber k5_InvalidNumber "ValueError.__new__"))
    (xkp_InvalidNumber : PySem.W.keepIn K (.ref C_InvalidNumber) = true)
    (xsa_InvalidNumber : PySem.W.findIn K (.ref C_InvalidNumber) "__setattr__" = some (some (.builtin "object.__setattr__")))
    (xex_InvalidNumber : PySem.W.subIn K (.ref C_InvalidNumber) (.type "BaseException") = some true)
    (xty_InvalidNumber : PySem.W.typeIn K (.ref C_InvalidNumber) = some (.type "type"))
    (xga_InvalidNumber : PySem.W.findIn K (.ref C_InvalidNumber) "__getattribute__" = some (some (.builtin "BaseException.__getattribute__")))
    (xgg_InvalidNumber : PySem.W.findIn K (.ref C_InvalidNumber) "__getattr__" = some none)
    (xhd_InvalidNumber : PySem.W.hasDictIn K C_InvalidNumber = true)
    (xcl_InvalidNumber : PySem.W.findIn K (.ref C_InvalidNumber) "__class__" = some (some (.builtin "object.__class__")))
    (xcm_InvalidNumber : PySem.W.mroIn K C_InvalidNumber (.type "object") = some true)
    (xno_InvalidNumber : PySem.W.findIn K (.ref C_InvalidNumber) "value" = some none)
    (xl_InvalidSize : K.lookup C_InvalidSize = some (excClassObj nm_InvalidSize q_InvalidSize C_InvalidSize N_InvalidSize bs_InvalidSize [.ref C_BookError, .type "ValueError", .type "Exception", .type "BaseException", .type "object"] true sn_InvalidSize sub_InvalidSize ab_InvalidSize col_InvalidSize dd_InvalidSize k0_InvalidSize k1_InvalidSize k2_InvalidSize k3_InvalidSize k5_InvalidSize "ValueError.__new__"))
    (xkp_InvalidSize : PySem.W.keepIn K (.ref C_InvalidSize) = true)
    (xsa_InvalidSize : PySem.W.findIn K (.ref C_InvalidSize) "__setattr__" = some (some (.builtin "object.__setattr__")))
    (xex_InvalidSize : PySem.W.subIn K (.ref C_InvalidSize) (.type "BaseException") = some true)
    (xty_InvalidSize : PySem.W.typeIn K (.ref C_InvalidSize) = some (.type "type"))
    (xga_InvalidSize : PySem.W.findIn K (.ref C_InvalidSize) "__getattribute__" = some (some (.builtin "BaseException.__getattribute__")))
    (xgg_InvalidSize : PySem.W.findIn K (.ref C_InvalidSize) "__getattr__" = some none)
    (xhd_InvalidSize : PySem.W.hasDictIn K C_InvalidSize = true)
    (xcl_InvalidSize : PySem.W.findIn K (.ref C_InvalidSize) "__class__" = some (some (.builtin "object.__class__")))
    (xcm_InvalidSize : PySem.W.mroIn K C_InvalidSize (.type "object") = some true)
    (xno_InvalidSize : PySem.W.findIn K (.ref C_InvalidSize) "value" = some none)
    (xl_Unreadable : K.lookup C_Unreadable = some (excClassObj nm_Unreadable q_Unreadable C_Unreadable N_Unreadable bs_Unreadable [.ref C_BookError, .type "ValueError", .type "Exception", .type "BaseException", .type "object"] true sn_Unreadable sub_Unreadable ab_Unreadable col_Unreadable dd_Unreadable k0_Unreadable k1_Unreadable k2_Unreadable k3_Unreadable k5_Unreadable "ValueError.__new__"))
    (xkp_Unreadable : PySem.W.keepIn K (.ref C_Unreadable) = true)
    (xsa_Unreadable : PySem.W.findIn K (.ref C_Unreadable) "__setattr__" = some (some (.builtin "object.__setattr__")))
    (xex_Unreadable : PySem.W.subIn K (.ref C_Unreadable) (.type "BaseException") = some true)
    (xty_Unreadable : PySem.W.typeIn K (.ref C_Unreadable) = some (.type "type"))
    (xga_Unreadable : PySem.W.findIn K (.ref C_Unreadable) "__getattribute__" = some (some (.builtin "BaseException.__getattribute__")))
    (xgg_Unreadable : PySem.W.findIn K (.ref C_Unreadable) "__getattr__" = some none)
    (xhd_Unreadable : PySem.W.hasDictIn K C_Unreadable = true)
    (xcl_Unreadable : PySem.W.findIn K (.ref C_Unreadable) "__class__" = some (some (.builtin "object.__class__")))
    (xcm_Unreadable : PySem.W.mroIn K C_Unreadable (.type "object") = some true)
    (xno_Unreadable : PySem.W.findIn K (.ref C_Unreadable) "value" = some none)
    (sb_InvalidNumber_InvalidBook : PySem.W.subIn K (.ref C_InvalidNumber) (.ref C_InvalidBook) = some false)
    (sb_InvalidNumber_InvalidNumber : PySem.W.subIn K (.ref C_InvalidNumber) (.ref C_InvalidNumber) = some true)
    (sb_InvalidNumber_InvalidSize : PySem.W.subIn K (.ref C_InvalidNumber) (.ref C_InvalidSize) = some false)
    (sb_InvalidNumber_Unreadable : PySem.W.subIn K (.ref C_InvalidNumber) (.ref C_Unreadable) = some false)
    (sb_InvalidNumber_BookError : PySem.W.subIn K (.ref C_InvalidNumber) (.ref C_BookError) = some true)
    (sb_InvalidNumber_ValueError : PySem.W.subIn K (.ref C_InvalidNumber) (.type "ValueError") = some true) :
    ∃ fd : FuncData, (∀ (s : Shared) (v : Value), BindsTo s fd ⟨[v], []⟩ [("script", v)]) ∧ ∀ base : Heap, K.In base → base.Ns mainGlobals mg → FnG l.prog w K mg base 9 fa fd ["script"] (spLaw K) := by
  have T : Txt K mg ⟨C_InvalidBook, C_InvalidNumber, C_InvalidSize, C_Unreadable, C_BookError, ()⟩ := ⟨trivial,
    PySem.W.mg_none_of X G z_all,
    PySem.W.mg_none_of X G z_bool,
    PySem.W.mg_none_of X G z_enumerate,
    PySem.W.mg_none_of X G z_int,
    PySem.W.mg_none_of X G z_isinstance,
    PySem.W.mg_none_of X G z_len,
    PySem.W.mg_none_of X G z_list,
    PySem.W.mg_none_of X G z_max,
    PySem.W.mg_none_of X G z_min,
    PySem.W.mg_none_of X G z_range,
    PySem.W.mg_none_of X G z_repr,
    PySem.W.mg_none_of X G z_str,
    PySem.W.mg_none_of X G z_sum,
    PySem.W.mg_none_of X G z_tuple,
    ⟨tk_BETWEEN, PySem.W.mg_of X G v_BETWEEN⟩,
    ⟨tk_DIGITS, PySem.W.mg_of X G v_DIGITS⟩,
    ⟨tk_EMPTY, PySem.W.mg_of X G v_EMPTY⟩,
    ⟨tk_MOST_DIGITS, PySem.W.mg_of X G v_MOST_DIGITS⟩,
    ⟨tk_TIMES, PySem.W.mg_of X G v_TIMES⟩,
    ⟨PySem.W.mg_of X G aC_BookError, rd_B, ga_B, fi_B⟩,
    hd_B,
    ty_B,
    xe_B,
    ⟨PySem.W.mg_of X G aC_InvalidBook, xkp_InvalidBook, ⟨⟨_, _, _, _, _, _, _, _, _, _, _, _, _, _, _, xl_InvalidBook, by rfl⟩, xsa_InvalidBook, xex_InvalidBook, xty_InvalidBook, xkp_InvalidBook⟩, xga_InvalidBook, xgg_InvalidBook, xhd_InvalidBook, xcl_InvalidBook, cn_B, ct_B, xcm_InvalidBook, xno_InvalidBook⟩,
    ⟨PySem.W.mg_of X G aC_InvalidNumber, xkp_InvalidNumber, ⟨⟨_, _, _, _, _, _, _, _, _, _, _, _, _, _, _, xl_InvalidNumber, by rfl⟩, xsa_InvalidNumber, xex_InvalidNumber, xty_InvalidNumber, xkp_InvalidNumber⟩, xga_InvalidNumber, xgg_InvalidNumber, xhd_InvalidNumber, xcl_InvalidNumber, cn_B, ct_B, xcm_InvalidNumber, xno_InvalidNumber⟩,
    ⟨PySem.W.mg_of X G aC_InvalidSize, xkp_InvalidSize, ⟨⟨_, _, _, _, _, _, _, _, _, _, _, _, _, _, _, xl_InvalidSize, by rfl⟩, xsa_InvalidSize, xex_InvalidSize, xty_InvalidSize, xkp_InvalidSize⟩, xga_InvalidSize, xgg_InvalidSize, xhd_InvalidSize, xcl_InvalidSize, cn_B, ct_B, xcm_InvalidSize, xno_InvalidSize⟩,
    ⟨PySem.W.mg_of X G aC_Unreadable, xkp_Unreadable, ⟨⟨_, _, _, _, _, _, _, _, _, _, _, _, _, _, _, xl_Unreadable, by rfl⟩, xsa_Unreadable, xex_Unreadable, xty_Unreadable, xkp_Unreadable⟩, xga_Unreadable, xgg_Unreadable, xhd_Unreadable, xcl_Unreadable, cn_B, ct_B, xcm_Unreadable, xno_Unreadable⟩,
    sb_InvalidNumber_InvalidBook,
    sb_InvalidNumber_InvalidNumber,
    sb_InvalidNumber_InvalidSize,
    sb_InvalidNumber_Unreadable,
    sb_InvalidNumber_BookError,
    sb_InvalidNumber_ValueError,
    ⟨⟨_, _, PySem.W.mg_of X G a1, fun_mk (st := s_law_source) l1 c1 k1⟩⟩,
    ⟨⟨_, _, PySem.W.mg_of X G a2, fun_mk (st := s_law_draw) l2 c2 k2⟩⟩,
    ⟨⟨_, _, ⟨a3, i3, k3⟩, fun_mk (st := s_InvalidNumber___init__) l3 c3 k3⟩⟩,
    ⟨⟨_, _, PySem.W.mg_of X G a4, fun_mk (st := s_check_book) l4 c4 k4⟩⟩,
    ⟨⟨_, _, PySem.W.mg_of X G a5, fun_mk (st := s_check_size) l5 c5 k5⟩⟩,
    ⟨⟨_, _, PySem.W.mg_of X G a6, fun_mk (st := s_chapter_pages) l6 c6 k6⟩⟩,
    ⟨⟨_, _, PySem.W.mg_of X G a7, fun_mk (st := s_count_pages) l7 c7 k7⟩⟩,
    ⟨⟨_, _, PySem.W.mg_of X G a8, fun_mk (st := s_pages) l8 c8 k8⟩⟩,
    ⟨⟨_, _, PySem.W.mg_of X G a9, fun_mk (st := s_counts) l9 c9 k9⟩⟩,
    ⟨⟨_, _, PySem.W.mg_of X G a10, fun_mk (st := s_law_same) l10 c10 k10⟩⟩,
    ⟨⟨_, _, PySem.W.mg_of X G a11, fun_mk (st := s_number_of) l11 c11 k11⟩⟩,
    ⟨⟨_, _, PySem.W.mg_of X G a12, fun_mk (st := s_stretch_of) l12 c12 k12⟩⟩,
    ⟨⟨_, _, PySem.W.mg_of X G a13, fun_mk (st := s_read_book) l13 c13 k13⟩⟩,
    ⟨⟨_, _, PySem.W.mg_of X G a14, fun_mk (st := s_law_lengths) l14 c14 k14⟩⟩,
    ⟨⟨_, _, PySem.W.mg_of X G a15, fun_mk (st := s_law_wide) l15 c15 k15⟩⟩,
    ⟨⟨_, _, PySem.W.mg_of X G a16, fun_mk (st := s_law_sheets) l16 c16 k16⟩⟩,
    ⟨⟨_, _, PySem.W.mg_of X G a17, fun_mk (st := s_law_total) l17 c17 k17⟩⟩,
    ⟨⟨_, _, PySem.W.mg_of X G a18, fun_mk (st := s_law_first) l18 c18 k18⟩⟩,
    ⟨⟨_, _, PySem.W.mg_of X G a19, fun_mk (st := s_law_pairs) l19 c19 k19⟩⟩,
    ⟨⟨_, _, PySem.W.mg_of X G a20, fun_mk (st := s_law_walks_right) l20 c20 k20⟩⟩,
    ⟨⟨_, _, PySem.W.mg_of X G a21, fun_mk (st := s_law) l21 c21 k21⟩⟩⟩
  have e := hfa.symm.trans (PySem.W.mg_of X G a21)
  cases e
  refine ⟨PySem.W.fnOf "law" "law" (defArgs s_law) (defBody s_law) (defScope s_law) .none kV21 dc21 pm21 an21 cd21 ct21, fun s v => .of_eq rfl, fun base _ _ => ?_⟩
  obtain ⟨f, fd, hm, F, O, B⟩ := (ok_law (P := l.prog) (w := w) (base := base) T).ex
  have e2 := hm.symm.trans (PySem.W.mg_of X G a21)
  cases e2
  obtain ⟨oc, od, kV, doc, pm, an, cdv, ct, osl, rfl, lk, hcd⟩ := F.ex
  have e3 := lk.symm.trans l21
  cases e3
  exact O
theorem walk {l : PySem.W.OpenLaw} {q : Program} {loose : List Str} {XP : (Str → Option Value) → Heap → Prop} {YP : World → Heap → Prop} {d : DefRec} {K : Params → PySem.W.Frag} (hn : l.most = some 63) (hdf : d.params.defaults = [])
    (hY : ∀ (w : World) (h : Heap), YP w h → (K w.params).In h)
    (F : ∀ (w : World) (mg : Str → Option Value) (fa : Addr) (h : Heap), (K w.params).In h → h.Ns mainGlobals mg → mg d.name = some (.ref fa) →
      ∃ fd : FuncData, (∀ (s : Shared) (u : Value), BindsTo s fd ⟨[u], []⟩ [("script", u)]) ∧ ∀ base : Heap, (K w.params).In base → base.Ns mainGlobals mg → FnG l.prog w (K w.params) mg base 9 fa fd ["script"] (spLaw (K w.params))) :
    PySem.W.WalkO q loose XP YP l.row.toRowW d [] (fun f vs => PySem.call f vs) :=
  walk_G (n := 63) (k := 9) (x := "script") (sp := fun w => spLaw (K w.params)) hn (by decide) hdf ⟨rfl, by decide, by decide⟩ hY F (fun _ _ a ns hl hz hS => ⟨a, ns, rfl, hS, hl, hz, fun _ => rfl⟩)
end K02
open PySem PySem.W PyProof.Rows
set_option maxRecDepth 100000 in
set_option maxHeartbeats 0 in
theorem PySem.Challenge.cw_pagecounts_k02_page_counts_holds : PySem.Challenge.rw_pagecounts_k02_page_counts.Holds := by
  w_on; o_law; k_head; (case hw => w_witness2)
  k_fill
  refine K02.walk (l := PySem.Challenge.rw_pagecounts_k02_page_counts) rfl rfl (fun w h Y => PySem.W.kIn_of Y) ?F
  case F =>
    intro w mg fa h KX G hmg
    refine' K02.all_mk KX G hmg ?aC_InvalidBook ?aC_InvalidNumber ?aC_InvalidSize ?aC_Unreadable ?aC_BookError ?a1 ?l1 ?c1 ?k1 ?a2 ?l2 ?c2 ?k2 ?a3 ?i3 ?l3 ?c3 ?k3 ?a4 ?l4 ?c4 ?k4 ?a5 ?l5 ?c5 ?k5 ?a6 ?l6 ?c6 ?k6 ?a7 ?l7 ?c7 ?k7 ?a8 ?l8 ?c8 ?k8 ?a9 ?l9 ?c9 ?k9 ?a10 ?l10 ?c10 ?k10 ?a11 ?l11 ?c11 ?k11 ?a12 ?l12 ?c12 ?k12 ?a13 ?l13 ?c13 ?k13 ?a14 ?l14 ?c14 ?k14 ?a15 ?l15 ?c15 ?k15 ?a16 ?l16 ?c16 ?k16 ?a17 ?l17 ?c17 ?k17 ?a18 ?l18 ?c18 ?k18 ?a19 ?l19 ?c19 ?k19 ?a20 ?l20 ?c20 ?k20 ?a21 ?l21 ?c21 ?k21 ?z_all ?z_bool ?z_enumerate ?z_int ?z_isinstance ?z_len ?z_list ?z_max ?z_min ?z_range ?z_repr ?z_str ?z_sum ?z_tuple ?v_BETWEEN ?v_DIGITS ?v_EMPTY ?v_MOST_DIGITS ?v_TIMES ?rd_B ?ga_B ?fi_B ?hd_B ?ty_B ?xe_B ?cn_B ?ct_B ?xl_InvalidBook ?xkp_InvalidBook ?xsa_InvalidBook ?xex_InvalidBook ?xty_InvalidBook ?xga_InvalidBook ?xgg_InvalidBook ?xhd_InvalidBook ?xcl_InvalidBook ?xcm_InvalidBook ?xno_InvalidBook ?xl_InvalidNumber ?xkp_InvalidNumber ?xsa_InvalidNumber ?xex_InvalidNumber ?xty_InvalidNumber ?xga_InvalidNumber ?xgg_InvalidNumber ?xhd_InvalidNumber ?xcl_InvalidNumber ?xcm_InvalidNumber ?xno_InvalidNumber ?xl_InvalidSize ?xkp_InvalidSize ?xsa_InvalidSize ?xex_InvalidSize ?xty_InvalidSize ?xga_InvalidSize ?xgg_InvalidSize ?xhd_InvalidSize ?xcl_InvalidSize ?xcm_InvalidSize ?xno_InvalidSize ?xl_Unreadable ?xkp_Unreadable ?xsa_Unreadable ?xex_Unreadable ?xty_Unreadable ?xga_Unreadable ?xgg_Unreadable ?xhd_Unreadable ?xcl_Unreadable ?xcm_Unreadable ?xno_Unreadable ?sb_InvalidNumber_InvalidBook ?sb_InvalidNumber_InvalidNumber ?sb_InvalidNumber_InvalidSize ?sb_InvalidNumber_Unreadable ?sb_InvalidNumber_BookError ?sb_InvalidNumber_ValueError
    (case aC_InvalidBook => k_is)
    (case aC_InvalidNumber => k_is)
    (case aC_InvalidSize => k_is)
    (case aC_Unreadable => k_is)
    (case aC_BookError => k_is)
    (case a1 => k_is)
    (case l1 => k_is)
    (case c1 => k_is)
    (case k1 => k_is)
    (case a2 => k_is)
    (case l2 => k_is)
    (case c2 => k_is)
    (case k2 => k_is)
    (case a3 => k_is)
    (case i3 => k_is)
    (case l3 => k_is)
    (case c3 => k_is)
    (case k3 => k_is)
    (case a4 => k_is)
    (case l4 => k_is)
    (case c4 => k_is)
    (case k4 => k_is)
    (case a5 => k_is)
    (case l5 => k_is)
    (case c5 => k_is)
    (case k5 => k_is)
    (case a6 => k_is)
    (case l6 => k_is)
    (case c6 => k_is)
    (case k6 => k_is)
    (case a7 => k_is)
    (case l7 => k_is)
    (case c7 => k_is)
    (case k7 => k_is)
    (case a8 => k_is)
    (case l8 => k_is)
    (case c8 => k_is)
    (case k8 => k_is)
    (case a9 => k_is)
    (case l9 => k_is)
    (case c9 => k_is)
    (case k9 => k_is)
    (case a10 => k_is)
    (case l10 => k_is)
    (case c10 => k_is)
    (case k10 => k_is)
    (case a11 => k_is)
    (case l11 => k_is)
    (case c11 => k_is)
    (case k11 => k_is)
    (case a12 => k_is)
    (case l12 => k_is)
    (case c12 => k_is)
    (case k12 => k_is)
    (case a13 => k_is)
    (case l13 => k_is)
    (case c13 => k_is)
    (case k13 => k_is)
    (case a14 => k_is)
    (case l14 => k_is)
    (case c14 => k_is)
    (case k14 => k_is)
    (case a15 => k_is)
    (case l15 => k_is)
    (case c15 => k_is)
    (case k15 => k_is)
    (case a16 => k_is)
    (case l16 => k_is)
    (case c16 => k_is)
    (case k16 => k_is)
    (case a17 => k_is)
    (case l17 => k_is)
    (case c17 => k_is)
    (case k17 => k_is)
    (case a18 => k_is)
    (case l18 => k_is)
    (case c18 => k_is)
    (case k18 => k_is)
    (case a19 => k_is)
    (case l19 => k_is)
    (case c19 => k_is)
    (case k19 => k_is)
    (case a20 => k_is)
    (case l20 => k_is)
    (case c20 => k_is)
    (case k20 => k_is)
    (case a21 => k_is)
    (case l21 => k_is)
    (case c21 => k_is)
    (case k21 => k_is)
    (case z_all => k_is)
    (case z_bool => k_is)
    (case z_enumerate => k_is)
    (case z_int => k_is)
    (case z_isinstance => k_is)
    (case z_len => k_is)
    (case z_list => k_is)
    (case z_max => k_is)
    (case z_min => k_is)
    (case z_range => k_is)
    (case z_repr => k_is)
    (case z_str => k_is)
    (case z_sum => k_is)
    (case z_tuple => k_is)
    (case v_BETWEEN => k_is)
    (case v_DIGITS => k_is)
    (case v_EMPTY => k_is)
    (case v_MOST_DIGITS => k_is)
    (case v_TIMES => k_is)
    (case rd_B => k_is)
    (case ga_B => k_is)
    (case fi_B => k_is)
    (case hd_B => k_is)
    (case ty_B => k_is)
    (case xe_B => k_is)
    (case cn_B => k_is)
    (case ct_B => k_is)
    (case xl_InvalidBook => k_is)
    (case xkp_InvalidBook => k_is)
    (case xsa_InvalidBook => k_is)
    (case xex_InvalidBook => k_is)
    (case xty_InvalidBook => k_is)
    (case xga_InvalidBook => k_is)
    (case xgg_InvalidBook => k_is)
    (case xhd_InvalidBook => k_is)
    (case xcl_InvalidBook => k_is)
    (case xcm_InvalidBook => k_is)
    (case xno_InvalidBook => k_is)
    (case xl_InvalidNumber => k_is)
    (case xkp_InvalidNumber => k_is)
    (case xsa_InvalidNumber => k_is)
    (case xex_InvalidNumber => k_is)
    (case xty_InvalidNumber => k_is)
    (case xga_InvalidNumber => k_is)
    (case xgg_InvalidNumber => k_is)
    (case xhd_InvalidNumber => k_is)
    (case xcl_InvalidNumber => k_is)
    (case xcm_InvalidNumber => k_is)
    (case xno_InvalidNumber => k_is)
    (case xl_InvalidSize => k_is)
    (case xkp_InvalidSize => k_is)
    (case xsa_InvalidSize => k_is)
    (case xex_InvalidSize => k_is)
    (case xty_InvalidSize => k_is)
    (case xga_InvalidSize => k_is)
    (case xgg_InvalidSize => k_is)
    (case xhd_InvalidSize => k_is)
    (case xcl_InvalidSize => k_is)
    (case xcm_InvalidSize => k_is)
    (case xno_InvalidSize => k_is)
    (case xl_Unreadable => k_is)
    (case xkp_Unreadable => k_is)
    (case xsa_Unreadable => k_is)
    (case xex_Unreadable => k_is)
    (case xty_Unreadable => k_is)
    (case xga_Unreadable => k_is)
    (case xgg_Unreadable => k_is)
    (case xhd_Unreadable => k_is)
    (case xcl_Unreadable => k_is)
    (case xcm_Unreadable => k_is)
    (case xno_Unreadable => k_is)
    (case sb_InvalidNumber_InvalidBook => k_is)
    (case sb_InvalidNumber_InvalidNumber => k_is)
    (case sb_InvalidNumber_InvalidSize => k_is)
    (case sb_InvalidNumber_Unreadable => k_is)
    (case sb_InvalidNumber_BookError => k_is)
    (case sb_InvalidNumber_ValueError => k_is)
