import PyProof.Rows.All
import Wide.All
import OpenK.AllK
import Wide.FinOn
import HandS.ForMost
import HandS.Wide
import HandS.SortInts
import HandS.SortKw
import HandS.Property
import HandS.IsInst
import HandS.RevRange
import HandS.Style
import HandS.Flow
import HandS.Defaults
import HandS.MakeKwOnly
import HandS.TryOnly
import HandS.Zip
import HandS.RaiseMore
import HandS.EndBits
import HandS.SetFor
import HandS.Steps
import HandS.Iter
import HandS.GenList
import HandS.Walk
import PySem.Challenge.RW_pagecounts_k05_whole_pages_and_longer_ch
set_option Elab.async false
set_option linter.all false
set_option maxRecDepth 100000
set_option maxHeartbeats 4000000
namespace Pg
open PySem PySem.Spec PyProof.Rows L2

/-! ### powers of great ints -/
def CPowW (i j : Int) : Prop := 0 ≤ j ∧ (i.natAbs.log2 + 1 : Int) * j ≤ 1000000
theorem CPowW.of {i j : Int} (b : Nat) (h0 : 0 ≤ j) (h1 : i.natAbs < 2 ^ b) (hb : 0 < b) (h : (b : Int) * j ≤ 1000000) : CPowW i j := by
  refine ⟨h0, ?_⟩
  have x := PySem.Flt.log2_lt_of hb h1
  have y : ((i.natAbs.log2 + 1 : Nat) : Int) ≤ (b : Int) := by omega
  have z : ((i.natAbs.log2 + 1 : Nat) : Int) * j ≤ (b : Int) * j := Int.mul_le_mul_of_nonneg_right y h0
  have e : ((i.natAbs.log2 + 1 : Nat) : Int) = (i.natAbs.log2 : Int) + 1 := by omega
  rw [e] at z
  exact Int.le_trans z h
section
variable {X : Cx}
theorem op_powW : OpR X (binaryOp .Pow) (rI CPowW fun i j => .int (i ^ j.toNat)) := opI fun i j _ _ _ _ _ hc q => by
  refine pow_int hc.1 ?_ q
  have b : Builtin.Int.intBits i ≤ i.natAbs.log2 + 1 := by
    unfold Builtin.Int.intBits
    split <;> omega
  have b' : ((Builtin.Int.intBits i : Nat) : Int) ≤ (i.natAbs.log2 : Int) + 1 := by omega
  have z := Int.mul_le_mul_of_nonneg_right b' hc.1
  have h2 := hc.2
  have e : (1000000 : Int) ≤ 2 ^ 27 := by decide
  exact Int.le_trans z (Int.le_trans h2 e)
end

/-! ### a def where it stands -/
structure DefAt (P : Program) (w : World) (K : PySem.W.Frag) (mg : Str → Option Value) (base : Heap) (x : Str) (st : Stmt) (k : Nat) (ps : List Str) (sp : Sp) : Prop where
  ex : ∃ f fd, mg x = some (.ref f) ∧ Fun K x x st f fd ∧ FnOk P w K mg base CX0 k f fd ps sp ∧ Binds K fd ps []
/-- a def of the text that stands at the module's name -/
structure FunAt (K : PySem.W.Frag) (mg : Str → Option Value) (x : Str) (st : Stmt) : Prop where
  ex : ∃ f fd, mg x = some (.ref f) ∧ Fun K x x st f fd
/-- a class with its __init__ -/
structure ClsAt (K : PySem.W.Frag) (mg : Str → Option Value) (x : Str) (C : Addr) : Prop where
  g : mg x = some (.ref C)
  c : Cls K C
  mks : PySem.W.makesIn K C = true
  kp : PySem.W.keepIn K (.ref C) = true
/-- a method of a class, as the text has it -/
structure MethAt (K : PySem.W.Frag) (C : Addr) (m qual : Str) (st : Stmt) : Prop where
  ex : ∃ f fd, Meth K C m f ∧ Fun K m qual st f fd
structure MDefAt (P : Program) (w : World) (K : PySem.W.Frag) (mg : Str → Option Value) (base : Heap) (C : Addr) (m qual : Str) (st : Stmt) (k : Nat) (ps : List Str) (sp : Sp) : Prop where
  ex : ∃ f fd, Meth K C m f ∧ Fun K m qual st f fd ∧ FnOk P w K mg base CX0 k f fd ps sp ∧ Binds K fd ps []
/-- a property of a class -/
structure PropAt (K : PySem.W.Frag) (C : Addr) (m qual : Str) (st : Stmt) : Prop where
  ex : ∃ p f fd, PropOf K C m p f ∧ Fun K m qual st f fd
structure PDefAt (P : Program) (w : World) (K : PySem.W.Frag) (mg : Str → Option Value) (base : Heap) (C : Addr) (m qual : Str) (st : Stmt) (k : Nat) (sp : Sp) : Prop where
  ex : ∃ p f fd, PropOf K C m p f ∧ Fun K m qual st f fd ∧ FnOk P w K mg base CX0 k f fd ["self"] sp ∧ Binds K fd ["self"] []

section
variable {P : Program} {w : World} {K : PySem.W.Frag} {mg : Str → Option Value} {base : Heap} {x m qual : Str} {st : Stmt} {k : Nat} {ps N : List Str} {sp : Sp} {C : Addr}
theorem FunAt.ok (F : FunAt K mg x st) (S : FnScope N ps (defScope st)) (len : ∀ vs H Q E, sp vs H Q E → vs.length = ps.length)
    (hb : ∀ (kV doc pm : Value) (an : Option Addr) (cdv ct : Value) (us : List Value), us.length = ps.length → bindArgs (PySem.W.fnOf x x (defArgs st) (defBody st) (defScope st) .none kV doc pm an cdv ct) ⟨us, []⟩ = pure (ps.zip us))
    (hbody : ∀ (f : Addr) (cdv : Value) (A : Around) (outer : List Env) (s : Shared) (H : Hp) (vs : List V) (Q : VK) (E : XK), Room k (A.deeper (envOfC x (defScope st) s.heap.objs.size f cdv)) → sp vs H Q E →
      ∃ t, PSs (cxOf CX0 P w K mg base N x (defScope st) f cdv A outer s H E).nox (defBody st) t ∧ t { nx := fun _ H' => Q .non H', rt := Q } (start N vs) H) : DefAt P w K mg base x st (k + 1) ps sp := by
  obtain ⟨f, fd, hm, F⟩ := F.ex
  exact ⟨f, fd, hm, F, F.ok S len (fun cdv A outer s H vs Q E hr h => hbody f cdv A outer s H vs Q E hr h), F.binds hb⟩
theorem MethAt.ok (F : MethAt K C m qual st) (S : FnScope N ps (defScope st)) (len : ∀ vs H Q E, sp vs H Q E → vs.length = ps.length)
    (hb : ∀ (kV doc pm : Value) (an : Option Addr) (cdv ct : Value) (us : List Value), us.length = ps.length → bindArgs (PySem.W.fnOf m qual (defArgs st) (defBody st) (defScope st) .none kV doc pm an cdv ct) ⟨us, []⟩ = pure (ps.zip us))
    (hbody : ∀ (f : Addr) (cdv : Value) (A : Around) (outer : List Env) (s : Shared) (H : Hp) (vs : List V) (Q : VK) (E : XK), Room k (A.deeper (envOfC qual (defScope st) s.heap.objs.size f cdv)) → sp vs H Q E →
      ∃ t, PSs (cxOf CX0 P w K mg base N qual (defScope st) f cdv A outer s H E).nox (defBody st) t ∧ t { nx := fun _ H' => Q .non H', rt := Q } (start N vs) H) : MDefAt P w K mg base C m qual st (k + 1) ps sp := by
  obtain ⟨f, fd, hm, F⟩ := F.ex
  exact ⟨f, fd, hm, F, F.ok S len (fun cdv A outer s H vs Q E hr h => hbody f cdv A outer s H vs Q E hr h), F.binds hb⟩
theorem PropAt.ok (F : PropAt K C m qual st) (S : FnScope N ["self"] (defScope st)) (len : ∀ vs H Q E, sp vs H Q E → vs.length = 1)
    (hb : ∀ (kV doc pm : Value) (an : Option Addr) (cdv ct : Value) (us : List Value), us.length = (["self"] : List Str).length → bindArgs (PySem.W.fnOf m qual (defArgs st) (defBody st) (defScope st) .none kV doc pm an cdv ct) ⟨us, []⟩ = pure ((["self"] : List Str).zip us))
    (hbody : ∀ (f : Addr) (cdv : Value) (A : Around) (outer : List Env) (s : Shared) (H : Hp) (vs : List V) (Q : VK) (E : XK), Room k (A.deeper (envOfC qual (defScope st) s.heap.objs.size f cdv)) → sp vs H Q E →
      ∃ t, PSs (cxOf CX0 P w K mg base N qual (defScope st) f cdv A outer s H E).nox (defBody st) t ∧ t { nx := fun _ H' => Q .non H', rt := Q } (start N vs) H) : PDefAt P w K mg base C m qual st (k + 1) sp := by
  obtain ⟨p, f, fd, hm, F⟩ := F.ex
  exact ⟨p, f, fd, hm, F, F.ok S len (fun cdv A outer s H vs Q E hr h => hbody f cdv A outer s H vs Q E hr h), F.binds hb⟩
end

section
variable {X : Cx} {x m qual : Str} {st : Stmt} {k n : Nat} {ps ks : List Str} {sp : Sp} {C : Addr} {e o : Expr} {es : List Expr} {kws : List Keyword} {t tk : TA} {ta : TE} {p pos apos : Pos}
theorem pe_callD (D : DefAt X.prog X.w X.K X.mg X.base x st k ps sp) (hr : Room k X.A) (ha : PA X (e :: es) t) (hg : Gl X x := by rfl)
    (hdb : (x == ("__debug__" : Str)) = false := by decide) (he : starEach (e :: es) X.env = (false, eval e X.env) :: starEach es X.env := by rfl) (hpl : (backTo pos (starEach es X.env)).any (·.1) = false := by rfl) :
    PE X (.Call (.Name x p) (e :: es) [] pos) (tCall sp [] E0 t) := by
  obtain ⟨f, fd, hm, F, G, b⟩ := D.ex
  exact pe_call G hr hg hm F.kp b .nil pass0 ha hdb he hpl
theorem pe_methD {pl : Sem Bool} (he : PE X o ta) (T : Cls X.K C) (D : MDefAt X.prog X.w X.K X.mg X.base C m qual st k ps sp) (hr : Room k X.A) (ha : PA X (e :: es) t)
    (hst : starEach (e :: es) X.env = (false, eval e X.env) :: starEach es X.env := by rfl) (hpl : (backTo pos (starEach es X.env)).any (·.1) = false := by rfl)
    (ht : eval (.Call (.Attribute o m apos) (e :: es) [] pos) X.env = (do
      let ov ← eval o X.env
      standAt apos.atName
      let (f, first) ← holding [ov] (getMethod ov m pl)
      callWith pos f first (backTo pos (starEach (e :: es) X.env)) (backToKw pos (keywordEach [] X.env))) := by rfl) :
    PE X (.Call (.Attribute o m apos) (e :: es) [] pos) (tMeth C m sp [] E0 ta t) := by
  obtain ⟨f, fd, hm, F, G, b⟩ := D.ex
  exact pe_meth he T hm G hr b .nil pass0 ha hst hpl ht
theorem pe_methD0 {pl : Sem Bool} (he : PE X o ta) (T : Cls X.K C) (D : MDefAt X.prog X.w X.K X.mg X.base C m qual st k ps sp) (hr : Room k X.A)
    (ht : eval (.Call (.Attribute o m apos) [] [] pos) X.env = (do
      let ov ← eval o X.env
      standAt apos.atName
      let (f, first) ← holding [ov] (getMethod ov m pl)
      callWith pos f first (backTo pos (starEach [] X.env)) (backToKw pos (keywordEach [] X.env))) := by rfl) :
    PE X (.Call (.Attribute o m apos) [] [] pos) (tMeth C m sp [] E0 ta tNil) := by
  obtain ⟨f, fd, hm, F, G, b⟩ := D.ex
  exact pe_meth0 he T hm G hr b .nil pass0 ht
theorem pe_makeD (T : ClsAt X.K X.mg x C) (D : MDefAt X.prog X.w X.K X.mg X.base C "__init__" qual st k ps sp) (hr : Room (k + 1) X.A) (ha : PA X (e :: es) t) (hg : Gl X x := by rfl)
    (hdb : (x == ("__debug__" : Str)) = false := by decide) (he : starEach (e :: es) X.env = (false, eval e X.env) :: starEach es X.env := by rfl) (hpl : (backTo pos (starEach es X.env)).any (·.1) = false := by rfl) :
    PE X (.Call (.Name x p) (e :: es) [] pos) (tMake C sp [] E0 t) := by
  obtain ⟨f, fd, hm, F, G, b⟩ := D.ex
  exact pe_make ⟨T.mks, hm.at_, hm.fn, T.kp⟩ G hr hg T.g b .nil pass0 ha hdb he hpl
theorem passE0 : Passes CX0 X E0 := fun _ _ _ _ _ _ _ h => h.elim
theorem pe_propD (he : PE X e ta) (c : Cls X.K C) (D : PDefAt X.prog X.w X.K X.mg X.base C m qual st k sp) (hr : Room (k + 1) X.A)
    (hab : attributeBase e m X.env (eval e X.env) = eval e X.env := by rfl) : PE X (.Attribute e m pos) (tProp C sp [] E0 ta) := by
  obtain ⟨pp, f, fd, hm, F, G, b⟩ := D.ex
  exact pe_prop he c hm G hr b .nil passE0 hab
theorem pe_gcls {u : Addr} (hm : X.mg x = some (.ref u)) (hg : Gl X x := by rfl) (hd : (x == ("__debug__" : Str)) = false := by decide) : PE X (.Name x pos) (tC (.ref u)) := pe_glob hg hm rfl hd
end

section
variable {X : Cx} {x : Str} {p : Pos}
theorem pe_gint {i : Int} (hm : ∃ t, X.mg x = some (.int i t)) (hg : Gl X x := by rfl) (hd : (x == ("__debug__" : Str)) = false := by decide) : PE X (.Name x p) (tC (.int i)) := by
  obtain ⟨t, hm⟩ := hm
  exact pe_glob hg hm ⟨t, rfl⟩ hd
theorem pe_gstr {i : Str} (hm : ∃ t, X.mg x = some (.str i t)) (hg : Gl X x := by rfl) (hd : (x == ("__debug__" : Str)) = false := by decide) : PE X (.Name x p) (tC (.str i)) := by
  obtain ⟨t, hm⟩ := hm
  exact pe_glob hg hm ⟨t, rfl⟩ hd
end
/-! ### readings by names -/
def rLen (K : PySem.W.Frag) : List V → Hp → VK → Prop := fun xs H Q => ∃ x n, xs = [x] ∧ LenV K x H n ∧ Q (.int n) H
theorem call_lenN {X : Cx} : CallR X (.builtin "len") (rLen X.K) := call_len
def rAbs : List V → Hp → VK → Prop := fun xs H Q => ∃ i, xs = [.int i] ∧ Q (.int (if i < 0 then -i else i)) H
theorem call_absN {X : Cx} : CallR X (.builtin "abs") rAbs := call_abs
def rMax2 : List V → Hp → VK → Prop := fun xs H Q => ∃ i j, xs = [.int i, .int j] ∧ Q (.int (if j > i then j else i)) H
theorem call_max2N {X : Cx} (hc : X.calm = true) : CallR X (.builtin "max") rMax2 := call_max2 hc
def rMin2 : List V → Hp → VK → Prop := fun xs H Q => ∃ i j, xs = [.int i, .int j] ∧ Q (.int (if j < i then j else i)) H
theorem call_min2N {X : Cx} (hc : X.calm = true) : CallR X (.builtin "min") rMin2 := call_min2 hc
def rInt1 : List V → Hp → VK → Prop := fun xs H Q => (∃ i, xs = [.int i] ∧ Q (.int i) H) ∨ ∃ k, xs = [.bl k] ∧ Q (.int (if k then 1 else 0)) H
theorem call_int1N {X : Cx} : CallR X (.type "int") rInt1 := call_int1
def rStrI : List V → Hp → VK → Prop := fun xs H Q => ∃ i, xs = [.int i] ∧ i.natAbs.log2 < 1920 ∧ Q (.str (toString i)) H
theorem call_strN {X : Cx} : CallR X (.type "str") rStrI := call_str_int
def rListOf (K : PySem.W.Frag) : List V → Hp → VK → Prop := fun xs H Q => ∃ p ys, xs = [.ref p] ∧ (SqL K H p ys ∨ SqT K H p ys) ∧ ∀ l, H l = none → Q (.ref l) (upd H l (.lst ys))
theorem call_listN {X : Cx} : CallR X (.type "list") (rListOf X.K) := call_list_of

/-! ### calls by keywords alone -/
def pick {α : Type} (ix : List Nat) (l : List α) : List α := ix.filterMap fun i => l[i]?
theorem pick_vals {zs : List V} {ws : List Value} (r : Vals zs ws) : ∀ ix : List Nat, Vals (pick ix zs) (pick ix ws)
  | [] => .nil
  | i :: ix => by
    have ih := pick_vals r ix
    unfold pick at ih ⊢
    rw [List.filterMap_cons, List.filterMap_cons]
    cases e : zs[i]? with
    | none =>
      rw [Vals.none_of r e]
      exact ih
    | some v =>
      obtain ⟨u, e', rv⟩ := Vals.get r e
      rw [e']
      exact .cons rv ih
/-- how a call binds keywords alone: parameter i takes the keyword at ix[i] -/
def KB0 (x qual : Str) (st : Stmt) (ps ks : List Str) (pre : Nat) (ix : List Nat) : Prop :=
  ∀ (kV doc pm : Value) (an : Option Addr) (cdv ct : Value) (us ws : List Value), us.length = pre → ws.length = ks.length → bindArgs (PySem.W.fnOf x qual (defArgs st) (defBody st) (defScope st) .none kV doc pm an cdv ct) ⟨us, ks.zip ws⟩ = pure (ps.zip (us ++ pick ix ws))
theorem KB0.kbn {K : PySem.W.Frag} {x qual : Str} {st : Stmt} {f : Addr} {fd : FuncData} {ps ks : List Str} {pre : Nat} {ix : List Nat} (B : KB0 x qual st ps ks pre ix) (F : Fun K x qual st f fd) : KBn K fd ps pre ks (fun us ws => us ++ pick ix ws) (fun vs zs => vs ++ pick ix zs) := by
  obtain ⟨oc, od, kV, doc, pm, an, cdv, ct, osl, rfl, lk, hcd⟩ := F.ex
  exact ⟨fun s us ws _ hu hw => .of_eq (B kV doc pm an cdv ct us ws hu hw), fun r1 r2 => r1.append (pick_vals r2 ix)⟩
def tCallK0 (n : Nat) (ix : List Nat) (sp : Sp) (tk : TA) : TE := fun σ H Q => tk σ H fun zs H2 => zs.length = n ∧ sp (pick ix zs) H2 Q E0
section
variable {X : Cx} {x m qual : Str} {st : Stmt} {k n : Nat} {ps ks : List Str} {sp : Sp} {C : Addr} {e o : Expr} {es : List Expr} {kws : List Keyword} {t tk : TA} {ta : TE} {p pos apos : Pos} {ix : List Nat}
theorem pe_callKD (D : DefAt X.prog X.w X.K X.mg X.base x st k ps sp) (hr : Room k X.A) (hkw : PK X kws tk) (B : KB0 x x st ps ks 0 ix) (hg : Gl X x := by rfl)
    (hall : (backToKw pos (keywordEach kws X.env)).all (·.1.isSome) = true := by rfl) (hks : (backToKw pos (keywordEach kws X.env)).filterMap (·.1) = ks := by rfl) (hdb : (x == ("__debug__" : Str)) = false := by decide)
    (hpl : ((backTo pos (starEach [] X.env)).any (·.1) || (backToKw pos (keywordEach kws X.env)).any (·.1.isNone)) = false := by rfl) :
    PE X (.Call (.Name x p) [] kws pos) (tCallK0 ks.length ix sp tk) := by
  obtain ⟨f, fd, hm, F, G, b⟩ := D.ex
  refine ⟨fun pins s σ H Q I h => ?_⟩
  refine wpAny_Call_Name_kw (ld_glob I hg hm ?_ hdb)
  refine PySem.W.callWith_KW0 (h₀ := X.base) I.ok.mod.kin F.kp hall ?_ hpl
  refine thn (hkw.run pos pins s σ H _ I h) fun ws s2 ⟨zs, H2, I2, rz, l2, q2⟩ => ⟨I2.kIn, ?_⟩
  rw [hks]
  exact run_fnN (us := []) (vs := []) G hr (B.kbn F) pass0 I2 .nil rz rfl l2 q2
/-- o.m(k = v, ..) -/
def tMethK0 (C : Addr) (m : Str) (n : Nat) (ix : List Nat) (sp : Sp) (ta : TE) (tk : TA) : TE := fun σ H Q => ta σ H fun x H1 => ∃ a dx fs, x = .ref a ∧ H1 a = some (.ins C dx fs) ∧ fs.lookup m = none ∧
  tk σ H1 fun zs H2 => zs.length = n ∧ sp (x :: pick ix zs) H2 Q E0
theorem pe_makeKD (T : ClsAt X.K X.mg x C) (D : MDefAt X.prog X.w X.K X.mg X.base C "__init__" qual st k ps sp) (hr : Room (k + 1) X.A) (hkw : PK X kws tk) (B : KB0 "__init__" qual st ps ks 1 ix) (hg : Gl X x := by rfl)
    (hall : (backToKw pos (keywordEach kws X.env)).all (·.1.isSome) = true := by rfl) (hks : (backToKw pos (keywordEach kws X.env)).filterMap (·.1) = ks := by rfl) (hdb : (x == ("__debug__" : Str)) = false := by decide)
    (hpl : ((backTo pos (starEach [] X.env)).any (·.1) || (backToKw pos (keywordEach kws X.env)).any (·.1.isNone)) = false := by rfl) :
    PE X (.Call (.Name x p) [] kws pos) (tMakeK C 0 ks.length sp (fun vs zs => vs ++ pick ix zs) E0 tNil tk) := by
  obtain ⟨f, fd, hm, F, G, b⟩ := D.ex
  exact pe_makeK0 (p := p) (pos := pos) ⟨T.mks, hm.at_, hm.fn, T.kp⟩ G hr hg T.g (B.kbn F) pass0 hkw hall hks hdb hpl
end

/-! ### what is kept -/
/-- all that was tracked is as it was, but the addresses of S -/
def Fr (S : List Addr) (H H' : Hp) : Prop := ∀ b o, b ∉ S → H b = some o → H' b = some o
section
variable {S S' : List Addr} {H H1 H2 H' : Hp} {a b p : Addr} {o u : HO} {K : PySem.W.Frag} {xs : List V}
theorem Fr.refl : Fr S H H := fun _ _ _ h => h
theorem Fr.trans (h : Fr S H H1) (h' : Fr S H1 H2) : Fr S H H2 := fun b o n e => h' b o n (h b o n e)
theorem Fr.mono (h : Fr S H H1) (hs : ∀ b ∈ S, b ∈ S') : Fr S' H H1 := fun b o n e => h b o (fun z => n (hs b z)) e
theorem Fr.nil (h : Fr [] H H1) : Fr S H H1 := h.mono fun b z => absurd z (by simp)
theorem Fr.then (h : Fr S H H1) (h' : Fr [] H1 H2) : Fr S H H2 := h.trans h'.nil
theorem Fr.new (h : Fr S H H1) (n : H1 p = none) : Fr S H (upd H1 p o) := fun b u z e => by
  rw [upd_ne (ne_of_none (h b u z e) n)]
  exact h b u z e
/-- an object that was made behind H, or one of S, may change -/
theorem Fr.put (h : Fr S H H1) (n : H p = none ∨ p ∈ S) : Fr S H (upd H1 p o) := fun b u z e => by
  have hb : b ≠ p := by
    intro q
    subst q
    rcases n with n | n
    · rw [n] at e
      cases e
    · exact z n
  rw [upd_ne hb]
  exact h b u z e
theorem Fr.at (h : Fr S H H') (n : b ∉ S) (e : H b = some o) : H' b = some o := h b o n e
theorem Fr.at0 (h : Fr [] H H') (e : H b = some o) : H' b = some o := h b o (by simp) e
theorem Fr.rd (h : Fr S H H') (n : b ∉ S) (e : Rd H b o) : Rd H' b o := by
  rcases e with e | ⟨x, e⟩
  · exact .inl (h b _ n e)
  · exact .inr ⟨x, h b _ n e⟩
theorem Fr.seqL (h : Fr S H H') (n : b ∉ S) (e : SqL K H b xs) : SqL K H' b xs := by
  rcases e with e | e
  · exact .inl (h.rd n e)
  · exact .inr e
theorem Fr.free (h : Fr S H H') (n : p ∉ S) (e : H' p = none) : H p = none := by
  cases q : H p with
  | none => rfl
  | some o =>
    rw [h p o n q] at e
    cases e
/-- what changes one object that was made behind H -/
theorem Fr.loc (h : Fr S H H1) (n : H p = none) (h' : Fr [p] H1 H2) : Fr S H H2 := fun b o z e => by
  refine h' b o ?_ (h b o z e)
  intro q
  rw [List.mem_singleton.mp q, n] at e
  cases e
theorem same_fr (h : Same H H') : Fr S H H' := fun b o _ e => h b o e
theorem Fr.same (h : Fr [] H H') : Same H H' := fun b o e => h b o (by simp) e
theorem at_upd (h : H a = some o) (n : H p = none) : upd H p u a = some o := by
  rw [upd_ne (ne_of_none h n)]
  exact h
theorem at_make {dx : Addr} {v : HO} (h : H a = some o) (n1 : H dx = none) (n2 : H p = none) : upd (upd H dx u) p v a = some o := by
  rw [upd_ne (ne_of_none h n2), upd_ne (ne_of_none h n1)]
  exact h
theorem Fr.make {dx : Addr} {v : HO} (h : Fr S H H1) (n1 : H1 dx = none) (n2 : H1 p = none) : Fr S H (upd (upd H1 dx u) p v) := fun b w z e => at_make (h b w z e) n1 n2
theorem hx_of {v : HO} (h : H a = some o) (e : o = v) : H a = some v := e ▸ h
theorem nn2 (h1 : b ≠ a) : b ∉ [a] := by simpa using h1
end

/-! ### kinds of objects differ -/
theorem ho_lst_tup {v1 : List V} {v2 : List V} : ((.lst v1) : HO) ≠ (.tup v2) := fun z => nomatch z
theorem ho_lst_own {v1 : List V} {v2 : Addr} : ((.lst v1) : HO) ≠ (.own v2) := fun z => nomatch z
theorem ho_lst_xd {v1 : List V} {v2 : List (Str × V)} : ((.lst v1) : HO) ≠ (.xd v2) := fun z => nomatch z
theorem ho_lst_dK {v1 : List V} {v2 : List (Key × V)} : ((.lst v1) : HO) ≠ (.dK v2) := fun z => nomatch z
theorem ho_lst_ins {v1 : List V} {C2 dx2 : Addr} {fs2 : List (Str × V)} : ((.lst v1) : HO) ≠ (.ins C2 dx2 fs2) := fun z => nomatch z
theorem ho_tup_lst {v1 : List V} {v2 : List V} : ((.tup v1) : HO) ≠ (.lst v2) := fun z => nomatch z
theorem ho_tup_own {v1 : List V} {v2 : Addr} : ((.tup v1) : HO) ≠ (.own v2) := fun z => nomatch z
theorem ho_tup_xd {v1 : List V} {v2 : List (Str × V)} : ((.tup v1) : HO) ≠ (.xd v2) := fun z => nomatch z
theorem ho_tup_dK {v1 : List V} {v2 : List (Key × V)} : ((.tup v1) : HO) ≠ (.dK v2) := fun z => nomatch z
theorem ho_tup_ins {v1 : List V} {C2 dx2 : Addr} {fs2 : List (Str × V)} : ((.tup v1) : HO) ≠ (.ins C2 dx2 fs2) := fun z => nomatch z
theorem ho_own_lst {v1 : Addr} {v2 : List V} : ((.own v1) : HO) ≠ (.lst v2) := fun z => nomatch z
theorem ho_own_tup {v1 : Addr} {v2 : List V} : ((.own v1) : HO) ≠ (.tup v2) := fun z => nomatch z
theorem ho_own_xd {v1 : Addr} {v2 : List (Str × V)} : ((.own v1) : HO) ≠ (.xd v2) := fun z => nomatch z
theorem ho_own_dK {v1 : Addr} {v2 : List (Key × V)} : ((.own v1) : HO) ≠ (.dK v2) := fun z => nomatch z
theorem ho_own_ins {v1 : Addr} {C2 dx2 : Addr} {fs2 : List (Str × V)} : ((.own v1) : HO) ≠ (.ins C2 dx2 fs2) := fun z => nomatch z
theorem ho_xd_lst {v1 : List (Str × V)} {v2 : List V} : ((.xd v1) : HO) ≠ (.lst v2) := fun z => nomatch z
theorem ho_xd_tup {v1 : List (Str × V)} {v2 : List V} : ((.xd v1) : HO) ≠ (.tup v2) := fun z => nomatch z
theorem ho_xd_own {v1 : List (Str × V)} {v2 : Addr} : ((.xd v1) : HO) ≠ (.own v2) := fun z => nomatch z
theorem ho_xd_dK {v1 : List (Str × V)} {v2 : List (Key × V)} : ((.xd v1) : HO) ≠ (.dK v2) := fun z => nomatch z
theorem ho_xd_ins {v1 : List (Str × V)} {C2 dx2 : Addr} {fs2 : List (Str × V)} : ((.xd v1) : HO) ≠ (.ins C2 dx2 fs2) := fun z => nomatch z
theorem ho_dK_lst {v1 : List (Key × V)} {v2 : List V} : ((.dK v1) : HO) ≠ (.lst v2) := fun z => nomatch z
theorem ho_dK_tup {v1 : List (Key × V)} {v2 : List V} : ((.dK v1) : HO) ≠ (.tup v2) := fun z => nomatch z
theorem ho_dK_own {v1 : List (Key × V)} {v2 : Addr} : ((.dK v1) : HO) ≠ (.own v2) := fun z => nomatch z
theorem ho_dK_xd {v1 : List (Key × V)} {v2 : List (Str × V)} : ((.dK v1) : HO) ≠ (.xd v2) := fun z => nomatch z
theorem ho_dK_ins {v1 : List (Key × V)} {C2 dx2 : Addr} {fs2 : List (Str × V)} : ((.dK v1) : HO) ≠ (.ins C2 dx2 fs2) := fun z => nomatch z
theorem ho_ins_lst {C1 dx1 : Addr} {fs1 : List (Str × V)} {v2 : List V} : ((.ins C1 dx1 fs1) : HO) ≠ (.lst v2) := fun z => nomatch z
theorem ho_ins_tup {C1 dx1 : Addr} {fs1 : List (Str × V)} {v2 : List V} : ((.ins C1 dx1 fs1) : HO) ≠ (.tup v2) := fun z => nomatch z
theorem ho_ins_own {C1 dx1 : Addr} {fs1 : List (Str × V)} {v2 : Addr} : ((.ins C1 dx1 fs1) : HO) ≠ (.own v2) := fun z => nomatch z
theorem ho_ins_xd {C1 dx1 : Addr} {fs1 : List (Str × V)} {v2 : List (Str × V)} : ((.ins C1 dx1 fs1) : HO) ≠ (.xd v2) := fun z => nomatch z
theorem ho_ins_dK {C1 dx1 : Addr} {fs1 : List (Str × V)} {v2 : List (Key × V)} : ((.ins C1 dx1 fs1) : HO) ≠ (.dK v2) := fun z => nomatch z
/-! ### len(set(ints)) -/
/-- the different ints of a list -/
def distinct (ns : List Int) : List Int := PyProof.Rows.firstMet (fun i => ns.getD i 0) ns.length
theorem firstMet_mem (f : Nat → Int) : ∀ (i : Nat) (x : Int), x ∈ PyProof.Rows.firstMet f i ↔ ∃ j, j < i ∧ f j = x
  | 0, x => by simp [PyProof.Rows.firstMet_zero]
  | i + 1, x => by
    rw [PyProof.Rows.firstMet_succ]
    have ih := firstMet_mem f i
    unfold PyProof.Rows.step_dedup
    split
    · rename_i h
      obtain ⟨y, hy, e⟩ := List.any_eq_true.mp h
      have e := eq_of_beq e
      subst e
      rw [ih]
      constructor
      · rintro ⟨j, h1, h2⟩
        exact ⟨j, by omega, h2⟩
      · rintro ⟨j, h1, h2⟩
        by_cases hj : j < i
        · exact ⟨j, hj, h2⟩
        · have : j = i := by omega
          subst this
          rw [← h2]
          exact (ih _).mp hy
    · rw [List.mem_append, ih, List.mem_singleton]
      constructor
      · rintro (⟨j, h1, h2⟩ | h)
        · exact ⟨j, by omega, h2⟩
        · exact ⟨i, by omega, h.symm⟩
      · rintro ⟨j, h1, h2⟩
        by_cases hj : j < i
        · exact .inl ⟨j, hj, h2⟩
        · have : j = i := by omega
          subst this
          exact .inr h2.symm
theorem distinct_mem {ns : List Int} {x : Int} : x ∈ distinct ns ↔ x ∈ ns := by
  unfold distinct
  rw [firstMet_mem]
  constructor
  · rintro ⟨j, h1, h2⟩
    rw [List.getD_eq_getElem?_getD, List.getElem?_eq_getElem h1] at h2
    have h2 : ns[j] = x := h2
    rw [← h2]
    exact List.getElem_mem h1
  · intro h
    obtain ⟨j, h1, h2⟩ := List.getElem_of_mem h
    refine ⟨j, h1, ?_⟩
    rw [List.getD_eq_getElem?_getD, List.getElem?_eq_getElem h1]
    exact h2
theorem distinct_le (ns : List Int) : (distinct ns).length ≤ ns.length := PyProof.Rows.firstMet_length_le _ _
/-- a list without repetition within another one is no longer -/
theorem nodup_le : ∀ {ds ns : List Int}, ds.Nodup → (∀ x ∈ ds, x ∈ ns) → ds.length ≤ ns.length
  | [], _, _, _ => Nat.zero_le _
  | d :: ds, ns, h, hs => by
    obtain ⟨h1, h2⟩ := List.nodup_cons.mp h
    have hd : d ∈ ns := hs d List.mem_cons_self
    have ih := nodup_le (ds := ds) (ns := ns.erase d) h2 fun x hx => by
      have hne : x ≠ d := fun e => h1 (e ▸ hx)
      exact (List.mem_erase_of_ne hne).mpr (hs x (List.mem_cons_of_mem _ hx))
    have e := List.length_erase_of_mem hd
    have pos : 0 < ns.length := List.length_pos_of_mem hd
    simp only [List.length_cons]
    omega
def tLenSetJ (K : PySem.W.Frag) (ta : TE) : TE := fun σ H Q => ta σ H fun x H1 => ∃ (l : Addr) (ns : List Int), x = .ref l ∧ SqL K H1 l (ns.map V.int) ∧ ns.length ≤ 4000 ∧ Q (.int ((distinct ns).length : Nat)) H1
theorem pe_lenSetJ {X : Cx} {a : Expr} {ta : TE} {p p2 q pos : Pos} (hg : Gl X "len") (hm : X.mg "len" = none) (hg2 : Gl X "set") (hm2 : X.mg "set" = none) (ha : PE X a ta) (hc : X.calm = true := by rfl)
    (na : starEach [a] X.env = (false, eval a X.env) :: starEach [] X.env := by rfl) : PE X (.Call (.Name "len" p) [.Call (.Name "set" p2) [a] [] q] [] pos) (tLenSetJ X.K ta) := by
  refine ⟨fun pins s σ H Q I h => ?_⟩
  refine Call_ (ld_blt I hg hm boot_len ?_)
  refine PyProof.Rows.callWith_builtin1 (PyProof.Rows.args_cons ?_ rfl) rfl rfl
  refine Call_ (ld_blt I hg2 hm2 boot_set ?_)
  refine PyProof.Rows.callWith_type1 (PyProof.Rows.args_cons (thn (ha.run pins s σ H _ I h) fun v s1 ⟨x, H1, I1, r1, q1⟩ => PyProof.Rows.args_nil ?_) na) na rfl
  obtain ⟨l, ns, rfl, hq, hl, q1⟩ := q1
  cases r1
  obtain ⟨its, r, pl, hz⟩ := I1.list hq
  have hlen : its.toArray.size = ns.length := by rw [List.size_toArray, ← r.length, List.length_map]
  refine call_set_list (I1.ok.hd hc) pl.isList (by simpa using RZ.intsAre_vals r) (by rw [hlen]; unfold scanBound; omega) fun h' tk hS hk => ?_
  refine PyProof.Rows.args_nil ?_
  rw [hlen] at hS
  have hlt : (PyProof.Rows.firstMet (fun i => ns.getD i 0) ns.length).length ≤ ns.length := PyProof.Rows.firstMet_length_le _ _
  obtain ⟨o, es, ep, t, ho, hex, hd, _, _, _, hf, hn⟩ := hS
  have I2 : Inv X pins σ H1 { s1 with heap := h', toks := tk } := I1.kept fun b o e => hk b o (Heap.lt_size e) e
  exact call_len_set ho hex hd hf (by rw [hn] <;> omega) ⟨.int (distinct ns).length, H1, I2.tok _, ⟨_, by rw [hn]; rfl⟩, q1⟩
/-! ### the same rules at a named part K -/
section
variable {X : Cx} {K : PySem.W.Frag}
theorem kc_call {r : PySem.W.Frag → List V → Hp → VK → Prop} {v : Value} (h : CallR X v (r X.K)) (e : X.K = K) : CallR X v (r K) := e ▸ h
theorem kc_mt {r : PySem.W.Frag → V → List V → Hp → VK → Prop} {id : String} (h : MtR X id (r X.K)) (e : X.K = K) : MtR X id (r K) := e ▸ h
theorem kc_op {r : PySem.W.Frag → R2} {f : Value → Value → Sem Value} (h : OpR X f (r X.K)) (e : X.K = K) : OpR X f (r K) := e ▸ h
theorem kc_ix {r : PySem.W.Frag → R2} (h : IxR X (r X.K)) (e : X.K = K) : IxR X (r K) := e ▸ h
theorem kc_sl {r : PySem.W.Frag → V → Option Int → Option Int → Hp → VK → Prop} (h : SlR X (r X.K)) (e : X.K = K) : SlR X (r K) := e ▸ h
theorem kc_bm {e : Expr} {T : String} {r : V → List V → Hp → VK → Prop} {to : TE} {t : TA} (h : PE X e (tBM X.K T r to t)) (q : X.K = K) : PE X e (tBM K T r to t) := q ▸ h
theorem kc_bm0 {e : Expr} {T : String} {r : V → List V → Hp → VK → Prop} {to : TE} (h : PE X e (tBM0 X.K T r to)) (q : X.K = K) : PE X e (tBM0 K T r to) := q ▸ h
end
/-! ### slices with a step -/
def pickSl {α : Type} (xs : List α) (lo st : Option Int) : List α := (sliceRange (sliceBounds lo none st xs.length).1 (sliceBounds lo none st xs.length).2.1 (sliceBounds lo none st xs.length).2.2).filterMap fun i => xs[i]?
def tSlStep (K : PySem.W.Frag) (te : TE) (tl ts : TO) : TE := fun σ H Q => te σ H fun x H1 => tl σ H1 fun lo H2 => ts σ H2 fun st H3 => ∃ a xs, x = .ref a ∧ SqL K H3 a xs ∧ st ≠ some 0 ∧ (pickSl xs lo st).length ≤ sizeLine ∧ ∀ p, H3 p = none → Q (.ref p) (upd H3 p (.lst (pickSl xs lo st)))
theorem pe_slStep {X : Cx} {e st : Expr} {te : TE} {lo : Option Expr} {tl ts : TO} {p2 pos : Pos} (he : PE X e te) (hl : PO X lo tl) (hs : PO X (some st) ts) : PE X (.Subscript e (.Slice lo none (some st) p2) pos) (tSlStep X.K te tl ts) := by
  refine ⟨fun pins s σ H Q I h => ?_⟩
  refine Subscript_ (thn (he.run pins s σ H _ I h) fun v s1 ⟨x, H1, I1, r1, q1⟩ => ?_)
  refine wpAny_Slice (thn (hl.run pins s1 σ H1 _ I1 q1) fun vl s2 ⟨l, H2, I2, pl, q2⟩ => ?_)
  refine thn (po_none.run pins s2 σ H2 (fun o H3 => o = none ∧ H3 = H2) I2 ⟨rfl, rfl⟩) fun vu s3 ⟨u, H3, I3, pu, eu, e3⟩ => ?_
  subst eu e3
  refine thn (hs.run pins s3 σ H3 _ I3 q2) fun vs s4 ⟨o, H4, I4, ps, a, xs, ex, hx, h0, hz2, q4⟩ => ?_
  subst ex
  cases r1
  have I5 : Inv X pins σ H4 { s4 with heap := s4.heap.push { cls := .type "slice", data := .fields #[vl, vu, vs] } } := I4.kept (t' := s4.toks) fun b ob q => Heap.get?_push_of_some _ q
  obtain ⟨its, r, ht, hz⟩ := I5.list hx
  have hlen := r.length
  refine tail_any (ops := [.ref a, .ref s4.heap.objs.size]) ht.isList.typeIs (PySem.slot_list_getitem.lookup) ?_ (by with_unfolding_all rfl)
  refine wpAny_getItem_list_slice ht.isList (Heap.IsSliceOf.new _ vl vu vs) pl pu ps h0 ?_ (by rw [List.size_toArray]; omega)
  have hp : slicePick its.toArray l none o = (pickSl its l o).toArray := by
    unfold slicePick pickSl
    simp
  have rv : Vals (pickSl xs l o) (pickSl its l o) := by
    unfold pickSl
    rw [hlen]
    exact pick_vals r _
  rw [hp]
  refine ⟨.ref _, _, I5.laid (t' := s4.toks) (o := .lst (pickSl xs l o)) (fun b ob q => Heap.get?_push_of_some _ q) (Nat.le_refl _) ?_, rfl, q4 _ (I5.hok.fresh (Nat.le_refl _))⟩
  exact ⟨hz2, _, 0, rv, Heap.get?_push_size _ rfl⟩
end Pg

namespace Pg
open PySem PySem.Spec PyProof.Rows L2
theorem szle {n : Nat} (h : Nat.ble n 16777216 = true) : n ≤ sizeLine := by
  rw [sizeLine_eq]
  exact Nat.le_of_ble_eq_true h
theorem szle' {n : Nat} (h : n ≤ 16777216) : n ≤ sizeLine := by
  rw [sizeLine_eq]
  exact h
theorem szlt {n : Nat} (h : n < 16777216) : n < sizeLine := by
  rw [sizeLine_eq]
  exact h
def ParE (i j : Nat) (R : L2.St → Hp → Prop) (σ : L2.St) : List V → Hp → Prop := fun vs H1 => ∃ v w, vs = [v, w] ∧ R ((σ.set i (some v)).set j (some w)) H1
theorem perm_sum {ns ms : List Int} (h : ns.Perm ms) : ns.sum = ms.sum := by
  induction h with
  | nil => rfl
  | cons x _ ih => simp [ih]
  | swap x y l => simp; omega
  | trans _ _ h1 h2 => exact h1.trans h2
/-- a wish, wrapped, so that nothing else takes it -/
structure Wr (R : Prop) : Prop where
  r : R
/-- fields of instances -/
def FldP (K : PySem.W.Frag) (f : Str) (y : V) (R : Hp → Prop) : V → Hp → Prop := fun x H2 => ∃ a C dx fs, x = .ref a ∧ H2 a = some (.ins C dx fs) ∧ Cls K C ∧ NoAttr K C f ∧ fs.length < 1000 ∧ R (upd H2 a (.ins C dx (putF f y fs)))
def FldG (K : PySem.W.Frag) (f : Str) (Q : VK) : V → Hp → Prop := fun x H1 => ∃ a C dx fs v, x = .ref a ∧ H1 a = some (.ins C dx fs) ∧ Cls K C ∧ NoAttr K C f ∧ fs.lookup f = some v ∧ Q v H1
def FldQ (C a : Addr) (f : Str) (z : V) (R : Hp → Prop) : Hp → Prop := fun H3 => ∃ dx' fs', H3 a = some (.ins C dx' fs') ∧ fs'.length < 1000 ∧ R (upd H3 a (.ins C dx' (putF f z fs')))
def FldA (K : PySem.W.Frag) (tv : TE) (rd : V → V → Hp → VK → Prop) (f : Str) (R : Hp → Prop) (σ : L2.St) : V → Hp → Prop := fun x H1 => ∃ a C dx fs v, x = .ref a ∧ H1 a = some (.ins C dx fs) ∧ Cls K C ∧ NoAttr K C f ∧ fs.lookup f = some v ∧
  tv σ H1 fun y H2 => rd v y H2 fun z H3 => FldQ C a f z R H3
def MethE (C : Addr) (m : Str) (sp : Sp) (dvs : List V) (E : XK) (t : TA) (σ : L2.St) (Q : VK) : V → Hp → Prop := fun x H1 => ∃ a dx fs, x = .ref a ∧ H1 a = some (.ins C dx fs) ∧ fs.lookup m = none ∧ t σ H1 fun vs H2 => sp (x :: (vs ++ dvs)) H2 Q E
def PropE (C : Addr) (sp : Sp) (dvs : List V) (E : XK) (Q : VK) : V → Hp → Prop := fun x H1 => ∃ a dx fs, x = .ref a ∧ H1 a = some (.ins C dx fs) ∧ sp (.ref a :: dvs) H1 Q E
theorem putF_eq {f : Str} {v x : V} {r : List (Str × V)} : putF f v ((f, x) :: r) = (f, v) :: r := by
  show (if f = f then _ else _) = _
  rw [if_pos rfl]
theorem putF_ne {f g : Str} {v x : V} {r : List (Str × V)} (h : ¬ g = f) : putF f v ((g, x) :: r) = (g, x) :: putF f v r := by
  show (if g = f then _ else _) = _
  rw [if_neg h]
theorem lk_eq {f : Str} {v : V} {r : List (Str × V)} : List.lookup f ((f, v) :: r) = some v := by simp [List.lookup]
theorem lk_ne {f g : Str} {v : V} {r : List (Str × V)} (h : ¬ f = g) : List.lookup f ((g, v) :: r) = List.lookup f r := by
  have e : (f == g) = false := by simpa using h
  simp [List.lookup, e]
/-- a method's receiver is of the type, and the rest -/
def TyAnd (K : PySem.W.Frag) (T : String) (x : V) (H : Hp) (R : Prop) : Prop := tyV K T x H ∧ R
section
variable {K : PySem.W.Frag} {σ : L2.St} {H H' : Hp} {D : Ends} {i : Nat} {x y v : V} {Q : VK} {ta tb te : TE} {c t u : TT} {t1 t2 ts : TS} {r : R2} {g : TG} {tA tr : TA} {R : List V → Hp → Prop} {a p C dx : Addr} {xs : List V} {f : Str} {fs : List (Str × V)} {m n : Int} {B : Bool → Hp → Prop}
/-! statements -/
theorem w_share {R A : Prop} (h1 : Wr R → A) (h2 : R) : A := h1 ⟨h2⟩
theorem w_start {N : List Str} {vs : List V} {σ' : L2.St} (e : L2.start N vs = σ') (h : ts D σ' H) : ts D (L2.start N vs) H := e ▸ h
theorem w_seq (h : t1 { D with nx := t2 D } σ H) : tSeq t1 t2 D σ H := h
theorem w_next (h : D.nx σ H) : tNext D σ H := h
theorem w_asg (h : te σ H fun x H1 => g x σ H1 D.nx) : tAsg te g D σ H := h
theorem w_gname {Q : L2.St → Hp → Prop} (h : Q (σ.set i (some v)) H) : gName i v σ H Q := h
theorem w_ret (h : te σ H D.rt) : tRet te D σ H := h
theorem w_retN (h : D.rt .non H) : tRetN D σ H := h
theorem w_drop (h : te σ H fun _ H1 => D.nx σ H1) : tDrop te D σ H := h
theorem w_ifS (h : c σ H fun b H1 => if b = true then t1 D σ H1 else t2 D σ H1) : tIfS c t1 t2 D σ H := h
theorem w_par {j : Nat} (h : tA σ H (ParE i j (D.nx) σ)) : tPar i j tA D σ H := h
theorem w_parE {j : Nat} {R : L2.St → Hp → Prop} (q : R ((σ.set i (some x)).set j (some y)) H) : ParE i j R σ [x, y] H := ⟨x, y, rfl, q⟩
theorem w_aug {ti : TIp} (e : σ[i]? = some (some x)) (h : te σ H fun y H1 => ti x y H1 fun z H2 => D.nx (σ.set i (some z)) H2) : tAug i te ti D σ H := ⟨x, e, h⟩
theorem w_ipI {f : Int → Int → Int} (h : Q (.int (f m n)) H) : ipI f (.int m) (.int n) H Q := ⟨m, n, rfl, rfl, h⟩
theorem w_fld (h : te σ H fun y H1 => ta σ H1 (FldP K f y (D.nx σ))) : sFld K ta te f D σ H := h
theorem w_fldP {R : Hp → Prop} {fs' : List (Str × V)} (h : H a = some (.ins C dx fs)) (c : Cls K C) (n : NoAttr K C f) (hl : fs.length < 1000) (e : putF f y fs = fs') (q : R (upd H a (.ins C dx fs'))) : FldP K f y R (.ref a) H := ⟨a, C, dx, fs, rfl, h, c, n, hl, by rw [e]; exact q⟩
theorem w_fldaug {rd : V → V → Hp → VK → Prop} (h : ta σ H fun x H1 => FldA K te rd f (D.nx σ) σ x H1) : sFldAug K ta te rd f D σ H := h
theorem w_fldA {rd : V → V → Hp → VK → Prop} {R : Hp → Prop} (h : H a = some (.ins C dx fs)) (c : Cls K C) (n : NoAttr K C f) (e : fs.lookup f = some v) (q : te σ H fun y H2 => rd v y H2 fun z H3 => FldQ C a f z R H3) : FldA K te rd f R σ (.ref a) H := ⟨a, C, dx, fs, v, rfl, h, c, n, e, q⟩
theorem w_fldQ {R : Hp → Prop} {fs' : List (Str × V)} {z : V} (h : H a = some (.ins C dx fs)) (hl : fs.length < 1000) (e : putF f z fs = fs') (q : R (upd H a (.ins C dx fs'))) : FldQ C a f z R H := ⟨dx, fs, h, hl, by rw [e]; exact q⟩
theorem w_rAdd (q : Q (.int (m + n)) H) : L2.rAdd (.int m) (.int n) H Q := ⟨m, n, rfl, rfl, q⟩
theorem w_rSub (q : Q (.int (m - n)) H) : L2.rSub (.int m) (.int n) H Q := ⟨m, n, rfl, rfl, q⟩
/-! expressions -/
theorem w_var (e : σ[i]? = some (some v)) (h : Q v H) : tVar i σ H Q := ⟨v, e, h⟩
theorem w_c (h : Q v H) : tC v σ H Q := h
theorem w_op (h : ta σ H fun x H1 => tb σ H1 fun y H2 => r x y H2 Q) : tOp r ta tb σ H Q := h
theorem w_un {r : V → Hp → VK → Prop} (h : ta σ H fun x H1 => r x H1 Q) : tUn r ta σ H Q := h
theorem w_I0 {g : Int → Int → V} (h : Q (g m n) H) : rI0 g (.int m) (.int n) H Q := ⟨m, n, rfl, rfl, h⟩
theorem w_I {P : Int → Int → Prop} {g : Int → Int → V} (c : P m n) (h : Q (g m n) H) : rI P g (.int m) (.int n) H Q := ⟨m, n, rfl, rfl, c, h⟩
theorem w_powW (c : CPowW m n) (h : Q (.int (m ^ n.toNat)) H) : rI CPowW (fun i j => .int (i ^ j.toNat)) (.int m) (.int n) H Q := ⟨m, n, rfl, rfl, c, h⟩
theorem w_U {g : Int → V} (h : Q (g m) H) : rU g (.int m) H Q := ⟨m, rfl, h⟩
theorem w_eq (c : scal x y = true) (h : Q (.bl (decide (x = y))) H) : rEq x y H Q := ⟨c, h⟩
theorem w_eqI (h : Q (.bl (decide (m = n))) H) : rEq (.int m) (.int n) H Q := ⟨rfl, by
  have e : decide (V.int m = V.int n) = decide (m = n) := by
    by_cases z : m = n
    · subst z
      rw [decide_eq_true rfl, decide_eq_true rfl]
    · rw [decide_eq_false z, decide_eq_false fun q => z (V.int.inj q)]
  rw [e]
  exact h⟩
theorem w_neI (h : Q (.bl (!decide (m = n))) H) : rNe (.int m) (.int n) H Q := ⟨rfl, by
  have e : decide (V.int m = V.int n) = decide (m = n) := by
    by_cases z : m = n
    · subst z
      rw [decide_eq_true rfl, decide_eq_true rfl]
    · rw [decide_eq_false z, decide_eq_false fun q => z (V.int.inj q)]
  rw [e]
  exact h⟩
theorem w_ne (c : scal x y = true) (h : Q (.bl (!decide (x = y))) H) : rNe x y H Q := ⟨c, h⟩
theorem w_ixL (h : SqL K H p xs) (ha : atI xs m = some v) (q : Q v H) : rIxL K (.ref p) (.int m) H Q := ⟨p, xs, m, v, rfl, rfl, h, ha, q⟩
theorem w_ixT (h : SqT K H p xs) (ha : atI xs m = some v) (q : Q v H) : rIxT K (.ref p) (.int m) H Q := ⟨p, xs, m, v, rfl, rfl, h, ha, q⟩
theorem w_sub {to ti : TE} {tq : TSet} {Q : L2.St → Hp → Prop} (h : to σ H fun o H1 => ti σ H1 fun i H2 => tq o i v H2 fun H3 => Q σ H3) : gSub to ti tq v σ H Q := h
theorem w_setL {j : Nat} {Q : Hp → Prop} (h : H p = some (.lst xs)) (e : ixN xs.length m = some j) (q : Q (upd H p (.lst (xs.set j v)))) : rSetL (.ref p) (.int m) v H Q := ⟨p, xs, m, j, rfl, rfl, h, e, q⟩
theorem w_nil (h : R [] H) : tNil σ H R := h
theorem w_cons (h : te σ H fun x H1 => tr σ H1 fun xs H2 => R (x :: xs) H2) : tCons te tr σ H R := h
theorem w_call {sp : Sp} {dvs : List V} {E : XK} (h : tA σ H fun vs H1 => sp (vs ++ dvs) H1 Q E) : tCall sp dvs E tA σ H Q := h
theorem w_CB {r : List V → Hp → VK → Prop} (h : tA σ H fun vs H1 => r vs H1 Q) : tCB r tA σ H Q := h
theorem w_lst (h : tA σ H fun xs H1 => xs.length ≤ sizeLine ∧ ∀ p, H1 p = none → Q (.ref p) (upd H1 p (.lst xs))) : tLst tA σ H Q := h
theorem w_tup (h : tA σ H fun xs H1 => xs.length ≤ sizeLine ∧ ∀ p, H1 p = none → Q (.ref p) (upd H1 p (.tup xs))) : tTup tA σ H Q := h
theorem w_tfld (h : ta σ H (FldG K f Q)) : tFld K ta f σ H Q := h
theorem w_fldG (h : H a = some (.ins C dx fs)) (c : Cls K C) (n : NoAttr K C f) (e : fs.lookup f = some v) (q : Q v H) : FldG K f Q (.ref a) H := ⟨a, C, dx, fs, v, rfl, h, c, n, e, q⟩
theorem w_meth {sp : Sp} {dvs : List V} {E : XK} (h : ta σ H (MethE C f sp dvs E tA σ Q)) : tMeth C f sp dvs E ta tA σ H Q := h
theorem w_methE {sp : Sp} {dvs : List V} {E : XK} (h : H a = some (.ins C dx fs)) (e : fs.lookup f = none) (q : tA σ H fun vs H2 => sp (.ref a :: (vs ++ dvs)) H2 Q E) : MethE C f sp dvs E tA σ Q (.ref a) H := ⟨a, dx, fs, rfl, h, e, q⟩
theorem w_prop {sp : Sp} {dvs : List V} {E : XK} (h : ta σ H (PropE C sp dvs E Q)) : tProp C sp dvs E ta σ H Q := h
theorem w_propE {sp : Sp} {dvs : List V} {E : XK} (h : H a = some (.ins C dx fs)) (q : sp (.ref a :: dvs) H Q E) : PropE C sp dvs E Q (.ref a) H := ⟨a, dx, fs, rfl, h, q⟩
theorem w_make {sp : Sp} {dvs : List V} {E : XK} (h : tA σ H fun vs H1 => ∀ x dx, H1 x = none → H1 dx = none → dx ≠ x → sp (.ref x :: (vs ++ dvs)) (upd (upd H1 dx (.own x)) x (.ins C dx [])) (fun v H2 => v = .non ∧ Q (.ref x) H2) E) : tMake C sp dvs E tA σ H Q := h
theorem w_if (h : c σ H fun b H1 => if b = true then ta σ H1 Q else tb σ H1 Q) : tIf c ta tb σ H Q := h
theorem w_bm {T : String} {r : V → List V → Hp → VK → Prop} (h : ta σ H fun x H1 => TyAnd K T x H1 (tA σ H1 fun xs H2 => r x xs H2 Q)) : tBM K T r ta tA σ H Q := h
theorem w_bm0 {T : String} {r : V → List V → Hp → VK → Prop} (h : ta σ H fun x H1 => TyAnd K T x H1 (r x [] H1 Q)) : tBM0 K T r ta σ H Q := h
theorem w_chain {r r' : R2} {tc : TE} (h : ta σ H fun x H1 => tb σ H1 fun y H2 => r x y H2 fun z H3 => ∃ k, z = .bl k ∧ (if k = true then tc σ H3 fun w' H4 => r' y w' H4 Q else Q (.bl false) H3)) : tChain r r' ta tb tc σ H Q := h
/-! tests -/
theorem w_test (h : te σ H fun x H' => ∃ k, x = .bl k ∧ B k H') : tTest te σ H B := h
theorem w_tB (h : te σ H fun x H' => ∃ k, x = .bl k ∧ B k H') : tB te σ H B := h
theorem w_exbl {b : Bool} {P : Bool → Prop} (h : P b) : ∃ k, V.bl b = V.bl k ∧ P k := ⟨b, rfl, h⟩
theorem w_not (h : t σ H fun b H' => B (!b) H') : tNot t σ H B := h
theorem w_and (h : t σ H fun b H1 => if b = true then u σ H1 B else B false H1) : tAnd t u σ H B := h
theorem w_or (h : t σ H fun b H1 => if b = true then B true H1 else u σ H1 B) : tOr t u σ H B := h
theorem w_ite {c A B : Prop} [Decidable c] (h1 : c → A) (h2 : ¬ c → B) : if decide c = true then A else B := by
  by_cases h : c
  · rw [if_pos (decide_eq_true h)]
    exact h1 h
  · rw [if_neg (by rw [decide_eq_false h]; decide)]
    exact h2 h
theorem w_iteN {c A B : Prop} [Decidable c] (h1 : ¬ c → A) (h2 : c → B) : if (!decide c) = true then A else B := by
  by_cases h : c
  · rw [if_neg (by rw [decide_eq_true h]; decide)]
    exact h2 h
  · rw [if_pos (by rw [decide_eq_false h]; rfl)]
    exact h1 h
theorem w_iteT {A B : Prop} (h : A) : if true = true then A else B := by rw [if_pos rfl]; exact h
theorem w_iteF {A B : Prop} (h : B) : if false = true then A else B := by rw [if_neg Bool.false_ne_true]; exact h
theorem w_iteNT {A B : Prop} (h : B) : if (!true) = true then A else B := by rw [if_neg (by decide)]; exact h
theorem w_iteNF {A B : Prop} (h : A) : if (!false) = true then A else B := by rw [if_pos (by decide)]; exact h
theorem w_iteP {c A B : Prop} [Decidable c] (hc : c) (h : A) : if decide c = true then A else B := w_ite (fun _ => h) fun n => absurd hc n
theorem w_iteQ {c A B : Prop} [Decidable c] (hc : ¬ c) (h : B) : if decide c = true then A else B := w_ite (fun n => absurd n hc) fun _ => h
theorem w_iteNP {c A B : Prop} [Decidable c] (hc : c) (h : B) : if (!decide c) = true then A else B := w_iteN (fun n => absurd hc n) fun _ => h
theorem w_iteNQ {c A B : Prop} [Decidable c] (hc : ¬ c) (h : A) : if (!decide c) = true then A else B := w_iteN (fun _ => h) fun n => absurd n hc
theorem w_iteB {b : Bool} {A B : Prop} (h1 : b = true → A) (h2 : b = false → B) : if b = true then A else B := by
  cases b with
  | true => exact w_iteT (h1 rfl)
  | false => exact w_iteF (h2 rfl)
end

/-! ### reads of lists -/
theorem atI_lt {α : Type} {xs : List α} {r : Int} (h0 : 0 ≤ r) (h1 : r < xs.length) : ∃ v, v ∈ xs ∧ atI xs r = some v ∧ xs[r.toNat]? = some v := by
  have hl : r.toNat < xs.length := by omega
  have e : xs[r.toNat]? = some xs[r.toNat] := List.getElem?_eq_getElem hl
  refine ⟨xs[r.toNat], List.getElem_mem hl, ?_, e⟩
  have q := atI_nat e
  have z : ((r.toNat : Nat) : Int) = r := Int.toNat_of_nonneg h0
  rw [z] at q
  exact q
theorem atI_ints {ns : List Int} {r : Int} (h0 : 0 ≤ r) (h1 : r < ns.length) : ∃ n, n ∈ ns ∧ atI (ns.map V.int) r = some (.int n) ∧ ns[r.toNat]? = some n := by
  obtain ⟨v, hv, e, e2⟩ := atI_lt (xs := ns.map V.int) h0 (by rw [List.length_map]; exact h1)
  rw [List.getElem?_map] at e2
  cases q : ns[r.toNat]? with
  | none =>
    rw [q] at e2
    cases e2
  | some n =>
    rw [q] at e2
    cases e2
    exact ⟨n, List.mem_of_getElem? q, e, rfl⟩
theorem map_at {ns : List Int} {i : Nat} {x : V} (h : (ns.map V.int)[i]? = some x) : ∃ n, ns[i]? = some n ∧ x = .int n := by
  rw [List.getElem?_map] at h
  cases e : ns[i]? with
  | none =>
    rw [e] at h
    cases h
  | some n =>
    rw [e] at h
    exact ⟨n, rfl, (Option.some.inj h).symm⟩
theorem map_at' {α : Type} {f : α → V} {ns : List α} {i : Nat} {x : V} (h : (ns.map f)[i]? = some x) : ∃ n, ns[i]? = some n ∧ x = f n := by
  rw [List.getElem?_map] at h
  cases e : ns[i]? with
  | none =>
    rw [e] at h
    cases h
  | some n =>
    rw [e] at h
    exact ⟨n, rfl, (Option.some.inj h).symm⟩
theorem map_snoc (f : Int → V) (ns : List Int) (n : Int) : ns.map f ++ [f n] = (ns ++ [n]).map f := by simp

/-- the ints of written items -/
def unV : List V → List Int
  | [] => []
  | .int i :: r => i :: unV r
  | _ :: r => unV r
section
variable {K : PySem.W.Frag} {H : Hp} {p : Addr} {xs : List V} {m : Int} {Q : VK} {ns : List Int}
theorem w_ixLi (h : SqL K H p xs) (e : xs = (unV xs).map V.int) (h0 : 0 ≤ m) (h1 : m < (unV xs).length) (q : ∀ n, n ∈ unV xs → Q (.int n) H) : rIxL K (.ref p) (.int m) H Q := by
  obtain ⟨n, hn, e2, _⟩ := atI_ints h0 h1
  rw [← e] at e2
  exact w_ixL h e2 (q n hn)
theorem w_ixTi (h : SqT K H p xs) (e : xs = (unV xs).map V.int) (h0 : 0 ≤ m) (h1 : m < (unV xs).length) (q : ∀ n, n ∈ unV xs → Q (.int n) H) : rIxT K (.ref p) (.int m) H Q := by
  obtain ⟨n, hn, e2, _⟩ := atI_ints h0 h1
  rw [← e] at e2
  exact w_ixT h e2 (q n hn)
theorem w_ixLm (h : SqL K H p (ns.map V.int)) (h0 : 0 ≤ m) (h1 : m < ns.length) (q : ∀ n, ns[m.toNat]? = some n → Q (.int n) H) : rIxL K (.ref p) (.int m) H Q := by
  obtain ⟨n, hn, e2, e3⟩ := atI_ints h0 h1
  exact w_ixL h e2 (q n e3)
theorem w_ixLast (h : SqL K H p (ns.map V.int)) (hne : ns ≠ []) (q : ∀ init x, ns = init ++ [x] → Q (.int x) H) : rIxL K (.ref p) (.int (-1)) H Q := by
  obtain ⟨init, x, e⟩ : ∃ init x, ns = init ++ [x] := by
    exact ⟨ns.dropLast, ns.getLast hne, (List.dropLast_concat_getLast hne).symm⟩
  subst e
  refine w_ixL h ?_ (q _ _ rfl)
  rw [List.map_append]
  exact atI_last _ _
theorem w_len {r : List V} (h : SqL K H p r) (q : Q (.int r.length) H) : rLen K [.ref p] H Q := ⟨_, _, rfl, .inl ⟨r, h, rfl⟩, q⟩
theorem w_lenI (h : SqL K H p (ns.map V.int)) (q : Q (.int ns.length) H) : rLen K [.ref p] H Q := w_len h (by rw [List.length_map]; exact q)
theorem w_append {y : V} (h : H p = some (.lst xs)) (hz : xs.length < sizeLine) (q : Q .non (upd H p (.lst (xs ++ [y])))) : rAppend (.ref p) [y] H Q := ⟨p, xs, y, rfl, rfl, h, hz, q⟩
theorem w_appendI {y : Int} (h : H p = some (.lst (ns.map V.int))) (hz : ns.length < 16777216) (q : Q .non (upd H p (.lst ((ns ++ [y]).map V.int)))) : rAppend (.ref p) [.int y] H Q :=
  ⟨p, _, _, rfl, rfl, h, szlt (by rw [List.length_map]; exact hz), by rw [map_snoc]; exact q⟩
theorem w_tyL {R : Prop} (h : H p = some (.lst xs)) (q : R) : TyAnd K "list" (.ref p) H R := ⟨.inl ⟨rfl, _, SqL.of h⟩, q⟩
theorem w_max2 {i j : Int} (q : Q (.int (if j > i then j else i)) H) : rMax2 [.int i, .int j] H Q := ⟨i, j, rfl, q⟩
theorem w_min2 {i j : Int} (q : Q (.int (if j < i then j else i)) H) : rMin2 [.int i, .int j] H Q := ⟨i, j, rfl, q⟩
theorem w_abs {i : Int} (q : Q (.int (if i < 0 then -i else i)) H) : rAbs [.int i] H Q := ⟨i, rfl, q⟩
theorem w_sum (h : SqL K H p (ns.map V.int)) (q : Q (.int ns.sum) H) : rSum K [.ref p] H Q := ⟨p, ns, rfl, h, q⟩
theorem w_maxL (h : SqL K H p (ns.map V.int)) (h0 : 0 < ns.length) (q : ∀ m, m ∈ ns → (∀ y, y ∈ ns → y ≤ m) → Q (.int m) H) : rMax K [.ref p] H Q := ⟨p, ns, rfl, h, h0, q⟩
theorem w_minL (h : SqL K H p (ns.map V.int)) (h0 : 0 < ns.length) (q : ∀ m, m ∈ ns → (∀ y, y ∈ ns → m ≤ y) → Q (.int m) H) : rMin K [.ref p] H Q := ⟨p, ns, rfl, h, h0, q⟩
theorem w_catI {q : Addr} {ms : List Int} (h1 : H p = some (.lst (ns.map V.int))) (h2 : H q = some (.lst (ms.map V.int))) (hz : ns.length + ms.length ≤ 16777216) (k : ∀ r, H r = none → Q (.ref r) (upd H r (.lst ((ns ++ ms).map V.int)))) : rCat (.ref p) (.ref q) H Q :=
  ⟨p, q, _, _, rfl, rfl, h1, h2, szle' (by rw [List.length_map, List.length_map]; exact hz), fun r hr => by rw [← List.map_append]; exact k r hr⟩
theorem w_ixAny (h : SqL K H p xs) (h0 : 0 ≤ m) (h1 : m < xs.length) (q : ∀ v, v ∈ xs → Q v H) : rIxL K (.ref p) (.int m) H Q := by
  obtain ⟨v, hv, e, _⟩ := atI_lt h0 h1
  exact w_ixL h e (q v hv)
theorem w_catIL {q : Addr} {ys : List V} (h1 : H p = some (.lst (ns.map V.int))) (h2 : H q = some (.lst ys)) (e : ys = (unV ys).map V.int) (hz : ns.length + (unV ys).length ≤ 16777216) (k : ∀ r, H r = none → Q (.ref r) (upd H r (.lst ((ns ++ unV ys).map V.int)))) : rCat (.ref p) (.ref q) H Q :=
  w_catI h1 (by rw [← e]; exact h2) hz k
theorem w_catLI {q : Addr} {ys : List V} (h1 : H p = some (.lst ys)) (h2 : H q = some (.lst (ns.map V.int))) (e : ys = (unV ys).map V.int) (hz : (unV ys).length + ns.length ≤ 16777216) (k : ∀ r, H r = none → Q (.ref r) (upd H r (.lst ((unV ys ++ ns).map V.int)))) : rCat (.ref p) (.ref q) H Q :=
  w_catI (by rw [← e]; exact h1) h2 hz k
theorem w_repI {k : Int} (h : H p = some (.lst (ns.map V.int))) (k1 : -(2 ^ 63) ≤ k) (k2 : k < 2 ^ 63) (hz : ns.length * k.toNat ≤ 16777216) (q : ∀ r, H r = none → Q (.ref r) (upd H r (.lst ((List.replicate k.toNat (ns.map V.int)).flatten)))) : rRep (.ref p) (.int k) H Q :=
  ⟨p, k, _, rfl, rfl, h, k1, k2, szle' (by rw [List.length_map]; exact hz), fun r hr => q r hr⟩
theorem w_intI {i : Int} (q : Q (.int i) H) : rInt1 [.int i] H Q := .inl ⟨i, rfl, q⟩
theorem w_intB {k : Bool} (q : Q (.int (if k then 1 else 0)) H) : rInt1 [.bl k] H Q := .inr ⟨k, rfl, q⟩
theorem w_strI {i : Int} (h : i.natAbs.log2 < 1920) (q : Q (.str (toString i)) H) : rStrI [.int i] H Q := ⟨i, rfl, h, q⟩
theorem w_listof (h : SqL K H p xs) (q : ∀ l, H l = none → Q (.ref l) (upd H l (.lst xs))) : rListOf K [.ref p] H Q := ⟨p, xs, rfl, .inl h, q⟩
end

theorem mem_snoc {α : Type} {P : α → Prop} {xs : List α} {y : α} (h : ∀ x ∈ xs, P x) (hy : P y) : ∀ x ∈ xs ++ [y], P x := fun x hx => by
  rcases List.mem_append.mp hx with z | z
  · exact h x z
  · rw [List.mem_singleton.mp z]
    exact hy
theorem len_snoc {α : Type} {xs : List α} {y : α} {i : Nat} (h : xs.length = i) : (xs ++ [y]).length = i + 1 := by simp [h]

/-! ### data -/
section
variable {K : PySem.W.Frag} {H : Hp}
theorem dpAll_ints : ∀ ns : List Int, DpAll K H (ns.map V.int) (ns.map PyData.int)
  | [] => .nil
  | n :: ns => .cons (.int n) (dpAll_ints ns)
theorem canLay_ints : ∀ ns : List Int, PyData.canLayAll0 (ns.map PyData.int) = true
  | [] => rfl
  | n :: ns => by
    have ih := canLay_ints ns
    simp only [List.map_cons, PyData.canLayAll0, PyData.canLay0, ih, Bool.and_self]
theorem depth_ints : ∀ ns : List Int, PyData.depthAll (ns.map PyData.int) ≤ 1
  | [] => by simp [PyData.depthAll]
  | n :: ns => by
    have ih := depth_ints ns
    simp only [List.map_cons, PyData.depthAll, PyData.depth]
    omega
theorem shaped_ints (ns : List Int) : SeqAt.shaped (.list (ns.map PyData.int)) = true := by
  unfold SeqAt.shaped
  have h1 : PyData.canLay0 (.list (ns.map PyData.int)) = true := by simp only [PyData.canLay0]; exact canLay_ints ns
  have h2 : PyData.depth (.list (ns.map PyData.int)) ≤ 64 := by
    have := depth_ints ns
    simp only [PyData.depth]
    omega
  rw [h1, decide_eq_true h2]
  rfl
theorem eqvAll_ints : ∀ ns ms : List Int, PyData.eqvAll (ns.map PyData.int) (ms.map PyData.int) = decide (ns = ms)
  | [], [] => by simp [PyData.eqvAll]
  | [], m :: ms => by simp [PyData.eqvAll]
  | n :: ns, [] => by simp [PyData.eqvAll]
  | n :: ns, m :: ms => by
    simp only [List.map_cons, PyData.eqvAll, PyData.eqv, eqvAll_ints ns ms]
    by_cases h : n = m
    · subst h
      by_cases h2 : ns = ms <;> simp [h2]
    · simp [h]
theorem eqv_ints (ns ms : List Int) : PyData.eqv (.list (ns.map PyData.int)) (.list (ms.map PyData.int)) = decide (ns = ms) := by
  simp only [PyData.eqv]
  exact eqvAll_ints ns ms
theorem dp_ints {p : Addr} {ns : List Int} (h : SqL K H p (ns.map V.int)) : Dp K H (.ref p) (.list (ns.map PyData.int)) := .lst h (dpAll_ints ns)
variable {p q : Addr} {ns ms : List Int} {Q : VK}
theorem w_eqLI (h1 : SqL K H p (ns.map V.int)) (h2 : SqL K H q (ms.map V.int)) (k : Q (.bl (decide (ns = ms))) H) : rEqD K (.ref p) (.ref q) H Q :=
  ⟨_, _, dp_ints h1, dp_ints h2, shaped_ints _, shaped_ints _, by rw [eqv_ints]; exact k⟩
theorem w_neLI (h1 : SqL K H p (ns.map V.int)) (h2 : SqL K H q (ms.map V.int)) (k : Q (.bl (!decide (ns = ms))) H) : rNeD K (.ref p) (.ref q) H Q :=
  ⟨_, _, dp_ints h1, dp_ints h2, shaped_ints _, shaped_ints _, by rw [eqv_ints]; exact k⟩
theorem w_eqNil (h1 : SqL K H p (ns.map V.int)) (h2 : SqL K H q []) (k : Q (.bl (decide (ns = []))) H) : rEqD K (.ref p) (.ref q) H Q := w_eqLI (ms := []) h1 h2 k
theorem w_neNil (h1 : SqL K H p (ns.map V.int)) (h2 : SqL K H q []) (k : Q (.bl (!decide (ns = []))) H) : rNeD K (.ref p) (.ref q) H Q := w_neLI (ms := []) h1 h2 k
end

/-! ### loops -/
def ForB (g : TG) (tb : TS) (D : Ends) (σ : L2.St) : It → Hp → Prop := fun J H1 => ∃ W : Nat → Nat → L2.St → Hp → Prop, (∃ m, W 0 m σ H1) ∧ ∀ i m σ H, W i m σ H →
  (J.stop i H ∧ D.nx σ H) ∨ (J.go i H ∧ ∃ N : L2.St → Hp → Prop, (∀ σ' H', N σ' H' → ∃ m', m' < m ∧ W (i + 1) m' σ' H') ∧ ∀ x H', J.yld i H x H' → g x σ H' fun σ2 H2 => tb { D with nx := N, ct := N, bk := D.nx } σ2 H2)
/-- y is appended to the new list at L, then N -/
def AppE (L : Addr) (N : Hp → Prop) : V → Hp → Prop := fun y H4 => ∃ acc, H4 L = some (.lst acc) ∧ acc.length < sizeLine ∧ N (upd H4 L (.lst (acc ++ [y])))
def LcB (g : TG) (tt : TT) (te : TE) (vs : List Nat) (σ : L2.St) (Q : VK) : It → Hp → Prop := fun J H1 => ∀ D, H1 D = none → ∃ W : Nat → Nat → Hp → Prop, (∃ m, W 0 m (upd H1 D (.lst []))) ∧ ∀ i m H, W i m H →
  (J.stop i H ∧ Q (.ref D) H) ∨ (J.go i H ∧ ∃ Nx : Hp → Prop, (∀ H', Nx H' → ∃ m', m' < m ∧ W (i + 1) m' H') ∧ ∀ x H', J.yld i H x H' → g x (wipe σ vs) H' fun σ2 H2 => wipe σ2 vs = wipe σ vs ∧ tt σ2 H2 fun b H3 =>
    if b = true then te σ2 H3 (AppE D Nx) else Nx H3)
section
variable {K : PySem.W.Frag} {σ : L2.St} {H : Hp} {D : Ends} {wi : TI} {g : TG} {tb : TS} {tt : TT} {te tl : TE} {ta : TA} {vs : List Nat} {Q : VK} {R : It → Hp → Prop} {a : Addr} {xs : List V} {lo j : Int} {n : Nat}
theorem w_for (h : wi σ H (ForB g tb D σ)) : tFor wi g tb D σ H := h
theorem w_lc (h : wi σ H (LcB g tt te vs σ Q)) : tLc wi g tt te vs σ H Q := h
def LstE (K : PySem.W.Frag) (R : It → Hp → Prop) : V → Hp → Prop := fun x H1 => ∃ a, x = .ref a ∧ (∃ xs, SqL K H1 a xs) ∧ R (Itl K a) H1
def Rng1E (R : It → Hp → Prop) : List V → Hp → Prop := fun vs H1 => ∃ j : Int, vs = [.int j] ∧ -(2 ^ 62) ≤ j ∧ j < 2 ^ 62 ∧ R (Itr 0 j.toNat) H1
def Rng2E (R : It → Hp → Prop) : List V → Hp → Prop := fun vs H1 => ∃ i j : Int, vs = [.int i, .int j] ∧ (-(2 ^ 62) ≤ i ∧ i < 2 ^ 62 ∧ -(2 ^ 62) ≤ j ∧ j < 2 ^ 62) ∧ R (Itr i (j - i).toNat) H1
theorem w_iList (h : tl σ H (LstE K R)) : iList K tl σ H R := h
theorem w_iListE (h : SqL K H a xs) (q : R (Itl K a) H) : LstE K R (.ref a) H := ⟨a, rfl, ⟨xs, h⟩, q⟩
theorem w_rng1 (h : ta σ H (Rng1E R)) : iRng1 ta σ H R := h
theorem w_rng1E (h1 : -(2 ^ 62) ≤ j) (h2 : j < 2 ^ 62) (q : R (Itr 0 j.toNat) H) : Rng1E R [.int j] H := ⟨j, rfl, h1, h2, q⟩
theorem w_rng2 (h : ta σ H (Rng2E R)) : iRng2 ta σ H R := h
theorem w_rng2E (h1 : -(2 ^ 62) ≤ lo ∧ lo < 2 ^ 62 ∧ -(2 ^ 62) ≤ j ∧ j < 2 ^ 62) (q : R (Itr lo (j - lo).toNat) H) : Rng2E R [.int lo, .int j] H := ⟨lo, j, rfl, h1, q⟩
theorem f_range (Pv : Nat → L2.St → Hp → Prop) (h0 : Pv 0 σ H) (hs : ∀ i σ H, i < n → Pv i σ H → g (.int (lo + i)) σ H fun σ2 H2 => tb { D with nx := Pv (i + 1), ct := Pv (i + 1), bk := D.nx } σ2 H2) (hd : ∀ σ H, Pv n σ H → D.nx σ H) :
    ForB g tb D σ (Itr lo n) H := for_range Pv h0 hs hd
theorem f_list (xs : List V) (Pv : Nat → L2.St → Hp → Prop) (h0 : Pv 0 σ H) (hl : ∀ i σ H, i ≤ xs.length → Pv i σ H → SqL K H a xs) (hs : ∀ i x σ H, xs[i]? = some x → Pv i σ H → g x σ H fun σ2 H2 => tb { D with nx := Pv (i + 1), ct := Pv (i + 1), bk := D.nx } σ2 H2) (hd : ∀ σ H, Pv xs.length σ H → D.nx σ H) :
    ForB g tb D σ (Itl K a) H := for_list Pv h0 hl hs hd
theorem f_tup (xs : List V) (Pv : Nat → L2.St → Hp → Prop) (h0 : Pv 0 σ H) (hl : ∀ i σ H, i ≤ xs.length → Pv i σ H → SqT K H a xs) (hs : ∀ i x σ H, xs[i]? = some x → Pv i σ H → g x σ H fun σ2 H2 => tb { D with nx := Pv (i + 1), ct := Pv (i + 1), bk := D.nx } σ2 H2) (hd : ∀ σ H, Pv xs.length σ H → D.nx σ H) :
    ForB g tb D σ (Itt K a) H := for_tup Pv h0 hl hs hd
/-- enumerate: each turn a new pair -/
theorem f_enum (xs : List V) (Pv : Nat → L2.St → Hp → Prop) (h0 : Pv 0 σ H) (hl : ∀ i σ H, i ≤ xs.length → Pv i σ H → SqL K H a xs)
    (hs : ∀ (i : Nat) (x : V) (T : Addr) (σ : L2.St) (H : Hp), xs[i]? = some x → Pv i σ H → H T = none → g (.ref T) σ (upd H T (.tup [.int (i : Nat), x])) fun σ2 H2 => tb { D with nx := Pv (i + 1), ct := Pv (i + 1), bk := D.nx } σ2 H2) (hd : ∀ σ H, Pv xs.length σ H → D.nx σ H) :
    ForB g tb D σ (Ite K a) H := by
  refine ⟨fun i m σ H => m = xs.length - i ∧ i ≤ xs.length ∧ Pv i σ H, ⟨xs.length, by simp, Nat.zero_le _, h0⟩, ?_⟩
  rintro i m σ H ⟨rfl, hi, p⟩
  have q := hl i σ H hi p
  by_cases hlt : i < xs.length
  · refine .inr ⟨⟨xs, xs[i], q, by simp [hlt]⟩, Pv (i + 1), fun σ' H' p' => ⟨xs.length - (i + 1), by omega, rfl, hlt, p'⟩, fun x H' y => ?_⟩
    obtain ⟨T, x', rfl, hT, rfl, f1⟩ := y
    exact hs i x' T σ H (f1 xs q) p hT
  · have e : i = xs.length := by omega
    subst e
    exact .inl ⟨⟨xs, q, Nat.le_refl _⟩, hd σ H p⟩
theorem f_zip {b : Addr} (xs ys : List V) (hl : xs.length = ys.length) (Pv : Nat → L2.St → Hp → Prop) (h0 : Pv 0 σ H) (hq : ∀ i σ H, Pv i σ H → SqL K H a xs ∧ SqL K H b ys)
    (hs : ∀ (i : Nat) (x y : V) (T : Addr) (σ : L2.St) (H : Hp), xs[i]? = some x → ys[i]? = some y → Pv i σ H → H T = none → g (.ref T) σ (upd H T (.tup [x, y])) fun σ2 H2 => tb { D with nx := Pv (i + 1), ct := Pv (i + 1), bk := D.nx } σ2 H2) (hd : ∀ σ H, Pv xs.length σ H → D.nx σ H) :
    ForB g tb D σ (Itz K a b) H := by
  refine ⟨fun i m σ H => m = xs.length - i ∧ i ≤ xs.length ∧ Pv i σ H, ⟨xs.length, rfl, Nat.zero_le _, h0⟩, ?_⟩
  rintro i m σ H ⟨rfl, hi, p⟩
  obtain ⟨qx, qy⟩ := hq i σ H p
  by_cases hlt : i < xs.length
  · have hx : xs[i]? = some xs[i] := List.getElem?_eq_getElem hlt
    have hlt2 : i < ys.length := by omega
    have hy : ys[i]? = some ys[i] := List.getElem?_eq_getElem hlt2
    refine .inr ⟨⟨xs, ys, _, _, qx, qy, hx, hy⟩, Pv (i + 1), fun σ' H' p' => ⟨xs.length - (i + 1), by omega, rfl, hlt, p'⟩, fun v H' y => ?_⟩
    obtain ⟨T, x', y', rfl, hT, rfl, f1, f2⟩ := y
    exact hs i x' y' T σ H (f1 xs qx) (f2 ys qy) p hT
  · have e : i = xs.length := by omega
    subst e
    exact .inl ⟨⟨xs, ys, qx, qy, Or.inl (Nat.le_refl _)⟩, hd σ H p⟩
def EnuE (K : PySem.W.Frag) (R : It → Hp → Prop) : List V → Hp → Prop := fun vs H1 => ∃ a xs, vs = [.ref a] ∧ SqL K H1 a xs ∧ R (Ite K a) H1
theorem w_enum (h : ta σ H (EnuE K R)) : iEnum K ta σ H R := h
theorem w_enumE (h : SqL K H a xs) (q : R (Ite K a) H) : EnuE K R [.ref a] H := ⟨a, xs, rfl, h, q⟩
def ZipE (K : PySem.W.Frag) (R : It → Hp → Prop) : List V → Hp → Prop := fun vs H1 => ∃ a b xs ys, vs = [.ref a, .ref b] ∧ SqL K H1 a xs ∧ SqL K H1 b ys ∧ R (Itz K a b) H1
theorem w_zip (h : ta σ H (ZipE K R)) : iZip K ta σ H R := h
theorem w_zipE {b : Addr} {ys : List V} (h : SqL K H a xs) (h2 : SqL K H b ys) (q : R (Itz K a b) H) : ZipE K R [.ref a, .ref b] H := ⟨a, b, xs, ys, rfl, h, h2, q⟩
theorem w_gTup {k : Nat} {t : TGs} {Q : L2.St → Hp → Prop} (h : SqT K H a xs) (e : xs.length = k) (q : t xs σ H Q) : gTup K k t (.ref a) σ H Q := ⟨a, xs, rfl, h, e, q⟩
theorem w_gLst {k : Nat} {t : TGs} {Q : L2.St → Hp → Prop} (h : SqL K H a xs) (e : xs.length = k) (q : t xs σ H Q) : gLst K k t (.ref a) σ H Q := ⟨a, xs, rfl, h, e, q⟩
theorem w_gNil {Q : L2.St → Hp → Prop} (q : Q σ H) : gNil [] σ H Q := ⟨rfl, q⟩
theorem w_gCons {v : V} {r : List V} {u : TGs} {Q : L2.St → Hp → Prop} (q : g v σ H fun σ' H' => u r σ' H' Q) : gCons g u (v :: r) σ H Q := ⟨v, r, rfl, q⟩
theorem l_range (Pv : Addr → Nat → Hp → Prop) (h0 : ∀ L, H L = none → Pv L 0 (upd H L (.lst []))) (hs : ∀ L i H', H L = none → i < n → Pv L i H' → g (.int (lo + i)) (wipe σ vs) H' fun σ2 H2 => wipe σ2 vs = wipe σ vs ∧ tt σ2 H2 fun b H3 => if b = true then te σ2 H3 (AppE L (Pv L (i + 1))) else Pv L (i + 1) H3)
    (hd : ∀ L H', H L = none → Pv L n H' → Q (.ref L) H') : LcB g tt te vs σ Q (Itr lo n) H := fun L hL => lc_range (Pv L) (h0 L hL) (fun i H' => hs L i H' hL) (fun H' => hd L H' hL)
theorem l_list (xs : List V) (Pv : Addr → Nat → Hp → Prop) (h0 : ∀ L, H L = none → Pv L 0 (upd H L (.lst []))) (hl : ∀ L i H', H L = none → i ≤ xs.length → Pv L i H' → SqL K H' a xs) (hs : ∀ L i x H', H L = none → xs[i]? = some x → Pv L i H' → g x (wipe σ vs) H' fun σ2 H2 => wipe σ2 vs = wipe σ vs ∧ tt σ2 H2 fun b H3 => if b = true then te σ2 H3 (AppE L (Pv L (i + 1))) else Pv L (i + 1) H3)
    (hd : ∀ L H', H L = none → Pv L xs.length H' → Q (.ref L) H') : LcB g tt te vs σ Q (Itl K a) H := fun L hL => lc_list (Pv L) (h0 L hL) (fun i H' => hl L i H' hL) (fun i x H' => hs L i x H' hL) (fun H' => hd L H' hL)
theorem w_tYes {B : Bool → Hp → Prop} (h : B true H) : tYes σ H B := h
theorem w_appE {L : Addr} {N : Hp → Prop} {ys : List V} {y : V} (h : H L = some (.lst ys)) (hz : ys.length < 16777216) (q : N (upd H L (.lst (ys ++ [y])))) : AppE L N y H := ⟨ys, h, szlt hz, q⟩
theorem w_appEI {L : Addr} {N : Hp → Prop} {ys : List Int} {m : Int} (h : H L = some (.lst (ys.map V.int))) (hz : ys.length < 16777216) (q : N (upd H L (.lst ((ys ++ [m]).map V.int)))) : AppE L N (.int m) H := ⟨_, h, by rw [List.length_map]; exact szlt hz, by rw [map_snoc]; exact q⟩
theorem w_appEB {L : Addr} {N : Hp → Prop} {ys : List Bool} {m : Bool} (h : H L = some (.lst (ys.map V.bl))) (hz : ys.length < 16777216) (q : N (upd H L (.lst ((ys ++ [m]).map V.bl)))) : AppE L N (.bl m) H := ⟨_, h, by rw [List.length_map]; exact szlt hz, by rw [show ys.map V.bl ++ [V.bl m] = (ys ++ [m]).map V.bl by simp]; exact q⟩
/-- [f n for n in ints], the element leaving all as it is: target in slot j -/
theorem l_map (ns : List Int) (f : Int → Int) {j : Nat} (hx : SqL K H a (ns.map V.int)) (hj : ∀ v, wipe ((wipe σ vs).set j (some v)) vs = wipe σ vs) (hz : ns.length ≤ 16777216)
    (he : ∀ (i : Nat) (n : Int) (H' : Hp), ns[i]? = some n → Fr [] H H' → ∀ Q : VK, (∀ H2, Fr [] H' H2 → Q (.int (f n)) H2) → te ((wipe σ vs).set j (some (.int n))) H' Q)
    (k : ∀ L H', H L = none → Fr [] H H' → H' L = some (.lst ((ns.map f).map V.int)) → Q (.ref L) H') : LcB (gName j) tYes te vs σ Q (Itl K a) H := by
  refine l_list (ns.map V.int) (fun L i H' => Fr [] H H' ∧ H' L = some (.lst (((ns.take i).map f).map V.int))) (fun L hL => ⟨Fr.refl.new hL, upd_same⟩) (fun L i H' hL _ h => h.1.seqL (by simp) hx) (fun L i x H' hL e h => ?_) (fun L H' hL h => ?_)
  · obtain ⟨n, en, rfl⟩ := map_at e
    obtain ⟨h1, h2⟩ := h
    refine w_gname ⟨hj _, w_tYes (w_iteT ?_)⟩
    refine he i n H' en h1 _ fun H2 f2 => ⟨_, f2.at0 h2, ?_, ((h1.trans f2).put (.inl hL)), ?_⟩
    · rw [List.length_map, List.length_map, List.length_take]
      have q := (List.getElem?_eq_some_iff.mp en).1
      exact szlt (by omega)
    · rw [upd_same]
      have q := List.take_succ (l := ns) (i := i)
      rw [en] at q
      rw [q]
      simp
  · have e : ns.take (ns.map V.int).length = ns := by rw [List.length_map]; exact List.take_length ..
    obtain ⟨h1, h2⟩ := h
    rw [e] at h2
    exact k L H' hL h1 h2
end

/-- calls by keywords -/
def KwE (n : Nat) (ix : List Nat) (sp : Sp) (Q : VK) : List V → Hp → Prop := fun zs H => zs.length = n ∧ sp (pick ix zs) H Q E0
def MkE (C : Addr) (n : Nat) (ix : List Nat) (sp : Sp) (Q : VK) : List V → Hp → Prop := fun zs H2 => ([] : List V).length = 0 ∧ zs.length = n ∧ ∀ x dx, H2 x = none → H2 dx = none → dx ≠ x →
  sp ([.ref x] ++ pick ix zs) (upd (upd H2 dx (.own x)) x (.ins C dx [])) (fun v H3 => v = .non ∧ Q (.ref x) H3) E0
def MkwE (n : Nat) (ix : List Nat) (sp : Sp) (Q : VK) (x : V) : List V → Hp → Prop := fun zs H => zs.length = n ∧ sp (x :: pick ix zs) H Q E0
def MethKE (C : Addr) (m : Str) (n : Nat) (ix : List Nat) (sp : Sp) (tk : TA) (σ : L2.St) (Q : VK) : V → Hp → Prop := fun x H1 => ∃ a dx fs, x = .ref a ∧ H1 a = some (.ins C dx fs) ∧ fs.lookup m = none ∧ tk σ H1 (MkwE n ix sp Q x)
section
variable {σ : L2.St} {H : Hp} {n : Nat} {ix : List Nat} {sp : Sp} {Q : VK} {tk : TA} {ta : TE} {zs : List V} {C a dx : Addr} {m : Str} {fs : List (Str × V)} {x : V}
theorem w_callK0 (h : tk σ H (KwE n ix sp Q)) : tCallK0 n ix sp tk σ H Q := h
theorem w_kwE (e : zs.length = n) (q : sp (pick ix zs) H Q E0) : KwE n ix sp Q zs H := ⟨e, q⟩
theorem w_makeK (h : tk σ H (MkE C n ix sp Q)) : tMakeK C 0 n sp (fun vs zs => vs ++ pick ix zs) E0 tNil tk σ H Q := h
theorem w_mkE (e : zs.length = n) (q : ∀ x dx, H x = none → H dx = none → dx ≠ x → sp ([.ref x] ++ pick ix zs) (upd (upd H dx (.own x)) x (.ins C dx [])) (fun v H3 => v = .non ∧ Q (.ref x) H3) E0) : MkE C n ix sp Q zs H := ⟨rfl, e, q⟩
theorem w_methK (h : ta σ H (MethKE C m n ix sp tk σ Q)) : tMethK0 C m n ix sp ta tk σ H Q := h
theorem w_methKE (h : H a = some (.ins C dx fs)) (e : fs.lookup m = none) (q : tk σ H (MkwE n ix sp Q (.ref a))) : MethKE C m n ix sp tk σ Q (.ref a) H := ⟨a, dx, fs, rfl, h, e, q⟩
theorem w_mkwE (e : zs.length = n) (q : sp (x :: pick ix zs) H Q E0) : MkwE n ix sp Q x zs H := ⟨e, q⟩
end
def LenSE (K : PySem.W.Frag) (Q : VK) : V → Hp → Prop := fun x H1 => ∃ (l : Addr) (ns : List Int), x = .ref l ∧ SqL K H1 l (ns.map V.int) ∧ ns.length ≤ 4000 ∧ Q (.int ((distinct ns).length : Nat)) H1
section
variable {K : PySem.W.Frag} {σ : L2.St} {H : Hp} {ta : TE} {Q : VK} {a : Addr} {ns : List Int} {b : Bool}
theorem w_lenSet (h : ta σ H (LenSE K Q)) : tLenSetJ K ta σ H Q := h
theorem w_lenSE (h : SqL K H a (ns.map V.int)) (hl : ns.length ≤ 4000) (q : Q (.int ((distinct ns).length : Nat)) H) : LenSE K Q (.ref a) H := ⟨a, ns, rfl, h, hl, q⟩
/-- isinstance by built-in classes -/
theorem w_isi {x : V} {n : String} {t : Value} (h : TyX K H x t) (e : PySem.W.kitOne K t (.type n) = some b) (q : Q (.bl b) H) : rIsi K [x, .ty n] H Q := ⟨x, .ty n, t, .type n, b, rfl, .ty n, h, e, q⟩
theorem tyx_lst {xs : List V} (h : H a = some (.lst xs)) : TyX K H (.ref a) (.type "list") := .base (.lst h)
theorem tyx_tup {xs : List V} (h : H a = some (.tup xs)) : TyX K H (.ref a) (.type "tuple") := .base (.tup h)
def SrtKE (K : PySem.W.Frag) (b : Bool) (Q : VK) : List V → List V → Hp → Prop := fun vs zs H => rSortedKw K b [.bl b] vs zs H Q
theorem w_sortKw {t tk : TA} {r : List V → List V → Hp → VK → Prop} (h : t σ H fun vs H1 => tk σ H1 fun zs H2 => r vs zs H2 Q) : tCKw r t tk σ H Q := h
theorem w_sortedKw (h : SqL K H a (ns.map V.int)) (q : ∀ (ns' : List Int) (p : Addr), ns'.Perm ns → OrdB b ns' → H p = none → Q (.ref p) (upd H p (.lst (ns'.map V.int)))) : rSortedKw K b [.bl b] [.ref a] [.bl b] H Q := ⟨a, ns, rfl, rfl, h, q⟩
theorem w_sortedI (h : SqL K H a (ns.map V.int)) (q : ∀ (ns' : List Int) (p : Addr), ns'.Perm ns → ns'.Pairwise (· ≤ ·) → H p = none → Q (.ref p) (upd H p (.lst (ns'.map V.int)))) : rSortedI K [.ref a] H Q := ⟨a, ns, rfl, h, q⟩
theorem w_extendI {q : Addr} {ms : List Int} (h1 : H a = some (.lst (ns.map V.int))) (h2 : H q = some (.lst (ms.map V.int))) (hz : ns.length + ms.length ≤ 16777216) (k : Q .non (upd H a (.lst ((ns ++ ms).map V.int)))) : rExtend (.ref a) [.ref q] H Q :=
  ⟨a, q, _, _, rfl, rfl, h1, h2, szle' (by rw [List.length_map, List.length_map]; exact hz), by rw [← List.map_append]; exact k⟩
/-- [m] * k -/
theorem w_rep1 {k m : Int} (h : H a = some (.lst [.int m])) (k1 : -(2 ^ 63) ≤ k) (k2 : k ≤ 16777216) (q : ∀ r, H r = none → Q (.ref r) (upd H r (.lst ((List.replicate k.toNat m).map V.int)))) : rRep (.ref a) (.int k) H Q := by
  refine ⟨a, k, _, rfl, rfl, h, k1, Int.lt_of_le_of_lt k2 (by decide), szle' (by simp; omega), fun r hr => ?_⟩
  have e : (List.replicate k.toNat [V.int m]).flatten = (List.replicate k.toNat m).map V.int := by
    rw [List.map_replicate]
    generalize k.toNat = j
    induction j with
    | zero => rfl
    | succ j ih => rw [List.replicate_succ, List.flatten_cons, ih, List.replicate_succ]; rfl
  rw [e]
  exact q r hr
end
section
variable {σ : L2.St} {H : Hp} {c : TT} {tb : TS} {D : Ends}
def WhT (W : Nat → L2.St → Hp → Prop) (m : Nat) (tb : TS) (D : Ends) (σ : L2.St) (H1 : Hp) : Prop := ∃ N : L2.St → Hp → Prop, (∀ σ' H', N σ' H' → ∃ m', m' < m ∧ W m' σ' H') ∧ tb { D with nx := N, ct := N, bk := D.nx } σ H1
theorem w_while (W : Nat → L2.St → Hp → Prop) (m0 : Nat) (h0 : W m0 σ H) (hs : ∀ m σ H, W m σ H → c σ H fun b H1 => if b = true then WhT W m tb D σ H1 else D.nx σ H1) : tWhile c tb D σ H := ⟨W, ⟨m0, h0⟩, hs⟩
theorem w_whT {W : Nat → L2.St → Hp → Prop} {m : Nat} (q : tb { D with nx := fun σ' H' => ∃ m', m' < m ∧ W m' σ' H', ct := fun σ' H' => ∃ m', m' < m ∧ W m' σ' H', bk := D.nx } σ H) : WhT W m tb D σ H := ⟨_, fun _ _ h => h, q⟩
end
/-! ### joins, dicts -/
section
variable {K : PySem.W.Frag} {σ : L2.St} {H : Hp} {D : Ends} {c : TT} {t1 t2 : TS} {td ty tv ta tb te : TE} {Q : VK} {a g : Addr} {kvs kvs' : List (Key × V)} {k : Str} {v x y : V} {R : Hp → Prop} {S S' : List Addr} {H1 H2 : Hp}
/-- one continuation for both branches: I holds at their ends -/
theorem w_ifJ (I : L2.St → Hp → Prop) (h : ∀ N : L2.St → Hp → Prop, (∀ σ H, I σ H → N σ H) → tIfS c t1 t2 { D with nx := N } σ H) (k : ∀ σ H, I σ H → D.nx σ H) : tIfS c t1 t2 D σ H := h D.nx k
def DGE (x : V) (Q : VK) : V → Hp → Prop := fun y H2 => ∃ a v, x = .ref a ∧ DGet H2 a y (some v) ∧ Q v H2
theorem w_dget (h : td σ H fun x H1 => ty σ H1 (DGE x Q)) : tDGet td ty σ H Q := h
theorem w_dgetE (h : H a = some (.dK kvs)) (e : valV kvs (.inr k) = some v) (q : Q v H) : DGE (.ref a) Q (.str k) H := ⟨a, v, rfl, by rw [← e]; exact DGet.k (k := .inr k) h, q⟩
def DPE (x : V) (v : V) (R : Hp → Prop) : V → Hp → Prop := fun y H3 => ∃ a H4, x = .ref a ∧ DPut H3 a y v H4 ∧ R H4
theorem w_dput (h : tv σ H fun v H1 => td σ H1 fun x H2 => ty σ H2 (DPE x v (D.nx σ))) : sDPut td ty tv D σ H := h
theorem w_dputE (h : H a = some (.dK kvs)) (hl : kvs.length < 16777216) (e : putK kvs (.inr k) v = kvs') (q : R (upd H a (.dK kvs'))) : DPE (.ref a) v R (.str k) H := ⟨a, _, rfl, DPut.k (k := .inr k) h (szlt hl), by rw [e]; exact q⟩
def DAE (tv : TE) (rd : V → V → Hp → VK → Prop) (R : Hp → Prop) (σ : L2.St) (x : V) : V → Hp → Prop := fun y H2 => ∃ a v, x = .ref a ∧ DGet H2 a y (some v) ∧ tv σ H2 fun y2 H3 => rd v y2 H3 fun z H4 => ∃ H5, DPut H4 a y z H5 ∧ R H5
theorem w_daug {rd : V → V → Hp → VK → Prop} (h : td σ H fun x H1 => ty σ H1 (DAE tv rd (D.nx σ) σ x)) : sDAug td ty tv rd D σ H := h
theorem w_daugE {rd : V → V → Hp → VK → Prop} (h : H a = some (.dK kvs)) (e : valV kvs (.inr k) = some v) (q : tv σ H fun y2 H3 => rd v y2 H3 fun z H4 => DPE (.ref a) z R (.str k) H4) : DAE tv rd R σ (.ref a) (.str k) H := by
  refine ⟨a, v, rfl, by rw [← e]; exact DGet.k (k := .inr k) h, ?_⟩
  have e2 : (fun (y2 : V) (H3 : Hp) => rd v y2 H3 fun z H4 => DPE (.ref a) z R (.str k) H4) = fun y2 H3 => rd v y2 H3 fun z H4 => ∃ H5, DPut H4 a (.str k) z H5 ∧ R H5 := by
    funext y2 H3
    congr 1
    funext z H4
    exact propext ⟨fun ⟨b, H5, e, p, r⟩ => by cases e; exact ⟨H5, p, r⟩, fun ⟨H5, p, r⟩ => ⟨a, H5, rfl, p, r⟩⟩
  rw [← e2]
  exact q
def keysOf : List (V × V) → List (Key × V)
  | [] => []
  | (.str s, v) :: r => (.inr s, v) :: keysOf r
  | _ :: r => keysOf r
def DspE (p : Addr) (Q : VK) : List (V × V) → Hp → Prop := fun ps H2 => H2 p = some (.dK []) ∧ ∃ kvs : List (Key × V), ps = kvs.map (fun kv => (kV kv.1, kv.2)) ∧ kvs.length ≤ 15 ∧ Q (.ref p) (upd H2 p (.dK (mergeK [] kvs)))
theorem w_disp {trs : List (TE × TE)} (h : ∀ p, H p = none → tPairs trs σ (upd H p (.dK [])) (DspE p Q)) : tDisp trs σ H Q := h
theorem w_pairN {R : List (V × V) → Hp → Prop} (h : R [] H) : tPairs [] σ H R := h
theorem w_pairC {tk tv : TE} {trs : List (TE × TE)} {R : List (V × V) → Hp → Prop} (h : tk σ H fun x H1 => tv σ H1 fun y H2 => tPairs trs σ H2 fun ps H3 => R ((x, y) :: ps) H3) : tPairs ((tk, tv) :: trs) σ H R := h
theorem valV_ne {p : Key × V} {r : List (Key × V)} {k : Key} (e : ¬ p.1 = k) : valV (p :: r) k = valV r k := valV_neg e
theorem mergeK_go : ∀ (more acc : List (Key × V)), (acc.map (·.1) ++ more.map (·.1)).Nodup → mergeK acc more = acc ++ more
  | [], acc, _ => by simp [mergeK]
  | p :: r, acc, h => by
    have hp : valV acc p.1 = none := by
      cases e : valV acc p.1 with
      | none => rfl
      | some z =>
        have e2 := valV_any p.1 acc
        rw [e] at e2
        obtain ⟨q, hq, hq2⟩ := List.any_eq_true.mp (show (acc.any fun kv => decide (kv.1 = p.1)) = true from e2)
        have hq3 := of_decide_eq_true hq2
        have := (List.nodup_append.mp h).2.2 q.1 (List.mem_map.mpr ⟨q, hq, rfl⟩) p.1 (by simp)
        exact absurd hq3 this
    have e : mergeK acc (p :: r) = mergeK (putK acc p.1 p.2) r := rfl
    rw [e, putK_new _ hp, mergeK_go r (acc ++ [(p.1, p.2)]) (by simpa using h)]
    simp
theorem w_dspE {p : Addr} {ps : List (V × V)} (h : H p = some (.dK [])) (e : ps = (keysOf ps).map fun kv => (kV kv.1, kv.2)) (hl : (keysOf ps).length ≤ 15) (n : ((keysOf ps).map (·.1)).Nodup) (q : Q (.ref p) (upd H p (.dK (keysOf ps)))) : DspE p Q ps H := by
  refine ⟨h, keysOf ps, e, hl, ?_⟩
  rw [mergeK_go _ [] (by simpa using n)]
  exact q
theorem mem2a {a g : Addr} : a ∈ [a, g] := by simp
theorem mem2b {a g : Addr} : g ∈ [a, g] := by simp
theorem nn3 {b a g : Addr} (h1 : b ≠ a) (h2 : b ≠ g) : b ∉ [a, g] := by simp [h1, h2]
theorem _root_.Pg.Fr.loc2 {p q : Addr} (h : Fr S H H1) (n : H p = none) (m : H q = none) (h' : Fr [p, q] H1 H2) : Fr S H H2 := fun b o z e => by
  refine h' b o (nn3 ?_ ?_) (h b o z e)
  · intro q
    rw [q, n] at e
    cases e
  · intro q
    rw [q, m] at e
    cases e
/-! ### pop, repr, texts of ints -/
theorem w_pop0 {ns : List Int} {m : Int} (h : H a = some (.lst ((m :: ns).map V.int))) (q : Q (.int m) (upd H a (.lst (ns.map V.int)))) : rPopAt (.ref a) [.int 0] H Q := by
  refine ⟨a, _, 0, 0, .int m, rfl, rfl, h, by decide, by decide, ?_, rfl, q⟩
  simp [seqIndex?]
end
def rReprI : List V → Hp → VK → Prop := fun xs H Q => ∃ i, xs = [.int i] ∧ i.natAbs.log2 < 1920 ∧ Q (.str (toString i)) H
theorem call_reprI {X : Cx} : CallR X (.builtin "repr") rReprI := SkE.call_repr_int
theorem w_reprI {i : Int} {H : Hp} {Q : VK} (h : i.natAbs.log2 < 1920) (q : Q (.str (toString i)) H) : rReprI [.int i] H Q := ⟨i, rfl, h, q⟩
theorem log_lt {i : Int} (h : i.natAbs < 2 ^ 250) : i.natAbs.log2 < 1920 := Nat.lt_of_lt_of_le (PySem.Flt.log2_lt_of (by decide) h) (by decide)
theorem w_eqS {s t : Str} {H : Hp} {Q : VK} (q : Q (.bl (decide (s = t))) H) : rEq (.str s) (.str t) H Q := ⟨rfl, by
  have e : decide (V.str s = V.str t) = decide (s = t) := by
    by_cases z : s = t
    · subst z
      rw [decide_eq_true rfl, decide_eq_true rfl]
    · rw [decide_eq_false z, decide_eq_false fun q => z (V.str.inj q)]
  rw [e]
  exact q⟩
theorem w_neS {s t : Str} {H : Hp} {Q : VK} (q : Q (.bl (!decide (s = t))) H) : rNe (.str s) (.str t) H Q := ⟨rfl, by
  have e : decide (V.str s = V.str t) = decide (s = t) := by
    by_cases z : s = t
    · subst z
      rw [decide_eq_true rfl, decide_eq_true rfl]
    · rw [decide_eq_false z, decide_eq_false fun q => z (V.str.inj q)]
  rw [e]
  exact q⟩
/-! ### slices, counts, pops -/
def cutI (ns : List Int) (lo hi : Option Int) : List Int := (ns.drop (HT.sIx ns.length 0 lo)).take (HT.sIx ns.length ns.length hi - HT.sIx ns.length 0 lo)
theorem cutV_ints (ns : List Int) (lo hi : Option Int) : cutV (ns.map V.int) lo hi = (cutI ns lo hi).map V.int := by
  unfold cutV cutI
  rw [List.length_map, List.map_take, List.map_drop]
theorem cutI_mem {ns : List Int} {lo hi : Option Int} {x : Int} (h : x ∈ cutI ns lo hi) : x ∈ ns := List.mem_of_mem_drop (List.mem_of_mem_take h)
theorem cutI_len (ns : List Int) (lo hi : Option Int) : (cutI ns lo hi).length ≤ ns.length := by
  unfold cutI
  rw [List.length_take, List.length_drop]
  omega
theorem cutI_take (ns : List Int) (n : Nat) : cutI ns none (some (n : Int)) = ns.take n := by
  unfold cutI
  rw [HT.sIx_nat, HT.sIx_none, List.drop_zero, Nat.sub_zero]
  by_cases h : n ≤ ns.length
  · rw [Nat.min_eq_left h]
  · rw [Nat.min_eq_right (by omega), List.take_length, List.take_of_length_le (by omega)]
theorem cutI_drop (ns : List Int) (n : Nat) : cutI ns (some (n : Int)) none = ns.drop n := by
  unfold cutI
  rw [HT.sIx_nat, HT.sIx_none]
  by_cases h : n ≤ ns.length
  · rw [Nat.min_eq_left h, List.take_of_length_le (by rw [List.length_drop]; omega)]
  · rw [Nat.min_eq_right (by omega), List.drop_length, List.drop_of_length_le (by omega)]
    simp
def PartE (R : Option Int → Hp → Prop) : V → Hp → Prop := fun x H1 => ∃ i, x = .int i ∧ R (some i) H1
section
variable {K : PySem.W.Frag} {σ : L2.St} {H : Hp} {ta tb te : TE} {Q : VK} {a p : Addr} {ns ms : List Int} {xs ys : List V} {m n : Int} {v x y : V} {tl th : TO}
theorem w_sl {r : V → Option Int → Option Int → Hp → VK → Prop} (h : te σ H fun x H1 => tl σ H1 fun l H2 => th σ H2 fun u H3 => r x l u H3 Q) : tSl r te tl th σ H Q := h
theorem w_noPart {R : Option Int → Hp → Prop} (h : R none H) : tNoPart σ H R := h
theorem w_part {R : Option Int → Hp → Prop} (h : te σ H (PartE R)) : tPart te σ H R := h
theorem w_partE {R : Option Int → Hp → Prop} (h : R (some m) H) : PartE R (.int m) H := ⟨m, rfl, h⟩
theorem w_slI {lo hi : Option Int} (h : SqL K H a (ns.map V.int)) (q : ∀ p, H p = none → Q (.ref p) (upd H p (.lst ((cutI ns lo hi).map V.int)))) : rSlL K (.ref a) lo hi H Q := ⟨a, _, rfl, h, fun p hp => by rw [cutV_ints]; exact q p hp⟩
theorem w_lcount (h : SqL K H a (ns.map V.int)) (q : Q (.int (ns.count m : Nat)) H) : rCntI K (.ref a) [.int m] H Q := ⟨a, ns, m, rfl, rfl, h, q⟩
theorem w_popAt (h : H a = some (.lst (ns.map V.int))) (h0 : 0 ≤ m) (h1 : m < ns.length) (hz : ns.length ≤ 16777216) (q : ∀ n, ns[m.toNat]? = some n → Q (.int n) (upd H a (.lst ((ns.eraseIdx m.toNat).map V.int)))) : rPopAt (.ref a) [.int m] H Q := by
  obtain ⟨n, hn, e2, e3⟩ := atI_ints h0 h1
  refine ⟨a, _, m, m.toNat, .int n, rfl, rfl, h, by omega, by omega, ?_, by rw [List.getElem?_map, e3]; rfl, by rw [erase_mapI]; exact q n e3⟩
  have hneg : ¬ m < 0 := by omega
  simp only [seqIndex?, List.length_map, hneg, if_false]
  rw [if_pos]
  simp only [Bool.and_eq_true, decide_eq_true_eq]
  omega
theorem w_setLI {Q : Hp → Prop} (h : H p = some (.lst (ns.map V.int))) (h0 : 0 ≤ m) (h1 : m < ns.length) (q : Q (upd H p (.lst ((ns.set m.toNat n).map V.int)))) : rSetL (.ref p) (.int m) (.int n) H Q := by
  refine ⟨p, _, m, m.toNat, rfl, rfl, h, ?_, by rw [← List.map_set]; exact q⟩
  rw [List.length_map]
  have z : ((m.toNat : Nat) : Int) = m := Int.toNat_of_nonneg h0
  unfold ixN
  rw [if_pos h0, if_pos h1]
theorem w_catLL {q : Addr} (h1 : H p = some (.lst xs)) (h2 : H q = some (.lst ys)) (e : xs = (unV xs).map V.int) (e2 : ys = (unV ys).map V.int) (hz : (unV xs).length + (unV ys).length ≤ 16777216) (k : ∀ r, H r = none → Q (.ref r) (upd H r (.lst ((unV xs ++ unV ys).map V.int)))) : rCat (.ref p) (.ref q) H Q :=
  w_catI (by rw [← e]; exact h1) (by rw [← e2]; exact h2) hz k
theorem w_isN (q : Q (.bl (decide (x = .non))) H) : rIsN x .non H Q := ⟨rfl, q⟩
theorem w_notN (q : Q (.bl (!decide (x = .non))) H) : rNotN x .non H Q := ⟨rfl, q⟩
theorem w_isNN (q : Q (.bl true) H) : rIsN .non .non H Q := ⟨rfl, q⟩
theorem w_isNI (q : Q (.bl false) H) : rIsN (.int m) .non H Q := ⟨rfl, q⟩
theorem w_isNR (q : Q (.bl false) H) : rIsN (.ref a) .non H Q := ⟨rfl, q⟩
theorem w_notNN (q : Q (.bl false) H) : rNotN .non .non H Q := ⟨rfl, q⟩
theorem w_notNI (q : Q (.bl true) H) : rNotN (.int m) .non H Q := ⟨rfl, q⟩
theorem w_notNR (q : Q (.bl true) H) : rNotN (.ref a) .non H Q := ⟨rfl, q⟩
def OrE (K : PySem.W.Frag) (tb : TE) (σ : L2.St) (Q : VK) : V → Hp → Prop := fun x H1 => ∃ k, TruV K x H1 k ∧ if k = true then Q x H1 else tb σ H1 Q
theorem w_orT (h : ta σ H (OrE K tb σ Q)) : tOrT K ta tb σ H Q := h
theorem w_orN (h : tb σ H Q) : OrE K tb σ Q .non H := ⟨false, rfl, w_iteF h⟩
theorem w_orI (h0 : m ≠ 0) (h : Q (.int m) H) : OrE K tb σ Q (.int m) H := ⟨true, by show true = _; simp [h0], w_iteT h⟩
theorem w_appV (h : H p = some (.lst xs)) (hz : xs.length < 16777216) (q : Q .non (upd H p (.lst (xs ++ [y])))) : rAppend (.ref p) [y] H Q := w_append h (szlt hz) q
theorem w_rep3 (h : H a = some (.lst [v])) (q : ∀ r, H r = none → Q (.ref r) (upd H r (.lst [v, v, v]))) : rRep (.ref a) (.int 3) H Q :=
  ⟨a, 3, _, rfl, rfl, h, by decide, by decide, szle rfl, fun r hr => q r hr⟩
end
theorem cmulW {i j : Int} {a b : Nat} (ha : i.natAbs < 2 ^ a) (hb : j.natAbs < 2 ^ b) (h : a + b < 1000000) (ha0 : 0 < a) (hb0 : 0 < b) : CMulW i j := by
  have h1 := PySem.Flt.log2_lt_of ha0 ha
  have h2 := PySem.Flt.log2_lt_of hb0 hb
  show i.natAbs.log2 + j.natAbs.log2 < 1000000
  omega
section
variable {σ : L2.St} {H : Hp} {ta tb : TE} {Q : VK} {b : Bool}
theorem w_andV (h : ta σ H fun x H1 => ∃ c, x = .bl c ∧ if c = true then tb σ H1 Q else Q (.bl false) H1) : tAndV ta tb σ H Q := h
theorem w_orV (h : ta σ H fun x H1 => ∃ c, x = .bl c ∧ if c = true then Q (.bl true) H1 else tb σ H1 Q) : tOrV ta tb σ H Q := h
theorem w_notV (h : ta σ H fun x H1 => ∃ c, x = .bl c ∧ Q (.bl (!c)) H1) : tNotV ta σ H Q := h
end
/-! ### range(i, j, -1), slices with a step -/
def Rng3E (R : It → Hp → Prop) : List V → Hp → Prop := fun vs H1 => ∃ (i j c : Int) (n : Nat), vs = [.int i, .int j, .int c] ∧ RgC i j c n ∧ R (Itc i c n) H1
section
variable {K : PySem.W.Frag} {σ : L2.St} {H : Hp} {D : Ends} {ta : TA} {R : It → Hp → Prop} {g : TG} {tb : TS} {te : TE} {tl ts : TO} {Q : VK} {a : Addr} {ns : List Int} {n : Nat} {i c : Int} {lo st : Option Int} {x : V}
theorem w_rng3 (h : ta σ H (Rng3E R)) : iRng3 ta σ H R := h
theorem f_rangeC (Pv : Nat → L2.St → Hp → Prop) (h0 : Pv 0 σ H) (hs : ∀ k σ H, k < n → Pv k σ H → g (.int (i + (k : Nat) * c)) σ H fun σ2 H2 => tb { D with nx := Pv (k + 1), ct := Pv (k + 1), bk := D.nx } σ2 H2) (hd : ∀ σ H, Pv n σ H → D.nx σ H) :
    ForB g tb D σ (Itc i c n) H := for_rangeC Pv h0 hs hd
def SlsE (K : PySem.W.Frag) (Q : VK) (x : V) (lo : Option Int) : Option Int → Hp → Prop := fun st H3 => ∃ a xs, x = .ref a ∧ SqL K H3 a xs ∧ st ≠ some 0 ∧ (pickSl xs lo st).length ≤ sizeLine ∧ ∀ p, H3 p = none → Q (.ref p) (upd H3 p (.lst (pickSl xs lo st)))
theorem w_sls (h : te σ H fun x H1 => tl σ H1 fun lo H2 => ts σ H2 (SlsE K Q x lo)) : tSlStep K te tl ts σ H Q := h
theorem pickSl_map (ns : List Int) : pickSl (ns.map V.int) lo st = (pickSl ns lo st).map V.int := by
  unfold pickSl
  rw [List.length_map, List.map_filterMap]
  congr 1
  funext k
  rw [List.getElem?_map]
theorem w_slsE (h : SqL K H a (ns.map V.int)) (h0 : st ≠ some 0) (hz : (pickSl ns lo st).length ≤ 16777216) (q : ∀ p, H p = none → Q (.ref p) (upd H p (.lst ((pickSl ns lo st).map V.int)))) : SlsE K Q (.ref a) lo st H :=
  ⟨a, _, rfl, h, h0, by rw [pickSl_map, List.length_map]; exact szle' hz, fun p hp => by rw [pickSl_map]; exact q p hp⟩
end
theorem w_rng3N {H : Hp} {R : It → Hp → Prop} {i j : Int} (h : -(2 ^ 62) ≤ i ∧ i < 2 ^ 62 ∧ -(2 ^ 62) ≤ j ∧ j < 2 ^ 62) (q : R (Itc i (-1) (i - j).toNat) H) : Rng3E R [.int i, .int j, .int (-1)] H :=
  ⟨i, j, -1, _, rfl, RgC.neg h.1 h.2.1 h.2.2.1 h.2.2.2, q⟩
theorem w_appendR {H : Hp} {Q : VK} {p y : Addr} {ps : List Addr} (h : H p = some (.lst (ps.map V.ref))) (hz : ps.length < 16777216) (q : Q .non (upd H p (.lst ((ps ++ [y]).map V.ref)))) : rAppend (.ref p) [.ref y] H Q :=
  w_append h (by rw [List.length_map]; exact szlt hz) (by rw [show ps.map V.ref ++ [V.ref y] = (ps ++ [y]).map V.ref by simp]; exact q)
section
variable {K : PySem.W.Frag} {σ : L2.St} {H : Hp} {te : TE} {Q : VK} {a : Addr} {ns : List Int}
def RevE (K : PySem.W.Frag) (Q : VK) : V → Hp → Prop := fun x H1 => ∃ a xs, x = .ref a ∧ SqL K H1 a xs ∧ ∀ p, H1 p = none → Q (.ref p) (upd H1 p (.lst xs.reverse))
theorem w_revL (h : te σ H (RevE K Q)) : tRevL K te σ H Q := h
theorem w_revE (h : SqL K H a (ns.map V.int)) (q : ∀ p, H p = none → Q (.ref p) (upd H p (.lst (ns.reverse.map V.int)))) : RevE K Q (.ref a) H := ⟨a, _, rfl, h, fun p hp => by rw [← List.map_reverse]; exact q p hp⟩
end
theorem w_whileJ {c : TT} {tb : TS} {D : Ends} {σ : L2.St} {H : Hp} (I : L2.St → Hp → Prop) (h : ∀ N : L2.St → Hp → Prop, (∀ σ H, I σ H → N σ H) → tWhile c tb { D with nx := N } σ H) (k : ∀ σ H, I σ H → D.nx σ H) : tWhile c tb D σ H := h D.nx k
theorem w_appER {L R : Addr} {N : Hp → Prop} {rs : List Addr} {H : Hp} (h : H L = some (.lst (rs.map V.ref))) (hz : rs.length < 16777216) (q : N (upd H L (.lst ((rs ++ [R]).map V.ref)))) : AppE L N (.ref R) H := ⟨_, h, by rw [List.length_map]; exact szlt hz, by rw [show rs.map V.ref ++ [V.ref R] = (rs ++ [R]).map V.ref by simp]; exact q⟩
end Pg

namespace Pg
open PySem PySem.Spec PyProof.Rows L2
/-! ### defs that are run where no repr is under way -/
structure FnG (P : Program) (w : World) (K : PySem.W.Frag) (mg : Str → Option Value) (base : Heap) (k : Nat) (f : Addr) (fd : FuncData) (ps : List Str) (sp : Sp) : Prop where
  len : ∀ vs H Q E, sp vs H Q E → vs.length = ps.length
  run : ∀ (A : Around) (outer : List Env) (s : Shared) (H : Hp) (args : Args) (us : List Value) (vs : List V) (Q : VK) (E : XK), Room k A → A.guards = some [] → Env0 P w K mg base A outer s H →
    BindsTo s fd args (ps.zip us) → Vals vs us → sp vs H Q E → codeAny (model P w) A (.call (.ref f) args) (CR CX0 outer P w H s Q E) s
structure GefAt (P : Program) (w : World) (K : PySem.W.Frag) (mg : Str → Option Value) (base : Heap) (x : Str) (st : Stmt) (k : Nat) (ps : List Str) (sp : Sp) : Prop where
  ex : ∃ f fd, mg x = some (.ref f) ∧ Fun K x x st f fd ∧ FnG P w K mg base k f fd ps sp ∧ Binds K fd ps []
section
variable {P : Program} {w : World} {K : PySem.W.Frag} {mg : Str → Option Value} {base : Heap} {x : Str} {st : Stmt} {k : Nat} {ps N : List Str} {sp : Sp}
theorem CE.of_inv {qual : Str} {scope : Scope} {f : Addr} {cd : Value} {A : Around} {outer : List Env} {s s' : Shared} {H H' : Hp} {E : XK} {σ : L2.St} {v : V} {u : Value} {Q : VK}
    (J : Inv (cxOf CX0 P w K mg base N qual scope f cd A outer s H E) [] σ H' s') (r : RelV v u) (q : Q v H') : CE outer P w H s Q u s' := ⟨v, H', J.os, J.bare, J.base, J.hok, r, q⟩
/-- a def by its body, which may look at what is under way -/
theorem FunAt.okG (F : FunAt K mg x st) (S : FnScope N ps (defScope st)) (len : ∀ vs H Q E, sp vs H Q E → vs.length = ps.length)
    (hb : ∀ (kV doc pm : Value) (an : Option Addr) (cdv ct : Value) (us : List Value), us.length = ps.length → bindArgs (PySem.W.fnOf x x (defArgs st) (defBody st) (defScope st) .none kV doc pm an cdv ct) ⟨us, []⟩ = pure (ps.zip us))
    (hbody : ∀ (f : Addr) (cdv : Value) (A : Around) (outer : List Env) (s : Shared) (H : Hp) (vs : List V) (Q : VK) (E : XK), Room k (A.deeper (envOfC x (defScope st) s.heap.objs.size f cdv)) → (A.deeper (envOfC x (defScope st) s.heap.objs.size f cdv)).guards = some [] → sp vs H Q E →
      ∃ t, PSs (cxOf CX0 P w K mg base N x (defScope st) f cdv A outer s H E).nox (defBody st) t ∧ t { nx := fun _ H' => Q .non H', rt := Q } (start N vs) H) : GefAt P w K mg base x st (k + 1) ps sp := by
  obtain ⟨f, fd, hm, F⟩ := F.ex
  refine ⟨f, fd, hm, F, ⟨len, ?_⟩, F.binds hb⟩
  obtain ⟨oc, od, kV, doc, pm, an, cdv, ct, osl, rfl, lk, hcd⟩ := F.ex
  intro A outer s H args us vs Q E hr hg e0 bt rv hsp
  have there : ∀ b o, base.get? b = some o → s.heap.get? b = some o := fun b o e => (e0.bs b o e).1
  have hK := e0.mod.kin.keeps there
  have hlim := e0.mod.nolimit.keeps there
  have kinds : ∀ y ∈ ps.zip us, (defScope st).names.lookup y.1 = some .local ∨ ((defScope st).names.lookup y.1 = some .cell ∧ ((cellsFrom (s.heap.objs.size + 1) (defScope st).names []).lookup y.1).isSome = true) := by
    rintro ⟨n, v⟩ hy
    cases S.par n (List.of_mem_zip hy).1 with
    | inl q => exact .inl q
    | inr q => exact .inr ⟨q, PySem.W.cellsFrom_some _ _ _ (.inl q)⟩
  obtain ⟨t, ht, hq⟩ := hbody f cdv A outer s H vs Q E (hr.deeper _) hg hsp
  have ht := ht.nox
  apply codeAny_call_function hr.depth (hK _ _ lk) rfl S.co S.gen rfl (PySem.W.codeRec_of hK hcd)
  apply bt
  apply wpAny_newFunctionEnv_cells S.kind kinds
  rintro env rfl s1 ic
  refine ⟨hlim.keeps ic.toInCall.keep, codeAny_func ?_⟩
  have I := inv_start (CX := CX0) (P := P) (w := w) (K := K) (mg := mg) (base := base) (E := E) S hr.hd e0 (len _ _ _ _ hsp) rv ic
  refine wpAny_mono (ht.run [] s1 (start N vs) H _ I hq) ?_ (fun _ _ z => z)
  intro fl s' hs
  match fl, hs with
  | .ret u, ⟨v, σ', H', J, r, q⟩ => exact CE.of_inv J r q
  | .next, ⟨σ', H', J, q⟩ => exact CE.of_inv (v := V.non) (u := Value.none) J rfl q
  | .brk, ⟨_, _, _, q⟩ => exact q.elim
  | .cont, ⟨_, _, _, q⟩ => exact q.elim
end
section
variable {X : Cx} {x : Str} {st : Stmt} {k : Nat} {ps : List Str} {sp : Sp} {e : Expr} {es : List Expr} {t : TA} {p pos : Pos}
theorem pe_callG (D : GefAt X.prog X.w X.K X.mg X.base x st k ps sp) (hr : Room k X.A) (gu : X.A.guards = some []) (ha : PA X (e :: es) t) (hg : Gl X x := by rfl)
    (hdb : (x == ("__debug__" : Str)) = false := by decide) (he : starEach (e :: es) X.env = (false, eval e X.env) :: starEach es X.env := by rfl) (hpl : (backTo pos (starEach es X.env)).any (·.1) = false := by rfl) :
    PE X (.Call (.Name x p) (e :: es) [] pos) (tCall sp [] E0 t) := by
  obtain ⟨f, fd, hm, F, G, b⟩ := D.ex
  constructor
  intro pins s σ H Q I h
  apply wpAny_Call_Name_kw (ld_glob I hg hm ?_ hdb)
  apply PySem.W.callWith_K (h₀ := X.base) I.ok.mod.kin F.kp ?_ he hpl
  refine thn (ha.run pos pins s σ H _ I h) ?_
  rintro us s1 ⟨vs, H1, I1, r, q⟩
  refine ⟨I1.kIn, wpAny_call (codeAny_mono (G.run X.A X.stack s1 H1 ⟨us, []⟩ (us ++ []) (vs ++ []) Q E0 hr gu I1.env0 (b s1 us I1.kIn ?_) (r.append .nil) q) ?_)⟩
  · rw [← (r.append (Paired.nil : Vals [] [])).length]
    exact G.len _ _ _ _ q
  · intro rr s' hq
    match rr, hq with
    | .error e, hq => exact (pass0 (X := X) pins σ H1 s1 e s' I1 hq)
    | .ok (.ret u), hq => exact I1.after hq
    | .ok .next, hq => exact hq.elim
    | .ok .brk, hq => exact hq.elim
    | .ok .cont, hq => exact hq.elim
end
/-! ### repr of data -/
def rReprD (K : PySem.W.Frag) : List V → Hp → VK → Prop := fun xs H Q => ∃ (a : Addr) (d : PyData), xs = [.ref a] ∧ Dp K H (.ref a) d ∧ d.showable = true ∧ SeqAt.shaped d = true ∧ d.shown.length ≤ sizeLine ∧ Q (.str d.shown) H
theorem call_reprD {X : Cx} (hg : X.A.guards = some []) (hu : X.A.units + 100 < cLine) : CallR X (.builtin "repr") (rReprD X.K) := by
  intro pins s σ H xs us Q I r h
  obtain ⟨a, d, rfl, hd, hs, hsh, hz, q⟩ := h
  obtain ⟨u, rfl, ru⟩ := vals1 r
  obtain ⟨as, r1⟩ := Dp.reads I d _ u hd ru
  cases ru
  have hsh' : (PyData.canLay0 d && decide (PyData.depth d ≤ 64)) = true := hsh
  obtain ⟨c1, c2⟩ := Bool.and_eq_true_iff.mp hsh'
  have c3 := of_decide_eq_true c2
  refine repr_of_reads' r1 hs (PyData.noDict_hsm (PyData.hasDict_of_canLay d c1)) hg (by omega) (fun _ _ e => e) (fun h' u tk hk => ?_) hz
  exact ⟨.str _, H, I.kept (t' := tk) fun b o e => hk b o e, ⟨_, rfl⟩, q⟩
theorem gu_of {k : Nat} {A : Around} (r : Room k A) : A.units + 100 < cLine := by have := r.un; omega
/-! ### the end -/
def scr (K : PySem.W.Frag) (a : Addr) (ob : Obj) (xs : List V) : Hp := fun b => if b = a ∧ K.lookup a = none then some (.frz ob (.lst xs)) else none
theorem scr_cases (K : PySem.W.Frag) (a : Addr) (ob : Obj) (xs : List V) (b : Addr) : scr K a ob xs b = none ∨ (b = a ∧ K.lookup a = none ∧ scr K a ob xs b = some (.frz ob (.lst xs))) := by
  by_cases h : b = a ∧ K.lookup a = none
  · exact .inr ⟨h.1, h.2, if_pos h⟩
  · exact .inl (if_neg h)
theorem law_callG {P : Program} {w : World} {K : PySem.W.Frag} {mg mb : Str → Option Value} {k : Nat} {fa a : Addr} {fd : FuncData} {x : Str} {sp : Sp} {s₁ : Shared} {vs : List Value} {ns : List Int}
    (KX : K.In s₁.heap) (hns : s₁.heap.Ns mainGlobals mg) (hb : s₁.heap.Ns builtinsNs mb) (hbb : ∀ x : Str, x ≠ "__name__" → mb x = bootBuiltins x) (hlim : s₁.heap.NoLimit) (hg : s₁.gens = #[])
    (ha : s₁.heap.get? a = some { cls := .type "list", data := .seq vs.toArray }) (hi : IntsAre vs ns) (hl : ns.length ≤ sizeLine) (hr : Room k callerA)
    (F : ∀ base : Heap, K.In base → base.Ns mainGlobals mg → FnG P w K mg base k fa fd [x] sp) (hbind : ∀ (s : Shared) (u : Value), BindsTo s fd ⟨[u], []⟩ [(x, u)])
    (hsp : ∀ H : Hp, SqL K H a (ns.map V.int) → sp [.ref a] H (fun v _ => v = .bl true) fun _ _ _ => False) :
    codeAny (model P w) callerA (.call (.ref fa) ⟨[.ref a], []⟩) (fun r s' => r = .ok (.ret (.bool true)) ∧ OldK s₁.heap s'.heap ∧ s'.os = s₁.os ∧ AllBare s'.gens) s₁ := by
  have rv := vals_ints hi
  let ob : Obj := { cls := .type "list", data := .seq vs.toArray }
  let H : Hp := scr K a ob (ns.map V.int)
  have cs := scr_cases K a ob (ns.map V.int)
  have hok : HOk P w H s₁.heap := by
    intro b u z
    rcases cs b with q | ⟨rfl, _, q⟩
    · rw [show H b = none from q] at z
      cases z
    · rw [show H b = _ from q] at z
      cases z
      exact ⟨ha, by rw [List.length_map]; exact hl, vs, _, rv, ha⟩
  have hS : SqL K H a (ns.map V.int) := by
    cases hk : K.lookup a with
    | none => exact .inl (.inr ⟨ob, if_pos ⟨rfl, hk⟩⟩)
    | some o =>
      have e := (KX a o hk).symm.trans ha
      cases e
      exact .inr ⟨_, vs.toArray, _, hk, rfl, rfl, rfl, by rw [List.size_toArray, hi.length]; exact hl, by simpa using rv⟩
  have free : ∀ {b : Addr} {o : Obj}, s₁.heap.get? b = some o → (∀ q n, o.data ≠ .seq q n) → H b = none := by
    intro b o e n
    rcases cs b with q | ⟨rfl, _, _⟩
    · exact q
    · rw [ha] at e
      cases e
      exact absurd rfl (n _ _)
  have nsB : ∀ {b : Addr} {m : Str → Option Value}, s₁.heap.Ns b m → (hidT s₁.heap H).Ns b m := by
    rintro b m ⟨o, es, ep, e, d, r⟩
    exact ⟨o, es, ep, hidT_get e (free e fun q n z => by rw [d] at z; cases z), d, r⟩
  have kB : K.In (hidT s₁.heap H) := by
    intro b o e
    refine hidT_get (KX b o e) ?_
    rcases cs b with q | ⟨rfl, z, _⟩
    · exact q
    · rw [z] at e
      cases e
  obtain ⟨mc, l1, l2⟩ := hlim
  have e0 : Env0 P w K mg (hidT s₁.heap H) callerA [] s₁ H :=
    { frames := rfl, mod := ⟨kB, nsB hns, ⟨mb, nsB hb, hbb⟩, ⟨mc, nsB l1, l2⟩⟩, bs := fun b o e => of_hidT e, bsz := Nat.le_of_eq (hidT_size _ _), funs := trivial, frf := (fun b z => by cases z), hok := hok, bare := .of_eq hg }
  refine codeAny_mono ((F _ kB (nsB hns)).run callerA [] s₁ H ⟨[.ref a], []⟩ [.ref a] [.ref a] _ _ hr rfl e0 (hbind s₁ (.ref a)) (.cons rfl .nil) (hsp H hS)) ?_
  intro r s' h
  match r, h with
  | .error e, h => exact (show False from h).elim
  | .ok .next, h => exact h.elim
  | .ok .brk, h => exact h.elim
  | .ok .cont, h => exact h.elim
  | .ok (.ret u), ⟨v, H', os, bare, un, hok', r', q⟩ =>
    have q : v = .bl true := q
    subst q
    have r' : u = Value.bool true := r'
    subst r'
    refine ⟨rfl, OldK.of_keep ?_, os, bare⟩
    intro b o e
    rcases cs b with q | ⟨rfl, z, q⟩
    · exact un.keep b o e q (fun z => by cases z) (by simp)
    · obtain ⟨e2, _⟩ := hok' b _ (un.frzs b ob _ q)
      rw [ha] at e
      cases e
      exact e2
theorem walk_G {l : PySem.W.OpenLaw} {n k : Nat} {q : Program} {loose : List Str} {XP : (Str → Option Value) → Heap → Prop} {YP : World → Heap → Prop} {d : DefRec} {K : Params → PySem.W.Frag} {x : Str} {sp : World → Sp}
    (hn : l.most = some n) (hn2 : n ≤ sizeLine) (hdf : d.params.defaults = []) (hr : Room k callerA) (hY : ∀ (w : World) (h : Heap), YP w h → (K w.params).In h)
    (F : ∀ (w : World) (mg : Str → Option Value) (fa : Addr) (h : Heap), (K w.params).In h → h.Ns mainGlobals mg → mg d.name = some (.ref fa) →
      ∃ fd : FuncData, (∀ (s : Shared) (u : Value), BindsTo s fd ⟨[u], []⟩ [(x, u)]) ∧ ∀ base : Heap, (K w.params).In base → base.Ns mainGlobals mg → FnG l.prog w (K w.params) mg base k fa fd [x] (sp w))
    (hsp : ∀ (w : World) (H : Hp) (a : Addr) (ns : List Int), ns.length ≤ n → (∀ z ∈ ns, Builtin.Int.intBits z ≤ 1048576) → SqL (K w.params) H a (ns.map V.int) → sp w [.ref a] H (fun v _ => v = .bl true) fun _ _ _ => False) :
    PySem.W.WalkO q loose XP YP l.row.toRowW d [] (fun f vs => PySem.call f vs) := by
  refine Att.attach_callB hn hdf ?_
  intro w s₀ s₁ mg mb fa o pm cd doc a vs ns G Y ho hd hcd hmg hobj hints hlen hbits hg
  obtain ⟨fd, hb, hF⟩ := F w mg fa _ (hY w _ Y) G.T.g hmg
  exact law_callG (hY w _ Y) G.T.g G.T.b G.T.builtins G.T.nolimit hg hobj hints (Nat.le_trans hlen hn2) hr hF hb (fun H hS => hsp w H a ns hlen hbits hS)
/-! ### data that can be shown -/
structure Fine (d : PyData) : Prop where
  s : d.showable = true
  p : SeqAt.shaped d = true
  l : d.leavesShort 50 = true
  b : d.bulk ≤ 100000
theorem w_reprD {K : PySem.W.Frag} {H : Hp} {Q : VK} {a : Addr} {d : PyData} (h : Dp K H (.ref a) d) (f : Fine d) (q : Q (.str d.shown) H) : rReprD K [.ref a] H Q := by
  refine ⟨a, d, rfl, h, f.s, f.p, ?_, q⟩
  have h1 := PyData.shown_le_bulk 50 (by decide) d f.l
  have h2 := f.b
  rw [sizeLine_eq]
  omega
theorem showable_int {i : Int} (h : i.natAbs < 10 ^ 40) : (PyData.int i).showable = true := by
  have := log_lt (i := i) (Nat.lt_of_lt_of_le h (by decide))
  simp only [PyData.showable, this, decide_true]
theorem short_int {i : Int} (h : i.natAbs < 10 ^ 40) : (PyData.int i).leavesShort 50 = true := by
  have e := int_text_length_le10 (k := 40) (by decide) h
  have e2 : (PyData.shown (.int i)).length = (toString i).length := by
    simp only [PyData.shown]
    exact PySem.ofString_length (toString i)
  simp only [PyData.leavesShort, e2]
  exact decide_eq_true (by omega)
theorem showable_ints : ∀ {ns : List Int}, (∀ x ∈ ns, x.natAbs < 10 ^ 40) → PyData.showableAll (ns.map PyData.int) = true
  | [], _ => rfl
  | n :: ns, h => by
    have ih := showable_ints (ns := ns) fun x hx => h x (List.mem_cons_of_mem _ hx)
    have h1 := showable_int (h n List.mem_cons_self)
    simp only [List.map_cons, PyData.showableAll, ih, h1, Bool.and_self]
theorem short_ints : ∀ {ns : List Int}, (∀ x ∈ ns, x.natAbs < 10 ^ 40) → PyData.leavesShortAll 50 (ns.map PyData.int) = true
  | [], _ => rfl
  | n :: ns, h => by
    have ih := short_ints (ns := ns) fun x hx => h x (List.mem_cons_of_mem _ hx)
    have h1 := short_int (h n List.mem_cons_self)
    simp only [List.map_cons, PyData.leavesShortAll, ih, h1, Bool.and_self]
theorem bulk_ints : ∀ ns : List Int, PyData.bulkAll (ns.map PyData.int) = ns.length
  | [] => rfl
  | n :: ns => by
    have ih := bulk_ints ns
    simp only [List.map_cons, PyData.bulkAll, PyData.bulk, ih, List.length_cons]
    omega
def dI (ns : List Int) : PyData := .list (ns.map PyData.int)
theorem fine_ints {ns : List Int} (h : ∀ x ∈ ns, x.natAbs < 10 ^ 40) (hl : ns.length ≤ 10000) : Fine (dI ns) :=
  ⟨by simp only [dI, PyData.showable]; exact showable_ints h, shaped_ints ns, by simp only [dI, PyData.leavesShort]; exact short_ints h, by simp only [dI, PyData.bulk]; rw [bulk_ints]; omega⟩
structure FineAll (ds : List PyData) : Prop where
  s : PyData.showableAll ds = true
  c : PyData.canLayAll0 ds = true
  d : PyData.depthAll ds ≤ 40
  l : PyData.leavesShortAll 50 ds = true
theorem FineAll.nil : FineAll [] := ⟨rfl, rfl, by simp [PyData.depthAll], rfl⟩
theorem FineAll.cons {d : PyData} {ds : List PyData} (f : d.showable = true) (c : d.canLay0 = true) (dp : d.depth ≤ 40) (l : d.leavesShort 50 = true) (r : FineAll ds) : FineAll (d :: ds) :=
  ⟨by simp only [PyData.showableAll, f, r.s, Bool.and_self], by simp only [PyData.canLayAll0, c, r.c, Bool.and_self], by have := r.d; simp only [PyData.depthAll]; omega, by simp only [PyData.leavesShortAll, l, r.l, Bool.and_self]⟩
theorem FineAll.cons_ints {ns : List Int} {ds : List PyData} (h : ∀ x ∈ ns, x.natAbs < 10 ^ 40) (r : FineAll ds) : FineAll (dI ns :: ds) :=
  .cons (by simp only [dI, PyData.showable]; exact showable_ints h) (by simp only [dI, PyData.canLay0]; exact canLay_ints ns) (by have := depth_ints ns; simp only [dI, PyData.depth]; omega) (by simp only [dI, PyData.leavesShort]; exact short_ints h) r
theorem FineAll.cons_lst {xs ds : List PyData} (f : FineAll xs) (dp : PyData.depthAll xs ≤ 30) (r : FineAll ds) : FineAll (.list xs :: ds) :=
  .cons (by simp only [PyData.showable]; exact f.s) (by simp only [PyData.canLay0]; exact f.c) (by simp only [PyData.depth]; omega) (by simp only [PyData.leavesShort]; exact f.l) r
theorem FineAll.fine {ds : List PyData} (r : FineAll ds) (b : PyData.bulkAll ds ≤ 100000) : Fine (.list ds) :=
  ⟨by simp only [PyData.showable]; exact r.s, by
    unfold SeqAt.shaped
    have h1 : PyData.canLay0 (.list ds) = true := by simp only [PyData.canLay0]; exact r.c
    have h2 : PyData.depth (.list ds) ≤ 64 := by
      have := r.d
      simp only [PyData.depth]
      omega
    rw [h1, decide_eq_true h2]
    rfl, by simp only [PyData.leavesShort]; exact r.l, by simp only [PyData.bulk]; exact b⟩
/-! ### generators -/
structure GnAt (P : Program) (w : World) (K : PySem.W.Frag) (mg : Str → Option Value) (base : Heap) (x : Str) (st : Stmt) (k : Nat) (ps : List Str) (sp : SpG) : Prop where
  ex : ∃ f fd, mg x = some (.ref f) ∧ Fun K x x st f fd ∧ GFn P w K mg base k f fd ps sp ∧ Binds K fd ps []
theorem FunAt.okGn {P : Program} {w : World} {K : PySem.W.Frag} {mg : Str → Option Value} {base : Heap} {x : Str} {st : Stmt} {k : Nat} {ps N : List Str} {sp : SpG} (F : FunAt K mg x st) (S : GScope N ps (defScope st)) (len : ∀ vs H Q E, sp vs H Q E → vs.length = ps.length)
    (hb : ∀ (kV doc pm : Value) (an : Option Addr) (cdv ct : Value) (us : List Value), us.length = ps.length → bindArgs (PySem.W.fnOf x x (defArgs st) (defBody st) (defScope st) .none kV doc pm an cdv ct) ⟨us, []⟩ = pure (ps.zip us))
    (hbody : ∀ (f : Addr) (cdv : Value) (A : Around) (outer : List Env) (s : Shared) (H : Hp) (vs : List V) (Q : List V → Hp → Prop) (E : XK) (pn : List (Addr × Obj)), Room k (A.deeper (envOfC x (defScope st) s.heap.objs.size f cdv)) → sp vs H Q E →
      ∃ t, GSs (gcxOf P w K mg base N x (defScope st) f cdv A outer s H E pn) (defBody st) t ∧ t { nx := fun ys _ H' => Q ys H', rt := fun ys v H' => v = .non ∧ Q ys H' } [] (start N vs) H) : GnAt P w K mg base x st (k + 1) ps sp := by
  obtain ⟨f, fd, hm, F⟩ := F.ex
  refine ⟨f, fd, hm, F, ?_, F.binds hb⟩
  obtain ⟨oc, od, kV, doc, pm, an, cdv, ct, osl, rfl, lk, hcd⟩ := F.ex
  exact gfn_of lk hcd S len fun A outer s H vs Q E pn hr h => hbody f cdv A outer s H vs Q E pn hr h
theorem pe_listGD {X : Cx} {x : Str} {st : Stmt} {k : Nat} {ps : List Str} {sp : SpG} {e : Expr} {es : List Expr} {t : TA} {p p0 p1 pos : Pos} (D : GnAt X.prog X.w X.K X.mg X.base x st k ps sp) (hr : Room (k + 3) X.A) (hgl : Gl X "list") (hml : X.mg "list" = none) (ha : PA X (e :: es) t) (hg : Gl X x := by rfl)
    (hdb : (x == ("__debug__" : Str)) = false := by decide) (he : starEach (e :: es) X.env = (false, eval e X.env) :: starEach es X.env := by rfl) (hpl : (backTo p1 (starEach es X.env)).any (·.1) = false := by rfl)
    (he2 : starEach [.Call (.Name x p) (e :: es) [] p1] X.env = (false, eval (.Call (.Name x p) (e :: es) [] p1) X.env) :: starEach [] X.env := by rfl) :
    PE X (.Call (.Name "list" p0) [.Call (.Name x p) (e :: es) [] p1] [] pos) (tListG (tCallG sp [] E0 t)) := by
  obtain ⟨f, fd, hm, F, G, b⟩ := D.ex
  exact pe_listG (pgen_call G (hr.mono (by omega)) hg hm F.kp b .nil ha hdb he hpl) (fun _ _ _ _ _ _ _ z => by
    obtain ⟨_, _, _, _, _, _, _, _, _, _, _, _, q⟩ := z
    exact q.elim) (fun _ _ _ z => z.elim) hr hgl hml boot_list (by decide) (by decide) he2
section
variable {D : GEnds} {ys : List V} {σ : L2.St} {H : Hp} {t u : TGn} {te : TE} {c : TT} {tb : TGn} {ts : TS}
theorem w_gStart {N : List Str} {vs : List V} {σ' : L2.St} (e : L2.start N vs = σ') (h : t D ys σ' H) : t D ys (L2.start N vs) H := e ▸ h
theorem w_gThen (h : t { D with nx := fun ys' σ' H' => u D ys' σ' H' } ys σ H) : tGThen t u D ys σ H := h
theorem w_gPlain (h : ts (D.at ys) σ H) : tPlain ts D ys σ H := h
theorem w_gYield (hz : ys.length < 16777216) (h : te σ H fun x H1 => D.nx (ys ++ [x]) σ H1) : tGYield te D ys σ H := ⟨szlt hz, h⟩
theorem w_g0 (h : D.nx ys σ H) : tG0 D ys σ H := h
theorem w_at (h : D.nx ys σ H) : (D.at ys).nx σ H := h
end
section
variable {D : GEnds} {ys : List V} {σ : L2.St} {H : Hp} {c : TT} {tb : TGn}
def GWh (W : Nat → List V → L2.St → Hp → Prop) (m : Nat) (tb : TGn) (D : GEnds) (ys : List V) (σ : L2.St) (H1 : Hp) : Prop := ∃ N : List V → L2.St → Hp → Prop, (∀ ys' σ' H', N ys' σ' H' → ∃ m', m' < m ∧ W m' ys' σ' H') ∧ tb { D with nx := N, ct := N, bk := D.nx } ys σ H1
theorem w_gWhile (W : Nat → List V → L2.St → Hp → Prop) (m0 : Nat) (h0 : W m0 ys σ H) (hs : ∀ m ys σ H, W m ys σ H → c σ H fun b H1 => if b = true then GWh W m tb D ys σ H1 else D.nx ys σ H1) : tGWhile c tb D ys σ H := ⟨W, ⟨m0, h0⟩, hs⟩
theorem w_gWh {W : Nat → List V → L2.St → Hp → Prop} {m : Nat} (q : tb { D with nx := fun ys' σ' H' => ∃ m', m' < m ∧ W m' ys' σ' H', ct := fun ys' σ' H' => ∃ m', m' < m ∧ W m' ys' σ' H', bk := D.nx } ys σ H) : GWh W m tb D ys σ H := ⟨_, fun _ _ _ h => h, q⟩
def ListGE (Q : VK) : List V → Hp → Prop := fun out H2 => ∀ p, H2 p = none → Q (.ref p) (upd H2 p (.lst out))
theorem w_listG {tg : TGen} {Q : VK} (h : tg σ H (ListGE Q)) : tListG tg σ H Q := h
theorem w_callG {sp : SpG} {dvs : List V} {E : XK} {t : TA} {cont : List V → Hp → Prop} (h : t σ H fun vs H1 => sp (vs ++ dvs) H1 cont E) : tCallG sp dvs E t σ H cont := h
theorem w_listGE {Q : VK} {out : List V} (h : ∀ p, H p = none → Q (.ref p) (upd H p (.lst out))) : ListGE Q out H := h
end
end Pg

namespace Pg
open PySem PySem.Spec PyProof.Rows L2
/-! ### truths compared; None or a number compared -/
theorem dec_bl {a b : Bool} : decide (V.bl a = V.bl b) = (a == b) := by
  cases a <;> cases b <;> rfl
theorem w_eqB {a b : Bool} {H : Hp} {Q : VK} (q : Q (.bl (a == b)) H) : rEq (.bl a) (.bl b) H Q := ⟨rfl, by rw [dec_bl]; exact q⟩
theorem w_neB {a b : Bool} {H : Hp} {Q : VK} (q : Q (.bl (a != b)) H) : rNe (.bl a) (.bl b) H Q := ⟨rfl, by rw [dec_bl]; exact q⟩
theorem beq_iff {p q : Prop} [Decidable p] [Decidable q] (h : p ↔ q) : (decide p == decide q) = true := by
  by_cases z : p
  · rw [decide_eq_true z, decide_eq_true (h.mp z)]; rfl
  · rw [decide_eq_false z, decide_eq_false fun y => z (h.mpr y)]; rfl
theorem bne_iff {p q : Prop} [Decidable p] [Decidable q] (h : p ↔ q) : (decide p != decide q) = false := by
  by_cases z : p
  · rw [decide_eq_true z, decide_eq_true (h.mp z)]; rfl
  · rw [decide_eq_false z, decide_eq_false fun y => z (h.mpr y)]; rfl
theorem w_iteV {b : Bool} {A B : Prop} (e : b = true) (h : A) : if b = true then A else B := by rw [if_pos e]; exact h
theorem w_iteW {b : Bool} {A B : Prop} (e : b = false) (h : B) : if b = true then A else B := by rw [e]; exact h
/-- None or a number -/
def NonInt (v : V) : Prop := v = .non ∨ ∃ i, v = .int i
theorem NonInt.dp {K : PySem.W.Frag} {H : Hp} {v : V} (h : NonInt v) : ∃ d, Dp K H v d ∧ SeqAt.shaped d = true ∧ PyData.eqv d d = true := by
  rcases h with rfl | ⟨i, rfl⟩
  · exact ⟨.none, .non, by decide, by simp [PyData.eqv]⟩
  · exact ⟨.int i, .int i, by rfl, by simp [PyData.eqv]⟩
theorem w_eqSame {K : PySem.W.Frag} {H : Hp} {Q : VK} {v : V} (h : NonInt v) (q : Q (.bl true) H) : rEqD K v v H Q := by
  obtain ⟨d, h1, h2, h3⟩ := h.dp (K := K) (H := H)
  exact ⟨d, d, h1, h1, h2, h2, by rw [h3]; exact q⟩
theorem w_neSame {K : PySem.W.Frag} {H : Hp} {Q : VK} {v : V} (h : NonInt v) (q : Q (.bl false) H) : rNeD K v v H Q := by
  obtain ⟨d, h1, h2, h3⟩ := h.dp (K := K) (H := H)
  exact ⟨d, d, h1, h1, h2, h2, by rw [h3]; exact q⟩
/-! ### steps that go up, comprehensions over any walk -/
section
variable {σ : L2.St} {H : Hp} {g : TG} {tt : TT} {te : TE} {vs : List Nat} {Q : VK}
theorem l_it {J : It} {n : Nat} {G : Hp → Prop} {Y : Nat → Hp → V → Hp → Prop} (w : Walk J n G Y) (Pv : Addr → Nat → Hp → Prop) (h0 : ∀ L, H L = none → Pv L 0 (upd H L (.lst []))) (hG : ∀ L i H', H L = none → i ≤ n → Pv L i H' → G H')
    (hs : ∀ L i x H' H'', H L = none → i < n → Pv L i H' → Y i H' x H'' → g x (wipe σ vs) H'' fun σ2 H2 => wipe σ2 vs = wipe σ vs ∧ tt σ2 H2 fun b H3 => if b = true then te σ2 H3 (AppE L (Pv L (i + 1))) else Pv L (i + 1) H3)
    (hd : ∀ L H', H L = none → Pv L n H' → Q (.ref L) H') : LcB g tt te vs σ Q J H := fun L hL => lc_it w (Pv L) (h0 L hL) (fun i H' => hG L i H' hL) (fun i x H' H'' => hs L i x H' H'' hL) (fun H' => hd L H' hL)
theorem l_rangeC {lo c : Int} {n : Nat} (Pv : Addr → Nat → Hp → Prop) (h0 : ∀ L, H L = none → Pv L 0 (upd H L (.lst [])))
    (hs : ∀ L i H', H L = none → i < n → Pv L i H' → g (.int (lo + (i : Nat) * c)) (wipe σ vs) H' fun σ2 H2 => wipe σ2 vs = wipe σ vs ∧ tt σ2 H2 fun b H3 => if b = true then te σ2 H3 (AppE L (Pv L (i + 1))) else Pv L (i + 1) H3)
    (hd : ∀ L H', H L = none → Pv L n H' → Q (.ref L) H') : LcB g tt te vs σ Q (Itc lo c n) H :=
  l_it walk_rangeC Pv h0 (fun _ _ _ _ _ _ => trivial) (fun L i x H' H'' hL hi p y => by
    obtain ⟨e1, e2⟩ := y
    subst e1 e2
    exact hs L i _ hL hi p) hd
theorem l_enum {K : PySem.W.Frag} {a : Addr} (xs : List V) (Pv : Addr → Nat → Hp → Prop) (h0 : ∀ L, H L = none → Pv L 0 (upd H L (.lst []))) (hl : ∀ L i H', H L = none → i ≤ xs.length → Pv L i H' → SqL K H' a xs)
    (hs : ∀ L i x T H', H L = none → xs[i]? = some x → Pv L i H' → H' T = none → g (.ref T) (wipe σ vs) (upd H' T (.tup [.int (i : Nat), x])) fun σ2 H2 => wipe σ2 vs = wipe σ vs ∧ tt σ2 H2 fun b H3 => if b = true then te σ2 H3 (AppE L (Pv L (i + 1))) else Pv L (i + 1) H3)
    (hd : ∀ L H', H L = none → Pv L xs.length H' → Q (.ref L) H') : LcB g tt te vs σ Q (Ite K a) H :=
  l_it walk_enum Pv h0 hl (fun L i x H' H'' hL hi p y => by
    obtain ⟨T, u, v, h1, h2, h3, h4, h5⟩ := y
    subst h1 h3
    have h4 := Option.some.inj h4
    subst h4
    exact hs L i v T H' hL h5 p h2) hd
end
theorem RgC.pos {i j c : Int} (hi : 0 ≤ i) (hj : i ≤ j) (hj2 : j < 2 ^ 30) (hc : 1 ≤ c) (hc2 : c < 2 ^ 30) : RgC i j c ((j - i + c - 1) / c).toNat := by
  have e : Builtin.Range.rangeSize i j c = (((j - i + c - 1) / c).toNat : Int) := by
    unfold Builtin.Range.rangeSize
    rw [if_pos (by omega)]
    have h0 : 0 ≤ (j - i + c - 1) / c := Int.ediv_nonneg (by omega) (by omega)
    rw [Int.toNat_of_nonneg h0]
    by_cases h : i < j
    · rw [if_pos h, show j - i + c - 1 = (j - i - 1) + c by omega, Int.add_ediv_of_dvd_right (Int.dvd_refl c), Int.ediv_self (by omega)]
    · rw [if_neg h, show j - i + c - 1 = c - 1 by omega, Int.ediv_eq_zero_of_lt (by omega) (by omega)]
  have hb : ((j - i + c - 1) / c).toNat < 2 ^ 31 := by
    have h1 : (j - i + c - 1) / c ≤ j - i + c - 1 := Int.ediv_le_self _ (by omega)
    omega
  refine ⟨by omega, by omega, ?_, e⟩
  unfold Builtin.Range.small
  rw [e]
  simp only [Builtin.Range.rangeFitsLong, Bool.and_eq_true, Bool.or_eq_true, decide_eq_true_eq, beq_iff_eq]
  rw [if_pos (by omega)]
  simp only [Bool.and_eq_true, decide_eq_true_eq]
  omega
theorem w_rng3P {H : Hp} {R : It → Hp → Prop} {i j c : Int} (h : 0 ≤ i ∧ i ≤ j ∧ j < 2 ^ 30 ∧ 1 ≤ c ∧ c < 2 ^ 30) (q : R (Itc i c ((j - i + c - 1) / c).toNat) H) : Rng3E R [.int i, .int j, .int c] H :=
  ⟨i, j, c, _, rfl, RgC.pos h.1 h.2.1 h.2.2.1 h.2.2.2.1 h.2.2.2.2, q⟩
theorem kc_pi {X : Cx} {K : PySem.W.Frag} {tg e : Expr} {t : TE} (h : PI X tg e (iList X.K t)) (q : X.K = K) : PI X tg e (iList K t) := q ▸ h
theorem w_extendR {H : Hp} {Q : VK} {a q : Addr} {ps qs : List Addr} (h1 : H a = some (.lst (ps.map V.ref))) (h2 : H q = some (.lst (qs.map V.ref))) (hz : ps.length + qs.length ≤ 16777216) (k : Q .non (upd H a (.lst ((ps ++ qs).map V.ref)))) : rExtend (.ref a) [.ref q] H Q :=
  ⟨a, q, _, _, rfl, rfl, h1, h2, szle' (by rw [List.length_map, List.length_map]; exact hz), by rw [← List.map_append]; exact k⟩
/-! ### lists of pairs of numbers -/
def dP (l : Int × Int) : PyData := .tuple [.int l.1, .int l.2]
theorem canLay_pairs : ∀ ls : List (Int × Int), PyData.canLayAll0 (ls.map dP) = true
  | [] => rfl
  | l :: ls => by
    have ih := canLay_pairs ls
    simp only [List.map_cons, dP, PyData.canLayAll0, PyData.canLay0, Bool.and_self, Bool.true_and]
    exact ih
theorem depth_pairs : ∀ ls : List (Int × Int), PyData.depthAll (ls.map dP) ≤ 3
  | [] => by simp [PyData.depthAll]
  | l :: ls => by
    have ih := depth_pairs ls
    have e : PyData.depth (dP l) ≤ 2 := by simp [dP, PyData.depthAll, PyData.depth]
    simp only [List.map_cons, PyData.depthAll]
    omega
theorem shaped_pairs (ls : List (Int × Int)) : SeqAt.shaped (.list (ls.map dP)) = true := by
  unfold SeqAt.shaped
  have h1 : PyData.canLay0 (.list (ls.map dP)) = true := by simp only [PyData.canLay0]; exact canLay_pairs ls
  have h2 : PyData.depth (.list (ls.map dP)) ≤ 64 := by
    have := depth_pairs ls
    simp only [PyData.depth]
    omega
  rw [h1, decide_eq_true h2]
  rfl
theorem eqvAll_pairs : ∀ ls ms : List (Int × Int), PyData.eqvAll (ls.map dP) (ms.map dP) = decide (ls = ms)
  | [], [] => by simp [PyData.eqvAll]
  | [], m :: ms => by simp [PyData.eqvAll]
  | n :: ns, [] => by simp [PyData.eqvAll]
  | n :: ns, m :: ms => by
    have ih := eqvAll_pairs ns ms
    simp only [List.map_cons, PyData.eqvAll, ih]
    have e : PyData.eqv (dP n) (dP m) = decide (n = m) := by
      obtain ⟨n1, n2⟩ := n
      obtain ⟨m1, m2⟩ := m
      simp only [dP, PyData.eqv, PyData.eqvAll, Prod.mk.injEq]
      by_cases h : n1 = m1 <;> by_cases h2 : n2 = m2 <;> simp [h, h2]
    rw [e]
    by_cases h : n = m
    · subst h
      by_cases h2 : ns = ms <;> simp [h2]
    · simp [h]
end Pg

open PySem PySem.Spec PyProof.Rows L2 Pg
/-! ### steps -/
local macro_rules | `(tactic| walk_at "h") => `(tactic| with_reducible first
  | assumption
  | exact upd_same
  | (refine' at_make ?e3 ?n1 ?n2; (case n1 => assumption); (case n2 => assumption); (case e3 => walk_at "h"))
  | (refine' at_upd ?e3 ?n1; (case n1 => assumption); (case e3 => walk_at "h"))
  | (refine' Fr.at0 ?n1 ?e3; (case n1 => assumption); (case e3 => walk_at "h"))
  | (refine' Fr.at ?e1 (nn2 ?e2) ?e3; (case e1 => assumption); (case e2 => walk_at "n"); (case e3 => walk_at "h"))
  | (refine' Fr.at ?e1 (nn3 ?e2 ?e4) ?e3; (case e1 => assumption); (case e2 => walk_at "n"); (case e4 => walk_at "n"); (case e3 => walk_at "h"))
  | (refine' Eq.trans (upd_ne ?e2) ?e3; (case e2 => walk_at "n"); (case e3 => walk_at "h")))
local macro_rules | `(tactic| walk_at "n") => `(tactic| with_reducible first
  | assumption
  | exact Ne.symm (by assumption)
  | (refine' Ne.symm (ne_of_none ?e1 ?e2); (case e2 => assumption); (case e1 => walk_at "h"))
  | (refine' ne_of_none ?e1 ?e2; (case e2 => assumption); (case e1 => walk_at "h"))
  | (refine' ne_of ?e1 ?e2 ?e3; (case e1 => assumption); (case e2 => walk_at "h"); (case e3 => (first | exact ho_lst_tup | exact ho_lst_own | exact ho_lst_xd | exact ho_lst_dK | exact ho_lst_ins | exact ho_tup_lst | exact ho_tup_own | exact ho_tup_xd | exact ho_tup_dK | exact ho_tup_ins | exact ho_own_lst | exact ho_own_tup | exact ho_own_xd | exact ho_own_dK | exact ho_own_ins | exact ho_xd_lst | exact ho_xd_tup | exact ho_xd_own | exact ho_xd_dK | exact ho_xd_ins | exact ho_dK_lst | exact ho_dK_tup | exact ho_dK_own | exact ho_dK_xd | exact ho_dK_ins | exact ho_ins_lst | exact ho_ins_tup | exact ho_ins_own | exact ho_ins_xd | exact ho_ins_dK))))
local macro_rules | `(tactic| walk_at "f") => `(tactic| with_reducible first
  | assumption
  | exact Fr.refl
  | exact Fr.nil (by assumption)
  | (refine' Fr.make ?e1 ?e2 ?e3; (case e2 => assumption); (case e3 => assumption); (case e1 => walk_at "f"))
  | (refine' Fr.new ?e1 ?e2; (case e2 => assumption); (case e1 => walk_at "f"))
  | (refine' Fr.put ?e1 (Or.inr ?e2); (case e2 => exact List.mem_singleton_self _); (case e1 => walk_at "f"))
  | (refine' Fr.put ?e1 (Or.inr ?e2); (case e2 => exact mem2a); (case e1 => walk_at "f"))
  | (refine' Fr.put ?e1 (Or.inr ?e2); (case e2 => exact mem2b); (case e1 => walk_at "f"))
  | (refine' Fr.put ?e1 (Or.inl ?e2); (case e2 => walk_at "z"); (case e1 => walk_at "f"))
  | (refine' Fr.trans ?e1 ?e2; (case e2 => assumption); (case e1 => walk_at "f"))
  | (refine' Fr.then ?e1 ?e2; (case e2 => assumption); (case e1 => walk_at "f"))
  | (refine' Fr.loc ?e1 ?e2 ?e3; (case e3 => assumption); (case e2 => walk_at "z"); (case e1 => walk_at "f"))
  | (refine' Fr.loc2 ?e1 ?e2 ?e4 ?e3; (case e3 => assumption); (case e2 => walk_at "z"); (case e4 => walk_at "z"); (case e1 => walk_at "f")))
local macro_rules | `(tactic| walk_at "z") => `(tactic| with_reducible first
  | assumption
  | (refine' Fr.free ?e1 (nn2 ?e2) ?e3; (case e3 => assumption); (case e1 => walk_at "f"); (case e2 => walk_at "n"))
  | (refine' Fr.free ?e1 (nn3 ?e2 ?e4) ?e3; (case e3 => assumption); (case e1 => walk_at "f"); (case e2 => walk_at "n"); (case e4 => walk_at "n"))
  | (refine' Fr.free (S := []) ?e1 List.not_mem_nil ?e3; (case e3 => assumption); (case e1 => walk_at "f")))
local macro_rules | `(tactic| walk_at "k") => `(tactic| first
  | with_reducible assumption
  | ((with_reducible refine' hx_of ?a1 ?a0); (case a1 => walk_at "h"); (case a0 => with_reducible exact rfl)))
local macro_rules | `(tactic| walk_at "1") => `(tactic| first
  | with_reducible refine w_seq ?_
  | with_reducible refine w_asg ?_
  | with_reducible refine w_gname ?_
  | with_reducible refine w_ret ?_
  | with_reducible refine w_drop ?_
  | with_reducible refine w_ifS ?_
  | with_reducible refine w_c ?_
  | ((with_reducible refine' w_var ?e1 ?_); (case e1 => exact rfl))
  | with_reducible refine w_op ?_
  | with_reducible refine w_I0 ?_
  | with_reducible refine w_eqI ?_
  | with_reducible refine w_neI ?_
  | with_reducible refine w_nil ?_
  | with_reducible refine w_cons ?_
  | with_reducible refine w_call ?_
  | with_reducible refine w_CB ?_
  | with_reducible refine w_test ?_
  | with_reducible refine w_tB ?_
  | with_reducible refine w_exbl ?_
  | with_reducible refine w_not ?_
  | with_reducible refine w_and ?_
  | with_reducible refine w_or ?_
  | with_reducible refine w_if ?_
  | with_reducible refine w_next ?_
  | with_reducible refine w_retN ?_
  | with_reducible refine w_iteF ?_
  | with_reducible refine w_iteT ?_
  | with_reducible refine w_iteNT ?_
  | with_reducible refine w_iteNF ?_
  | ((with_reducible refine w_iteP ?e1 ?_); (case e1 => with_reducible first | exact rfl | assumption))
  | ((with_reducible refine w_iteNP ?e1 ?_); (case e1 => with_reducible first | exact rfl | assumption))
  | ((with_reducible refine w_iteQ ?e1 ?_); (case e1 => with_reducible assumption))
  | ((with_reducible refine w_iteNQ ?e1 ?_); (case e1 => with_reducible assumption))
  | with_reducible refine w_lst ?_
  | with_reducible refine w_tup ?_
  | with_reducible refine w_bm ?_
  | with_reducible refine w_bm0 ?_
  | with_reducible refine w_chain ?_
  | with_reducible refine w_sub ?_
  | with_reducible refine w_un ?_
  | with_reducible refine w_U ?_
  | with_reducible refine w_par ?_
  | with_reducible refine w_parE ?_
  | ((with_reducible refine' w_aug ?e1 ?_); (case e1 => exact rfl))
  | with_reducible refine w_ipI ?_
  | with_reducible refine w_fld ?_
  | with_reducible refine w_tfld ?_
  | ((with_reducible refine' w_powW ?e1 ?_); (case e1 => walk_at "c"); (try dsimp only [Int.reduceToNat, Int.reducePow]))
  | ((with_reducible refine' w_I ?e1 ?_); (case e1 => walk_at "c"))
  | ((with_reducible refine' w_ixL (SqL.of ?e1) ?e2 ?_); (case e1 => walk_at "k"); (case e2 => exact rfl))
  | ((with_reducible refine' w_ixT (SqT.of ?e1) ?e2 ?_); (case e1 => walk_at "k"); (case e2 => exact rfl))
  | ((with_reducible refine' w_setL ?e1 ?e2 ?_); (case e1 => walk_at "k"); (case e2 => exact rfl))
  | ((with_reducible refine' w_ixLi (SqL.of ?e1) ?e2 ?e3 ?e4 ?_); (case e1 => walk_at "k"); (case e2 => exact rfl); (case e3 => omega); (case e4 => (simp only [unV, List.length_cons, List.length_nil]; omega)); intro n hn; simp only [unV, List.mem_cons, List.not_mem_nil, or_false] at hn)
  | ((with_reducible refine' w_ixTi (SqT.of ?e1) ?e2 ?e3 ?e4 ?_); (case e1 => walk_at "k"); (case e2 => exact rfl); (case e3 => omega); (case e4 => (simp only [unV, List.length_cons, List.length_nil]; omega)); intro n hn; simp only [unV, List.mem_cons, List.not_mem_nil, or_false] at hn)
  | ((with_reducible refine' w_ixLast (SqL.of ?e1) ?e3 ?_); (case e1 => walk_at "k"); (case e3 => assumption); intro ini n hn)
  | ((with_reducible refine' w_ixLm (SqL.of ?e1) ?e3 ?e4 ?_); (case e1 => walk_at "k"); (case e3 => omega); (case e4 => (first | omega | (simp only [List.length_append, List.length_cons, List.length_nil, List.length_set]; omega))); intro n hn)
  | ((with_reducible refine' w_lenI (SqL.of ?e1) ?_); (case e1 => walk_at "k"))
  | ((with_reducible refine' w_len (SqL.of ?e1) ?_); (case e1 => walk_at "k"))
  | ((with_reducible refine' w_tyL ?e1 ?_); (case e1 => walk_at "k"))
  | ((with_reducible refine' w_appendI ?e1 ?e2 ?_); (case e1 => walk_at "k"); (case e2 => omega))
  | with_reducible refine w_max2 ?_
  | with_reducible refine w_min2 ?_
  | with_reducible refine w_abs ?_
  | with_reducible refine w_intI ?_
  | with_reducible refine w_intB ?_
  | ((with_reducible refine' w_sum (SqL.of ?e1) ?_); (case e1 => walk_at "k"))
  | ((with_reducible refine' w_neNil (SqL.of ?e1) (SqL.of ?e2) ?_); (case e2 => walk_at "k"); (case e1 => walk_at "k"))
  | ((with_reducible refine' w_eqNil (SqL.of ?e1) (SqL.of ?e2) ?_); (case e2 => walk_at "k"); (case e1 => walk_at "k"))
  | ((with_reducible refine' w_eqLI (SqL.of ?e1) (SqL.of ?e2) ?_); (case e1 => walk_at "k"); (case e2 => walk_at "k"))
  | ((with_reducible refine' w_neLI (SqL.of ?e1) (SqL.of ?e2) ?_); (case e1 => walk_at "k"); (case e2 => walk_at "k"))
  | with_reducible refine w_for ?_
  | with_reducible refine w_lc ?_
  | with_reducible refine w_iList ?_
  | with_reducible refine w_rng1 ?_
  | with_reducible refine w_rng2 ?_
  | ((with_reducible refine' w_iListE (SqL.of ?e1) ?_); (case e1 => walk_at "k"))
  | ((with_reducible refine w_rng1E ?_ ?_ ?_); omega; omega)
  | ((with_reducible refine w_rng2E ?_ ?_); omega)
  | with_reducible refine w_fldaug ?_
  | ((with_reducible refine' w_fldP ?e1 ?e2 ?e3 ?e4 ?e5 ?_); (case e1 => walk_at "k"); (case e2 => assumption); (case e3 => assumption); (case e4 => exact Nat.le_of_ble_eq_true rfl); (case e5 => walk_at "fl"))
  | ((with_reducible refine' w_fldA ?e1 ?e2 ?e3 ?e5 ?_); (case e1 => walk_at "k"); (case e2 => assumption); (case e3 => assumption); (case e5 => walk_at "fl"))
  | ((with_reducible refine' w_fldQ ?e1 ?e4 ?e5 ?_); (case e1 => walk_at "k"); (case e4 => exact Nat.le_of_ble_eq_true rfl); (case e5 => walk_at "fl"))
  | ((with_reducible refine' w_fldG ?e1 ?e2 ?e3 ?e5 ?_); (case e1 => walk_at "k"); (case e2 => assumption); (case e3 => assumption); (case e5 => walk_at "fl"))
  | with_reducible refine w_meth ?_
  | ((with_reducible refine' w_methE ?e1 ?e5 ?_); (case e1 => walk_at "k"); (case e5 => walk_at "fl"))
  | with_reducible refine w_prop ?_
  | ((with_reducible refine' w_propE ?e1 ?_); (case e1 => walk_at "k"))
  | with_reducible refine w_make ?_
  | with_reducible refine w_rAdd ?_
  | with_reducible refine w_rSub ?_
  | ((with_reducible refine' w_listof (SqL.of ?e1) ?_); (case e1 => walk_at "k"); intro p np)
  | with_reducible refine w_tYes ?_
  | ((with_reducible refine' w_appEI ?e1 ?e2 ?_); (case e1 => walk_at "k"); (case e2 => omega))
  | ((with_reducible refine' w_appEB ?e1 ?e2 ?_); (case e1 => walk_at "k"); (case e2 => omega))
  | with_reducible refine w_whT ?_
  | with_reducible refine w_lenSet ?_
  | ((with_reducible refine' w_lenSE (SqL.of ?e1) ?e2 ?_); (case e1 => walk_at "k"); (case e2 => omega))
  | ((with_reducible refine' w_isi ?e1 ?e2 ?_); (case e1 => (first | exact .base (.int _) | exact .base .non | exact .base (.bl _) | exact .base (.str _) | (refine' tyx_lst ?f1; (case f1 => walk_at "k")) | (refine' tyx_tup ?f1; (case f1 => walk_at "k")))); (case e2 => (first | exact kit_ty (r := true) (by decide +kernel) | exact kit_ty (r := false) (by decide +kernel))))
  | with_reducible refine w_sortKw ?_
  | ((with_reducible refine' w_sortedKw (SqL.of ?e1) ?_); (case e1 => walk_at "k"); intro ns' p hperm hord np)
  | ((with_reducible refine' w_sortedI (SqL.of ?e1) ?_); (case e1 => walk_at "k"); intro ns' p hperm hord np)
  | ((with_reducible refine' w_extendI ?e1 ?e2 ?e3 ?_); (case e1 => walk_at "k"); (case e2 => walk_at "k"); (case e3 => (first | omega | (simp only [List.length_replicate]; omega))))
  | ((with_reducible refine' w_rep1 ?e1 ?e2 ?e3 ?_); (case e1 => walk_at "k"); (case e2 => omega); (case e3 => omega); intro p np)
  | ((with_reducible refine' w_maxL (SqL.of ?e1) ?e2 ?_); (case e1 => walk_at "k"); (case e2 => (first | omega | (simp; done))); intro m hm hle)
  | ((with_reducible refine' w_minL (SqL.of ?e1) ?e2 ?_); (case e1 => walk_at "k"); (case e2 => (first | omega | (simp; done))); intro m hm hle)
  | ((with_reducible refine' w_catI ?e1 ?e2 ?e3 ?_); (case e1 => walk_at "k"); (case e2 => walk_at "k"); (case e3 => (first | omega | (simp only [List.length_replicate]; omega))); intro p np)
  | ((with_reducible refine' w_catIL ?e1 ?e2 ?e3 ?e4 ?_); (case e1 => walk_at "k"); (case e2 => walk_at "k"); (case e3 => exact rfl); (case e4 => (simp only [unV, List.length_cons, List.length_nil]; omega)); intro p np; dsimp only [unV])
  | ((with_reducible refine' w_catLI ?e1 ?e2 ?e3 ?e4 ?_); (case e1 => walk_at "k"); (case e2 => walk_at "k"); (case e3 => exact rfl); (case e4 => (simp only [unV, List.length_cons, List.length_nil]; omega)); intro p np; dsimp only [unV])
  | with_reducible refine w_callK0 ?_
  | ((with_reducible refine w_kwE ?e1 ?_); (case e1 => exact rfl))
  | with_reducible refine w_makeK ?_
  | ((with_reducible refine w_mkE ?e1 ?_); (case e1 => exact rfl))
  | with_reducible refine w_methK ?_
  | ((with_reducible refine' w_methKE ?e1 ?e5 ?_); (case e1 => walk_at "k"); (case e5 => walk_at "fl"))
  | ((with_reducible refine w_mkwE ?e1 ?_); (case e1 => exact rfl))
  | with_reducible refine w_enum ?_
  | with_reducible refine w_zip ?_
  | with_reducible refine w_gNil ?_
  | with_reducible refine w_gCons ?_
  | ((with_reducible refine' w_gTup (SqT.of ?e1) ?e2 ?_); (case e1 => walk_at "k"); (case e2 => exact rfl))
  | ((with_reducible refine' w_gLst (SqL.of ?e1) ?e2 ?_); (case e1 => walk_at "k"); (case e2 => exact rfl))
  | ((with_reducible refine' w_enumE (SqL.of ?e1) ?_); (case e1 => walk_at "k"))
  | ((with_reducible refine' w_zipE (SqL.of ?e1) (SqL.of ?e2) ?_); (case e1 => walk_at "k"); (case e2 => walk_at "k"))
  | with_reducible refine w_dget ?_
  | ((with_reducible refine' w_dgetE ?e1 ?e5 ?_); (case e1 => walk_at "k"); (case e5 => walk_at "dl"))
  | with_reducible refine w_dput ?_
  | ((with_reducible refine' w_dputE ?e1 ?e4 ?e5 ?_); (case e1 => walk_at "k"); (case e4 => exact Nat.le_of_ble_eq_true rfl); (case e5 => walk_at "dl"))
  | with_reducible refine w_daug ?_
  | ((with_reducible refine' w_daugE ?e1 ?e5 ?_); (case e1 => walk_at "k"); (case e5 => walk_at "dl"))
  | (with_reducible refine w_disp ?_; intro p np)
  | with_reducible refine w_pairN ?_
  | with_reducible refine w_pairC ?_
  | ((with_reducible refine' w_dspE ?e1 ?e2 ?e3 ?e4 ?_); (case e1 => walk_at "k"); (case e2 => exact rfl); (case e3 => exact Nat.le_of_ble_eq_true rfl); (case e4 => walk_at "dn"))
  | ((with_reducible refine' w_pop0 ?e1 ?_); (case e1 => walk_at "k"))
  | ((with_reducible refine' w_reprI (log_lt ?e1) ?_); (case e1 => omega))
  | with_reducible refine w_eqS ?_
  | with_reducible refine w_eqB ?_
  | with_reducible refine w_neB ?_
  | with_reducible refine w_neS ?_
  | with_reducible refine w_sl ?_
  | with_reducible refine w_noPart ?_
  | with_reducible refine w_part ?_
  | with_reducible refine w_partE ?_
  | ((with_reducible refine' w_slI (SqL.of ?e1) ?_); (case e1 => walk_at "k"); intro p np)
  | ((with_reducible refine' w_lcount (SqL.of ?e1) ?_); (case e1 => walk_at "k"))
  | ((with_reducible refine' w_popAt ?e1 ?e2 ?e3 ?e4 ?_); (case e1 => walk_at "k"); (case e2 => omega); (case e3 => omega); (case e4 => omega); intro n hn)
  | ((with_reducible refine' w_setLI ?e1 ?e2 ?e3 ?_); (case e1 => walk_at "k"); (case e2 => omega); (case e3 => (first | omega | (simp only [List.length_set]; omega))))
  | ((with_reducible refine' w_catLL ?e1 ?e2 ?e3 ?e4 ?e5 ?_); (case e1 => walk_at "k"); (case e2 => walk_at "k"); (case e3 => exact rfl); (case e4 => exact rfl); (case e5 => exact Nat.le_of_ble_eq_true rfl); intro p np; dsimp only [unV])
  | with_reducible refine w_andV ?_
  | with_reducible refine w_orV ?_
  | with_reducible refine w_notV ?_
  | with_reducible refine w_revL ?_
  | ((with_reducible refine' w_revE (SqL.of ?e1) ?_); (case e1 => walk_at "k"); intro p np)
  | with_reducible refine w_gThen ?_
  | with_reducible refine w_gWh ?_
  | with_reducible refine w_listG ?_
  | with_reducible refine w_callG ?_
  | (with_reducible refine w_listGE ?_; intro p np)
  | with_reducible refine w_gPlain ?_
  | ((with_reducible refine w_gYield ?_ ?_); omega)
  | with_reducible refine w_g0 ?_
  | with_reducible refine w_at ?_
  | with_reducible refine w_rng3 ?_
  | ((with_reducible refine' w_appendR ?e1 ?e2 ?_); (case e1 => walk_at "k"); (case e2 => omega))
  | ((with_reducible refine w_rng3N ?_ ?_); omega)
  | with_reducible refine w_sls ?_
  | with_reducible refine w_isNN ?_
  | with_reducible refine w_isNI ?_
  | with_reducible refine w_isNR ?_
  | with_reducible refine w_notNN ?_
  | with_reducible refine w_notNI ?_
  | with_reducible refine w_notNR ?_
  | with_reducible refine w_orT ?_
  | with_reducible refine w_orN ?_
  | ((with_reducible refine' w_orI ?e1 ?_); (case e1 => omega))
  | ((with_reducible refine' w_rep3 ?e1 ?_); (case e1 => walk_at "k"); intro p np)
  | ((with_reducible refine' w_appV ?e1 ?e2 ?_); (case e1 => walk_at "k"); (case e2 => exact Nat.le_of_ble_eq_true rfl))
  | refine ⟨szle rfl, fun p np => ?_⟩)
local macro_rules | `(tactic| walk_at "g") => `(tactic| repeat walk_at "1")
local macro_rules | `(tactic| walk_at "H") => `(tactic| first | walk_at "k" | fail "heap")
local macro_rules | `(tactic| walk_at "F") => `(tactic| first | walk_at "f" | fail "frame")
local macro_rules | `(tactic| walk_at "Z") => `(tactic| first | walk_at "z" | fail "free")
local macro_rules | `(tactic| walk_at "N") => `(tactic| first | walk_at "n" | fail "differ")
local macro_rules | `(tactic| walk_at "P") => `(tactic| first | walk_at "p" | fail "pool")
local macro_rules | `(tactic| walk_at "G") => `(tactic| first | walk_at "1" | fail "step")
local macro_rules | `(tactic| walk_at "c") => `(tactic| first
  | with_reducible assumption
  | ((with_reducible refine wide_div (b := 400) ?_ ?_ (by decide) (by decide)) <;> omega)
  | ((with_reducible refine wide_mul (a := 400) (b := 400) ?_ ?_ (by decide) (by decide) (by decide)) <;> omega)
  | ((with_reducible refine CPowW.of 400 (by decide) ?_ (by decide) (by decide)); omega)
  | ((with_reducible show (0 : Int) < _); first | decide | omega))
namespace K05
open PySem PySem.Spec PyProof.Rows L2 Pg
def top (i : Nat) : Stmt := PySem.Challenge.pw_pagecounts_k05_whole_pages_and_longer_ch.main.body.getD i (.Pass ⟨0, 0, 0, 0⟩)
abbrev s_law_source : Stmt := (top 15)
abbrev sc_law_source_N : List Str := ["script", "mix", "digits", "cell", "span"]
theorem sc_law_source : FnScope sc_law_source_N ["script"] (defScope s_law_source) := ⟨rfl, rfl, rfl, by decide +kernel, rfl, by decide +kernel, by decide +kernel⟩
abbrev s_law_draw : Stmt := (top 16)
abbrev sc_law_draw_N : List Str := ["source", "many", "drawn", "mixed"]
theorem sc_law_draw : FnScope sc_law_draw_N ["source", "many"] (defScope s_law_draw) := ⟨rfl, rfl, rfl, by decide +kernel, rfl, by decide +kernel, by decide +kernel⟩
abbrev s_check_book : Stmt := (top 6)
abbrev sc_check_book_N : List Str := ["book", "index", "length"]
theorem sc_check_book : FnScope sc_check_book_N ["book"] (defScope s_check_book) := ⟨rfl, rfl, rfl, by decide +kernel, rfl, by decide +kernel, by decide +kernel⟩
abbrev s_check_size : Stmt := (top 7)
abbrev sc_check_size_N : List Str := ["size"]
theorem sc_check_size : FnScope sc_check_size_N ["size"] (defScope s_check_size) := ⟨rfl, rfl, rfl, by decide +kernel, rfl, by decide +kernel, by decide +kernel⟩
abbrev s_chapter_pages : Stmt := (top 8)
abbrev sc_chapter_pages_N : List Str := ["length", "size"]
theorem sc_chapter_pages : FnScope sc_chapter_pages_N ["length", "size"] (defScope s_chapter_pages) := ⟨rfl, rfl, rfl, by decide +kernel, rfl, by decide +kernel, by decide +kernel⟩
abbrev s_count_pages : Stmt := (top 9)
abbrev sc_count_pages_N : List Str := ["book", "size", "length"]
theorem sc_count_pages : FnScope sc_count_pages_N ["book", "size"] (defScope s_count_pages) := ⟨rfl, rfl, rfl, by decide +kernel, rfl, by decide +kernel, by decide +kernel⟩
abbrev s_pages : Stmt := (top 10)
abbrev sc_pages_N : List Str := ["book", "size"]
theorem sc_pages : FnScope sc_pages_N ["book", "size"] (defScope s_pages) := ⟨rfl, rfl, rfl, by decide +kernel, rfl, by decide +kernel, by decide +kernel⟩
abbrev s_counts : Stmt := (top 13)
abbrev sc_counts_N : List Str := ["book", "limit", "size"]
theorem sc_counts : GScope sc_counts_N ["book", "limit"] (defScope s_counts) := ⟨rfl, rfl, rfl, by decide +kernel, rfl, by decide +kernel, by decide +kernel⟩
abbrev s_page_of : Stmt := (top 11)
abbrev sc_page_of_N : List Str := ["book", "size", "chapter", "line"]
theorem sc_page_of : FnScope sc_page_of_N ["book", "size", "chapter", "line"] (defScope s_page_of) := ⟨rfl, rfl, rfl, by decide +kernel, rfl, by decide +kernel, by decide +kernel⟩
abbrev s_lines_on : Stmt := (top 12)
abbrev sc_lines_on_N : List Str := ["book", "size", "page", "left", "index", "length"]
theorem sc_lines_on : FnScope sc_lines_on_N ["book", "size", "page"] (defScope s_lines_on) := ⟨rfl, rfl, rfl, by decide +kernel, rfl, by decide +kernel, by decide +kernel⟩
abbrev s_law_lengths : Stmt := (top 18)
abbrev sc_law_lengths_N : List Str := ["source", "many", "wide", "part"]
theorem sc_law_lengths : FnScope sc_law_lengths_N ["source", "many"] (defScope s_law_lengths) := ⟨rfl, rfl, rfl, by decide +kernel, rfl, by decide +kernel, by decide +kernel⟩
abbrev s_law_wide : Stmt := (top 19)
abbrev sc_law_wide_N : List Str := ["source", "lengths", "one", "some"]
theorem sc_law_wide : FnScope sc_law_wide_N ["source", "lengths"] (defScope s_law_wide) := ⟨rfl, rfl, rfl, by decide +kernel, rfl, by decide +kernel, by decide +kernel⟩
abbrev s_law_sheets : Stmt := (top 20)
abbrev sc_law_sheets_N : List Str := ["long", "wide"]
theorem sc_law_sheets : FnScope sc_law_sheets_N ["long", "wide"] (defScope s_law_sheets) := ⟨rfl, rfl, rfl, by decide +kernel, rfl, by decide +kernel, by decide +kernel⟩
abbrev s_law_small_right : Stmt := (top 22)
abbrev sc_law_small_right_N : List Str := ["source", "few", "most", "number", "long", "longer", "wide", "due", "lines_here", "part", "first", "last", "every", "at", "spot"]
theorem sc_law_small_right : FnScope sc_law_small_right_N ["source", "few"] (defScope s_law_small_right) := ⟨rfl, rfl, rfl, by decide +kernel, rfl, by decide +kernel, by decide +kernel⟩
abbrev s_law_great_right : Stmt := (top 23)
abbrev sc_law_great_right_N : List Str := ["source", "lengths", "wide", "more", "here", "total", "many", "greater", "later", "cut", "parts", "joined"]
theorem sc_law_great_right : FnScope sc_law_great_right_N ["source", "lengths"] (defScope s_law_great_right) := ⟨rfl, rfl, rfl, by decide +kernel, rfl, by decide +kernel, by decide +kernel⟩
abbrev s_law : Stmt := (top 24)
abbrev sc_law_N : List Str := ["script", "source", "k", "lengths", "turn", "few", "part"]
theorem sc_law : FnScope sc_law_N ["script"] (defScope s_law) := ⟨rfl, rfl, rfl, by decide +kernel, rfl, by decide +kernel, by decide +kernel⟩
/-- where the classes stand -/
structure Cs where
  nil_ : Unit
/-- what the top has written -/
structure Txt (K : PySem.W.Frag) (mg : Str → Option Value) (c : Cs) : Prop where
  triv_ : True
  n_enumerate : mg "enumerate" = none
  n_int : mg "int" = none
  n_len : mg "len" = none
  n_list : mg "list" = none
  n_max : mg "max" = none
  n_min : mg "min" = none
  n_range : mg "range" = none
  n_sum : mg "sum" = none
  f_law_source : FunAt K mg "_law_source" s_law_source
  f_law_draw : FunAt K mg "_law_draw" s_law_draw
  f_check_book : FunAt K mg "check_book" s_check_book
  f_check_size : FunAt K mg "check_size" s_check_size
  f_chapter_pages : FunAt K mg "chapter_pages" s_chapter_pages
  f_count_pages : FunAt K mg "count_pages" s_count_pages
  f_pages : FunAt K mg "pages" s_pages
  f_counts : FunAt K mg "counts" s_counts
  f_page_of : FunAt K mg "page_of" s_page_of
  f_lines_on : FunAt K mg "lines_on" s_lines_on
  f_law_lengths : FunAt K mg "_law_lengths" s_law_lengths
  f_law_wide : FunAt K mg "_law_wide" s_law_wide
  f_law_sheets : FunAt K mg "_law_sheets" s_law_sheets
  f_law_small_right : FunAt K mg "_law_small_right" s_law_small_right
  f_law_great_right : FunAt K mg "_law_great_right" s_law_great_right
  f_law : FunAt K mg "law" s_law
def spLaw (K : PySem.W.Frag) : Sp := fun vs H Q _ => ∃ (a : Addr) (ns : List Int), vs = [.ref a] ∧ SqL K H a (ns.map V.int) ∧ ns.length ≤ 63 ∧ ∀ H', Q (.bl true) H'
section
variable {P : Program} {w : World} {K : PySem.W.Frag} {mg : Str → Option Value} {base : Heap} {c : Cs}
/-- a source of drawn numbers at a, its digits at g: n numbers were mixed -/
def Src (H : Hp) (a g : Addr) (n : Int) : Prop := ∃ (ds : List Int) (l m t : Int), H a = some (.lst [.ref g, .int l, .int m, .int t]) ∧ H g = some (.lst (ds.map V.int)) ∧ (∀ x ∈ ds, 0 ≤ x) ∧ 0 ≤ l ∧ 0 ≤ m ∧ m < 2 ^ 64 ∧ 0 ≤ t ∧ t ≤ n ∧ a ≠ g
section
variable {H H' : Hp} {a g p dx : Addr} {n : Int} {o u : HO} {S : List Addr}
theorem Src.new (h : Src H a g n) (np : H p = none) : Src (upd H p o) a g n := by
  obtain ⟨ds, l, m, t, h1, h2, r⟩ := h
  exact ⟨ds, l, m, t, at_upd h1 np, at_upd h2 np, r⟩
theorem Src.make (h : Src H a g n) (n1 : H dx = none) (n2 : H p = none) : Src (upd (upd H dx u) p o) a g n := by
  obtain ⟨ds, l, m, t, h1, h2, r⟩ := h
  exact ⟨ds, l, m, t, at_make h1 n1 n2, at_make h2 n1 n2, r⟩
theorem Src.ne (h : Src H a g n) (np : H p = none) : p ≠ a := by
  obtain ⟨ds, l, m, t, h1, h2, r⟩ := h
  exact (ne_of_none h1 np).symm
theorem Src.ne2 (h : Src H a g n) (np : H p = none) : p ≠ g := by
  obtain ⟨ds, l, m, t, h1, h2, r⟩ := h
  exact (ne_of_none h2 np).symm
theorem Src.fr (h : Src H a g n) (f : Fr S H H') (ns : a ∉ S) (ns2 : g ∉ S) : Src H' a g n := by
  obtain ⟨ds, l, m, t, h1, h2, r⟩ := h
  exact ⟨ds, l, m, t, f.at ns h1, f.at ns2 h2, r⟩
theorem Src.put (h : Src H a g n) (np : p ≠ a) (np2 : p ≠ g) : Src (upd H p o) a g n := by
  obtain ⟨ds, l, m, t, h1, h2, r⟩ := h
  exact ⟨ds, l, m, t, by rw [upd_ne np.symm]; exact h1, by rw [upd_ne np2.symm]; exact h2, r⟩
theorem Src.le {k : Int} (h : Src H a g n) (hk : n ≤ k) : Src H a g k := by
  obtain ⟨ds, l, m, t, h1, h2, h3, h4, h5, h6, h7, h8, h9⟩ := h
  exact ⟨ds, l, m, t, h1, h2, h3, h4, h5, h6, h7, by omega, h9⟩
end
local macro_rules | `(tactic| walk_at "p") => `(tactic| first
  | assumption
  | (refine' Src.make ?e2 ?e1 ?e3; (case e1 => assumption); (case e3 => assumption); (case e2 => walk_at "p"))
  | (refine' Src.new ?e2 ?e1; (case e1 => assumption); (case e2 => walk_at "p"))
  | (refine' Src.put ?e2 ?e1 ?e4; (case e1 => walk_at "n"); (case e4 => walk_at "n"); (case e2 => walk_at "p"))
  | (refine' Src.fr ?e2 ?e1 ?e3 ?e4; (case e1 => assumption); (case e3 => exact List.not_mem_nil); (case e4 => exact List.not_mem_nil); (case e2 => walk_at "p")))
local macro_rules | `(tactic| walk_at "n") => `(tactic| first
  | assumption
  | exact Ne.symm (by assumption)
  | (refine' Src.ne ?e2 ?e1; (case e1 => assumption); (case e2 => walk_at "p"))
  | (refine' Ne.symm (Src.ne ?e2 ?e1); (case e1 => assumption); (case e2 => walk_at "p"))
  | (refine' Src.ne2 ?e2 ?e1; (case e1 => assumption); (case e2 => walk_at "p"))
  | (refine' Ne.symm (Src.ne2 ?e2 ?e1); (case e1 => assumption); (case e2 => walk_at "p")))
def spSource (K : PySem.W.Frag) : Sp := fun vs H Q _ => ∃ (a : Addr) (ns : List Int), vs = [.ref a] ∧ SqL K H a (ns.map V.int) ∧ ns.length ≤ 63 ∧ ∀ p g H', Fr [] H H' → H p = none → H g = none → Src H' p g 0 → Q (.ref p) H'
def spDraw : Sp := fun vs H Q _ => ∃ (a g : Addr) (k n : Int), vs = [.ref a, .int n] ∧ Src H a g k ∧ 0 < n ∧ n < 2 ^ 300 ∧ k < 2 ^ 40 ∧
  ∀ (r k' : Int) (H' : Hp), 0 ≤ r → r < n → k' ≤ k + 1 → Src H' a g k' → Fr [a, g] H H' → Q (.int r) H'
theorem spDraw.go {H : Hp} {a g : Addr} {k n : Int} {Q : VK} {E : XK} (p : Src H a g k) (n0 : 0 < n) (n1 : n < 2 ^ 300) (k1 : k < 2 ^ 40)
    (h : ∀ (r k' : Int) (H' : Hp), 0 ≤ r → r < n → k' ≤ k + 1 → Src H' a g k' → Fr [a, g] H H' → Q (.int r) H') : spDraw ([.ref a, .int n] ++ []) H Q E := ⟨a, g, k, n, rfl, p, n0, n1, k1, h⟩
set_option maxHeartbeats 4000000 in
theorem ok_law_source (T : Txt K mg c) : DefAt P w K mg base "_law_source" s_law_source 1 ["script"] (spSource K) := by
  refine T.f_law_source.ok sc_law_source (fun vs H Q E h => ?_) (fun _ _ _ _ _ _ us hl => match us, hl with | [_], _ => rfl) (fun f cdv A outer s H vs Q E hr h => ?_)
  · obtain ⟨a, ns, rfl, hS, hl, q⟩ := h
    rfl
  · obtain ⟨a, ns, rfl, hS, hl, q⟩ := h
    refine ⟨_, (pss_cons (ps_set (i := 1) sc_law_source.nd rfl (Or.inl rfl) pe_int)
    (pss_cons (ps_set (i := 2) sc_law_source.nd rfl (Or.inl rfl) (pe_lst pa_nil))
    (pss_cons (ps_for PassesOwn.never rfl (pi_list (pv 0)) (pg_name (i := 3) sc_law_source.nd rfl (Or.inl rfl)) (pss_cons (ps_set (i := 1) sc_law_source.nd rfl (Or.inl rfl) (pe_op op_mod (pe_op op_add (pe_op op_mulW (pv 1) pe_int) (pv 3)) (pe_op op_sub (pe_op op_powW pe_int pe_int) pe_int)))
    (pss_cons (ps_set (i := 4) sc_law_source.nd rfl (Or.inl rfl) (pe_callB (call_max2N rfl) (by rfl) T.n_max (by decide +kernel) (pa_cons (pv 3) (pa_cons (pe_op op_sub pe_int (pv 3)) pa_nil))))
    (pss_one (ps_if (pt_cmpR op_ge (pv 4) (pe_op op_powW pe_int pe_int) (nomark _)) (pss_one (ps_expr (pe_bm PySem.F.plainAttrs_list PySem.F.slot_list_append PySem.F.type_list_append mt_append (pv 2) (pa_cons (pe_op op_sub (pv 4) (pe_op op_powW pe_int pe_int)) pa_nil)))) pss_nil)))))
    (pss_one (ps_ret (pe_lst (pa_cons (pv 2) (pa_cons pe_int (pa_cons (pv 1) (pa_cons pe_int pa_nil)))))))))), ?_⟩
    refine w_start (σ' := [some (.ref a), none, none, none, none]) rfl ?_
    walk_at "g"
    rename_i p1 np1
    refine w_iListE (Fr.seqL (S := []) (H := H) (by walk_at "F") List.not_mem_nil hS) ?_
    refine f_list (ns.map V.int) (fun i σ' H' => ∃ (v w : Option V) (b : Int) (gs : List Int), σ' = [some (.ref a), some (.int b), some (.ref p1), v, w] ∧ Fr [] H H' ∧ H' p1 = some (.lst (gs.map V.int)) ∧ (∀ x ∈ gs, 0 ≤ x) ∧ gs.length ≤ i ∧ 0 ≤ b ∧ b < 2 ^ 64) ?_ ?_ ?_ ?_
    · exact ⟨none, none, 271828182845904, [], rfl, by walk_at "F", (by walk_at "H" : upd H p1 (.lst []) p1 = some (.lst [])), by simp, by simp, by omega, by omega⟩
    · rintro i σ' H' hi ⟨v, w, b, gs, rfl, f1, h1, _⟩
      exact f1.seqL List.not_mem_nil hS
    · rintro i x σ' H' hx ⟨v, w, b, gs, rfl, f1, h1, gp, gl, b0, b1⟩
      obtain ⟨n, hn, rfl⟩ := map_at hx
      have hil := (List.getElem?_eq_some_iff.mp hn).1
      walk_at "g"
      have e0 := Int.emod_nonneg (b * 1000033 + n) (show (2305843009213693952 - 1 : Int) ≠ 0 by decide)
      have e1 := Int.emod_lt_of_pos (b * 1000033 + n) (show (0 : Int) < 2305843009213693952 - 1 by decide)
      refine w_ite (fun h => ?_) (fun h => ?_)
      · walk_at "g"
        exact ⟨_, _, _, _, rfl, by walk_at "F", upd_same, mem_snoc gp (by omega), by simp; omega, e0, by omega⟩
      · walk_at "g"
        exact ⟨_, _, _, _, rfl, f1, h1, gp, by omega, e0, by omega⟩
    · rintro σ' H' ⟨v, w, b, gs, rfl, f1, h1, gp, gl, b0, b1⟩
      walk_at "g"
      rename_i p3 np3
      exact q p3 p1 _ (by walk_at "F") (by walk_at "Z") np1 ⟨gs, 0, b, 0, upd_same, by walk_at "H", gp, by omega, b0, b1, by omega, by omega, by walk_at "N"⟩
local macro_rules | `(tactic| walk_at "1") => `(tactic| ((with_reducible refine' spDraw.go ?e1 ?e2 ?e3 ?e4 ?_); (case e1 => walk_at "p"); (case e2 => omega); (case e3 => omega); (case e4 => omega); intro r k' H' r0 r1 rk rp rf))
set_option maxHeartbeats 4000000 in
theorem ok_law_draw (T : Txt K mg c) : DefAt P w K mg base "_law_draw" s_law_draw 1 ["source", "many"] spDraw := by
  refine T.f_law_draw.ok sc_law_draw (fun vs H Q E h => ?_) (fun _ _ _ _ _ _ us hl => match us, hl with | [_, _], _ => rfl) (fun f cdv A outer s H vs Q E hr h => ?_)
  · obtain ⟨a, g, k, n, rfl, ⟨ds, l, m, t, ha, hg, hn, l0, m0, m1, t0, t1, hag⟩, n0, n1, k1, q⟩ := h
    rfl
  · obtain ⟨a, g, k, n, rfl, ⟨ds, l, m, t, ha, hg, hn, l0, m0, m1, t0, t1, hag⟩, n0, n1, k1, q⟩ := h
    refine ⟨_, (pss_cons (ps_while PassesOwn.never (PW.pt (pw_and (pt_cmpR op_lt (pe_ix ix_list (pv 0) pe_int (fun _ _ => rfl)) pe_int (nomark _)) (pw_and1 (pt_cmpR (op_neD hr.units) (pe_ix ix_list (pv 0) pe_int (fun _ _ => rfl)) (pe_lst pa_nil) (nomark _))))) (pss_one (ps_asg (pe_bm PySem.F.plainAttrs_list PySem.F.slot_list_pop PySem.F.type_list_pop mt_popAt (pe_ix ix_list (pv 0) pe_int (fun _ _ => rfl)) (pa_cons pe_int pa_nil)) (pg_sub (pv 0) pe_int set_list))))
    (pss_cons (ps_if (pt_cmpR op_ge (pe_ix ix_list (pv 0) pe_int (fun _ _ => rfl)) pe_int (nomark _)) (pss_cons (ps_set (i := 2) sc_law_draw.nd rfl (Or.inl rfl) (pe_op op_mod (pe_ix ix_list (pv 0) pe_int (fun _ _ => rfl)) (pv 1)))
    (pss_cons (ps_asg (pe_op op_fdivW (pe_ix ix_list (pv 0) pe_int (fun _ _ => rfl)) (pv 1)) (pg_sub (pv 0) pe_int set_list))
    (pss_one (ps_ret (pv 2))))) pss_nil)
    (pss_cons (ps_asg (pe_op op_add (pe_ix ix_list (pv 0) pe_int (fun _ _ => rfl)) pe_int) (pg_sub (pv 0) pe_int set_list))
    (pss_cons (ps_set (i := 3) sc_law_draw.nd rfl (Or.inl rfl) (pe_op op_mulW (pe_op op_add (pe_ix ix_list (pv 0) pe_int (fun _ _ => rfl)) pe_int) (pe_op op_powW (pe_op op_add (pe_ix ix_list (pv 0) pe_int (fun _ _ => rfl)) pe_int) pe_int)))
    (pss_cons (ps_set (i := 3) sc_law_draw.nd rfl (Or.inl rfl) (pe_op op_mod (pe_op op_add (pv 3) (pe_op op_mulW pe_int (pe_ix ix_list (pv 0) pe_int (fun _ _ => rfl)))) (pe_op op_sub (pe_op op_powW pe_int pe_int) pe_int)))
    (pss_one (ps_ret (pe_op op_mod (pe_op op_fdivW (pe_op op_mod (pe_op op_powW (pv 3) pe_int) (pe_op op_add (pe_op op_powW pe_int pe_int) pe_int)) pe_int) (pv 1))))))))), ?_⟩
    refine w_start (σ' := [some (.ref a), some (.int n), none, none]) rfl ?_
    walk_at "g"
    refine w_whileJ (fun σ' H' => ∃ (ds : List Int) (l : Int), σ' = [some (.ref a), some (.int n), none, none] ∧ H' a = some (.lst [.ref g, .int l, .int m, .int t]) ∧ H' g = some (.lst (ds.map V.int)) ∧ (∀ x ∈ ds, 0 ≤ x) ∧ 0 ≤ l ∧ Fr [a, g] H H') (fun nxt rest => ?_) ?_
    · refine w_while (fun j σ' H' => ∃ (ds : List Int) (l : Int), σ' = [some (.ref a), some (.int n), none, none] ∧ H' a = some (.lst [.ref g, .int l, .int m, .int t]) ∧ H' g = some (.lst (ds.map V.int)) ∧ (∀ x ∈ ds, 0 ≤ x) ∧ 0 ≤ l ∧ Fr [a, g] H H' ∧ ds.length = j) ds.length ⟨ds, l, rfl, ha, hg, hn, l0, Fr.refl, rfl⟩ ?_
      clear ha hg hn l0 ds l
      rintro j σ' H' ⟨ds, l, rfl, ha, hg, hn, l0, f1, hj⟩
      walk_at "g"
      refine w_ite (fun h => ?_) (fun h => ?_)
      · walk_at "g"
        refine w_iteN (fun hne => ?_) (fun he => ?_)
        · cases ds with
          | nil => exact absurd rfl hne
          | cons x ds =>
            walk_at "g"
            rename_i p np
            have h2 : p ≠ g := (ne_of_none hg np).symm
            have h3 : p ≠ a := (ne_of_none ha np).symm
            simp only [List.length_cons] at hj
            exact ⟨ds.length, by omega, ds, x, rfl, upd_same, by walk_at "H", fun y hy => hn y (by simp [hy]), hn x (by simp), by walk_at "F", rfl⟩
        · walk_at "g"
          exact rest _ _ ⟨ds, l, rfl, by walk_at "H", by walk_at "H", hn, l0, by walk_at "F"⟩
      · walk_at "g"
        exact rest _ _ ⟨ds, l, rfl, ha, hg, hn, l0, f1⟩
    · clear ha hg hn l0 ds l
      rintro σ' H' ⟨ds, l, rfl, ha, hg, hn, l0, f1⟩
      walk_at "g"
      refine w_ite (fun h => ?_) (fun h => ?_)
      · walk_at "g"
        exact q _ k _ (Int.emod_nonneg _ (by omega)) (Int.emod_lt_of_pos _ n0) (by omega) ⟨ds, _, m, t, upd_same, by walk_at "H", hn, Int.ediv_nonneg l0 (by omega), m0, m1, t0, t1, hag⟩ (by walk_at "F")
      · walk_at "g"
        have c1 : (t + 1 + 3) ^ 3 = (t + 4) * (t + 4) * (t + 4) := by
          rw [show t + 1 + 3 = t + 4 by omega, Int.pow_succ, Int.pow_succ, Int.pow_succ, Int.pow_zero, Int.one_mul]
        have s1 : (t + 4) * (t + 4) ≤ 2 ^ 41 * 2 ^ 41 := Int.mul_le_mul (by omega) (by omega) (by omega) (by omega)
        have s0 : 0 ≤ (t + 4) * (t + 4) := Int.mul_nonneg (by omega) (by omega)
        have c2 : 0 ≤ (t + 1 + 3) ^ 3 := by rw [c1]; exact Int.mul_nonneg s0 (by omega)
        have c3 : (t + 1 + 3) ^ 3 ≤ 2 ^ 82 * 2 ^ 41 := by rw [c1]; exact Int.mul_le_mul (by omega) (by omega) (by omega) (by omega)
        walk_at "g"
        exact q _ (k + 1) _ (Int.emod_nonneg _ (by omega)) (Int.emod_lt_of_pos _ n0) (by omega) ⟨ds, l, m, t + 1, upd_same, by walk_at "H", hn, l0, m0, m1, by omega, by omega, hag⟩ (by walk_at "F")
/-! ### tables of page counts -/
/-- how many chapters are longer than i -/
def gt (ns : List Int) (i : Int) : Int := (ns.countP fun x => decide (i < x) : Nat)
def ct (ns : List Int) (s : Int) : Int := (ns.map fun x => (x - 1) / s + 1).sum
theorem gt_cons (x : Int) (ns : List Int) (i : Int) : gt (x :: ns) i = gt ns i + if i < x then 1 else 0 := by
  unfold gt
  rw [List.countP_cons]
  by_cases h : i < x <;> simp [h]
theorem ct_cons (x : Int) (ns : List Int) (s : Int) : ct (x :: ns) s = (x - 1) / s + 1 + ct ns s := by simp [ct]
theorem gt_nonneg (ns : List Int) (i : Int) : 0 ≤ gt ns i := by unfold gt; omega
theorem gt_le (ns : List Int) (i : Int) : gt ns i ≤ ns.length := by
  unfold gt
  have := List.countP_le_length (p := fun x => decide (i < x)) (l := ns)
  omega
theorem gt_mono {ns : List Int} {i j : Int} (h : i ≤ j) : gt ns j ≤ gt ns i := by
  induction ns with
  | nil => simp [gt]
  | cons x ns ih =>
    rw [gt_cons, gt_cons]
    split <;> split <;> omega
theorem gt_zero {ns : List Int} {i : Int} (h : ∀ x ∈ ns, x ≤ i) : gt ns i = 0 := by
  induction ns with
  | nil => simp [gt]
  | cons x ns ih =>
    rw [gt_cons, ih fun y hy => h y (List.mem_cons_of_mem _ hy), if_neg (by have := h x List.mem_cons_self; omega)]
    omega
theorem gt_all {ns : List Int} {i : Int} (h : ∀ x ∈ ns, i < x) : gt ns i = ns.length := by
  induction ns with
  | nil => simp [gt]
  | cons x ns ih =>
    rw [gt_cons, ih fun y hy => h y (List.mem_cons_of_mem _ hy), if_pos (h x List.mem_cons_self)]
    simp
theorem gt_step (ns : List Int) (i : Int) : gt ns (i - 1) = gt ns i + ns.count i := by
  induction ns with
  | nil => simp [gt]
  | cons x ns ih =>
    rw [gt_cons, gt_cons, ih, List.count_cons]
    by_cases e : x = i
    · subst e
      simp
      omega
    · have : (x == i) = false := by simpa using e
      rw [this]
      simp
      split <;> split <;> omega
/-- the numbers at the multiples of s: 1*s, 2*s, .. m*s -/
def mults (ns : List Int) (s : Int) : Nat → Int
  | 0 => 0
  | m + 1 => mults ns s m + gt ns ((m + 1 : Nat) * s)
theorem mults_cons (x : Int) (ns : List Int) (s : Int) : ∀ m, mults (x :: ns) s m = mults ns s m + mults [x] s m
  | 0 => rfl
  | m + 1 => by
    show mults (x :: ns) s m + gt (x :: ns) _ = mults ns s m + gt ns _ + (mults [x] s m + gt [x] _)
    rw [mults_cons x ns s m, gt_cons, gt_cons]
    have : gt [] (((m + 1 : Nat) : Int) * s) = 0 := rfl
    rw [this]
    omega
theorem mults_one {x s : Int} (hs : 1 ≤ s) (hx : 1 ≤ x) : ∀ m : Nat, mults [x] s m = if (m : Int) ≤ (x - 1) / s then (m : Int) else (x - 1) / s
  | 0 => by
    have : 0 ≤ (x - 1) / s := Int.ediv_nonneg (by omega) (by omega)
    show (0 : Int) = _
    rw [if_pos (by simpa using this)]
    rfl
  | m + 1 => by
    have ih := mults_one hs hx m
    have key : (((m + 1 : Nat) : Int) * s < x) ↔ ((m + 1 : Nat) : Int) ≤ (x - 1) / s := by
      rw [Int.le_ediv_iff_mul_le (by omega)]
      omega
    show mults [x] s m + gt [x] _ = _
    rw [ih, gt_cons]
    have z : gt [] (((m + 1 : Nat) : Int) * s) = 0 := rfl
    rw [z]
    by_cases h : ((m + 1 : Nat) : Int) ≤ (x - 1) / s
    · rw [if_pos h, if_pos (key.mpr h), if_pos (by omega)]
      omega
    · rw [if_neg h, if_neg fun q => h (key.mp q)]
      split <;> omega
/-- the page count of a size, by the numbers at its multiples -/
theorem ct_mults {s : Int} (hs : 1 ≤ s) {m : Nat} : ∀ {ns : List Int}, (∀ x ∈ ns, 1 ≤ x ∧ (x - 1) / s ≤ m) → ct ns s = ns.length + mults ns s m
  | [], _ => by
    have : ∀ m, mults [] s m = 0 := by
      intro m
      induction m with
      | zero => rfl
      | succ m ih =>
        show mults [] s m + gt [] _ = 0
        rw [ih]
        rfl
    rw [this]
    rfl
  | x :: ns, h => by
    have ih := ct_mults hs (m := m) (ns := ns) fun y hy => h y (List.mem_cons_of_mem _ hy)
    have hx := h x List.mem_cons_self
    rw [ct_cons, ih, mults_cons, mults_one hs hx.1, List.length_cons]
    split <;> omega
theorem sum_pick_go {ns L : List Int} {s : Int} (hs : 1 ≤ s) (hL : ∀ i : Nat, s < i → i < L.length → L[i]? = some (gt ns i)) : ∀ c : Nat, (∀ k : Nat, k < c → ((k : Int) + 2) * s < L.length) →
    ((((List.range c).map fun k : Nat => (2 * s + s * (k : Int)).toNat).filterMap fun i => L[i]?)).sum = mults ns s (c + 1) - gt ns s
  | 0, _ => by
    show (0 : Int) = mults ns s 0 + gt ns (((0 + 1 : Nat) : Int) * s) - gt ns s
    have e : (((0 + 1 : Nat) : Int) * s) = s := by omega
    rw [e]
    show (0 : Int) = 0 + gt ns s - gt ns s
    omega
  | c + 1, h => by
    have ih := sum_pick_go hs hL c fun k hk => h k (by omega)
    have hc := h c (by omega)
    have e1 : 2 * s + s * (c : Int) = ((c : Int) + 2) * s := by rw [Int.add_mul, Int.mul_comm s c]; omega
    have hpos : s < ((c : Int) + 2) * s := by
      rw [Int.add_mul]
      have := Int.mul_nonneg (show (0 : Int) ≤ c by omega) (show 0 ≤ s by omega)
      omega
    have e2 : (((((c : Int) + 2) * s).toNat : Nat) : Int) = ((c : Int) + 2) * s := Int.toNat_of_nonneg (by omega)
    have e3 := hL (((c : Int) + 2) * s).toNat (by omega) (by omega)
    rw [e2] at e3
    rw [List.range_succ, List.map_append, List.filterMap_append, List.sum_append, ih]
    simp only [List.map_cons, List.map_nil, e1, List.filterMap_cons, e3, List.filterMap_nil, List.sum_cons, List.sum_nil]
    show _ = mults ns s (c + 1) + gt ns (((c + 1 + 1 : Nat) : Int) * s) - gt ns s
    have e4 : ((c + 1 + 1 : Nat) : Int) * s = ((c : Int) + 2) * s := by
      congr 1
    rw [e4]
    omega
theorem pick_len (L : List Int) (lo st : Option Int) : (pickSl L lo st).length ≤ (sliceRange (sliceBounds lo none st L.length).1 (sliceBounds lo none st L.length).2.1 (sliceBounds lo none st L.length).2.2).length := List.length_filterMap_le _ _
theorem sum_pick {ns L : List Int} {s : Int} (hs : 1 ≤ s) (hL : ∀ i : Nat, s < i → i < L.length → L[i]? = some (gt ns i)) :
    ∃ m : Nat, (L.length : Int) ≤ ((m : Int) + 1) * s ∧ (pickSl L (some (2 * s)) (some s)).sum = mults ns s m - gt ns s ∧ (pickSl L (some (2 * s)) (some s)).length ≤ L.length := by
  have hsp : s > 0 := by omega
  have hneg : ¬ 2 * s < 0 := by omega
  have hb : sliceBounds (some (2 * s)) none (some s) L.length = (max 0 (min (2 * s) L.length), (L.length : Int), s) := by
    simp only [sliceBounds, Option.getD_some, hsp, if_true, hneg, if_false]
  by_cases h2 : 2 * s < L.length
  · have e : max 0 (min (2 * s) (L.length : Int)) = 2 * s := by omega
    have hcount : 0 ≤ ((L.length : Int) - 2 * s + s - 1) / s := Int.ediv_nonneg (by omega) (by omega)
    have hmul := Int.mul_ediv_self_le (x := (L.length : Int) - 2 * s + s - 1) (k := s) (by omega)
    have hmod := Int.lt_mul_ediv_self_add (x := (L.length : Int) - 2 * s + s - 1) (k := s) (by omega)
    obtain ⟨c, hc⟩ := Int.eq_ofNat_of_zero_le hcount
    have hr : sliceRange (2 * s) L.length s = (List.range c).map fun k : Nat => (2 * s + s * (k : Int)).toNat := by
      simp only [sliceRange, hsp, if_true, h2, hc, Int.toNat_natCast]
    have hcs : ((L.length : Int) - 2 * s + s - 1) / s = c := hc
    rw [hcs] at hmul hmod
    have go := sum_pick_go hs hL c fun k hk => by
      have h1 : ((k : Int) + 1) * s ≤ c * s := Int.mul_le_mul_of_nonneg_right (by omega) (by omega)
      rw [Int.mul_comm s c] at hmul
      rw [Int.add_mul] at h1 ⊢
      omega
    refine ⟨c + 1, ?_, ?_, ?_⟩
    · rw [Int.mul_comm s c] at hmod
      have : (((c + 1 : Nat) : Int) + 1) * s = c * s + 2 * s := by
        rw [Int.add_mul]
        have : ((c + 1 : Nat) : Int) * s = c * s + s := by rw [show ((c + 1 : Nat) : Int) = (c : Int) + 1 by omega, Int.add_mul]; omega
        omega
      rw [this]
      omega
    · unfold pickSl
      rw [hb, e]
      show ((sliceRange (2 * s) L.length s).filterMap fun i => L[i]?).sum = _
      rw [hr]
      exact go
    · refine Nat.le_trans (pick_len _ _ _) ?_
      rw [hb, e]
      show (sliceRange (2 * s) L.length s).length ≤ _
      rw [hr, List.length_map, List.length_range]
      have h1 : (1 : Int) * c ≤ s * c := Int.mul_le_mul_of_nonneg_right (by omega) (by omega)
      omega
  · have e : max 0 (min (2 * s) (L.length : Int)) = L.length := by omega
    have hr : pickSl L (some (2 * s)) (some s) = [] := by
      unfold pickSl
      rw [hb, e]
      show (sliceRange (L.length : Int) L.length s).filterMap _ = []
      simp [sliceRange, hsp]
    refine ⟨1, by omega, ?_, by rw [hr]; simp⟩
    rw [hr]
    show (0 : Int) = mults ns s 0 + gt ns (((0 + 1 : Nat) : Int) * s) - gt ns s
    have e : (((0 + 1 : Nat) : Int) * s) = s := by omega
    rw [e]
    show (0 : Int) = 0 + gt ns s - gt ns s
    omega
/-- the table of a book -/
def tab (ns : List Int) (g : Nat) : List Int := (List.range g).map fun i : Nat => ct ns ((i : Int) + 1)
theorem tab_len (ns : List Int) (g : Nat) : (tab ns g).length = g := by simp [tab]
theorem tab_at {ns : List Int} {g i : Nat} (h : i < g) : (tab ns g)[i]? = some (ct ns ((i : Int) + 1)) := by
  unfold tab
  rw [List.getElem?_map, List.getElem?_range h]
  rfl
theorem ct_far {ns : List Int} {s : Int} (hs : 1 ≤ s) (h : ∀ x ∈ ns, 1 ≤ x ∧ x ≤ s) : ct ns s = ns.length := by
  have := ct_mults (m := 0) hs (ns := ns) fun x hx => ⟨(h x hx).1, by rw [Int.ediv_eq_zero_of_lt (by have := h x hx; omega) (by have := h x hx; omega)]; simp⟩
  rw [this]
  show (ns.length : Int) + 0 = _
  omega
/-- what the loop of longer_counts computes -/
theorem longer_step {ns L : List Int} {g : Nat} {s : Int} (hs : 1 ≤ s) (hn : ∀ x ∈ ns, 1 ≤ x ∧ x ≤ g) (hLl : L.length = g + 1) (hL : ∀ i : Nat, s < i → i < L.length → L[i]? = some (gt ns i)) :
    ct ns s - ns.length - (pickSl L (some (2 * s)) (some s)).sum = gt ns s ∧ (pickSl L (some (2 * s)) (some s)).length ≤ g + 1 := by
  obtain ⟨m, h1, h2, h3⟩ := sum_pick hs hL
  have := ct_mults (m := m) hs (ns := ns) fun x hx => ⟨(hn x hx).1, by
    have h4 : (x - 1) / s < (m : Int) + 1 := by
      rw [Int.ediv_lt_iff_lt_mul (by omega)]
      have := hn x hx
      omega
    omega⟩
  rw [h2, this]
  exact ⟨by omega, by omega⟩
def spLonger (K : PySem.W.Frag) : Sp := fun vs H Q _ => ∃ (p : Addr) (ns : List Int) (g : Nat), vs = [.ref p] ∧ H p = some (.lst ((tab ns g).map V.int)) ∧ g ≤ 100000 ∧ ns.length ≤ 100000 ∧ (∀ x ∈ ns, 1 ≤ x ∧ x ≤ g) ∧
  ∀ (q : Addr) (H' : Hp), Fr [] H H' → H q = none → H' q = some (.lst (((List.range (g + 1)).map fun i : Nat => gt ns i).map V.int)) → Q (.ref q) H'
/-- tuples of a length and its times -/
def PairsAt (H : Hp) (ps : List Addr) (ls : List (Int × Int)) : Prop := ps.length = ls.length ∧ ∀ (i : Nat) (p : Addr) (l : Int × Int), ps[i]? = some p → ls[i]? = some l → H p = some (.tup [.int l.1, .int l.2])
theorem PairsAt.fr {H H' : Hp} {ps : List Addr} {ls : List (Int × Int)} (h : PairsAt H ps ls) (f : Fr [] H H') : PairsAt H' ps ls := ⟨h.1, fun i p l h1 h2 => f.at0 (h.2 i p l h1 h2)⟩
theorem PairsAt.snoc {H : Hp} {ps : List Addr} {ls : List (Int × Int)} {p : Addr} {l : Int × Int} (h : PairsAt H ps ls) (hp : H p = some (.tup [.int l.1, .int l.2])) : PairsAt H (ps ++ [p]) (ls ++ [l]) := by
  refine ⟨by simp [h.1], fun i q m h1 h2 => ?_⟩
  by_cases hi : i < ps.length
  · rw [List.getElem?_append_left hi] at h1
    rw [List.getElem?_append_left (by rw [← h.1]; exact hi)] at h2
    exact h.2 i q m h1 h2
  · rw [List.getElem?_append_right (by omega)] at h1
    rw [List.getElem?_append_right (by rw [← h.1]; omega), ← h.1] at h2
    by_cases e : i - ps.length = 0
    · rw [e] at h1 h2
      simp at h1 h2
      subst h1 h2
      exact hp
    · rw [List.getElem?_eq_none (by simp; omega)] at h1
      cases h1
/-- the lengths that the tuples tell -/
def expand (ls : List (Int × Int)) : List Int := (ls.map fun l => List.replicate l.2.toNat l.1).flatten
theorem expand_snoc (ls : List (Int × Int)) (l : Int × Int) : expand (ls ++ [l]) = expand ls ++ List.replicate l.2.toNat l.1 := by simp [expand]
theorem expand_mem {ls : List (Int × Int)} {x : Int} (h : x ∈ expand ls) : ∃ l ∈ ls, l.1 = x := by
  unfold expand at h
  obtain ⟨r, hr, hx⟩ := List.mem_flatten.mp h
  obtain ⟨l, hl, rfl⟩ := List.mem_map.mp hr
  exact ⟨l, hl, (List.mem_replicate.mp hx).2.symm⟩
/-- the tuples of all lengths above b -/
structure TimesOf (ns : List Int) (b : Int) (ls : List (Int × Int)) : Prop where
  desc : ls.Pairwise fun x y => y.1 < x.1
  above : ∀ l ∈ ls, b < l.1
  pos : ∀ l ∈ ls, 0 < l.2
  cnt : ∀ l ∈ ls, l.2 = ns.count l.1
  all : ∀ x, b < x → x ∈ ns → ∃ l ∈ ls, l.1 = x
theorem TimesOf.nil {ns : List Int} {g : Int} (h : ∀ x ∈ ns, x ≤ g) : TimesOf ns g [] := ⟨.nil, by simp, by simp, by simp, fun x h1 h2 => by have := h x h2; omega⟩
theorem TimesOf.skip {ns : List Int} {b : Int} {ls : List (Int × Int)} (h : TimesOf ns b ls) (h0 : ns.count b = 0) : TimesOf ns (b - 1) ls :=
  ⟨h.desc, fun l hl => by have := h.above l hl; omega, h.pos, h.cnt, fun x h1 h2 => h.all x (by
    by_cases e : x = b
    · subst e
      exact absurd h2 (List.count_eq_zero.mp h0)
    · omega) h2⟩
theorem TimesOf.snoc {ns : List Int} {b : Int} {ls : List (Int × Int)} (h : TimesOf ns b ls) (h0 : 0 < ns.count b) : TimesOf ns (b - 1) (ls ++ [(b, (ns.count b : Int))]) := by
  refine ⟨List.pairwise_append.mpr ⟨h.desc, by simp, fun l hl m hm => ?_⟩, fun l hl => ?_, fun l hl => ?_, fun l hl => ?_, fun x h1 h2 => ?_⟩
  · rw [List.mem_singleton.mp hm]
    exact h.above l hl
  · rcases List.mem_append.mp hl with z | z
    · have := h.above l z
      omega
    · rw [List.mem_singleton.mp z]
      show b - 1 < b
      omega
  · rcases List.mem_append.mp hl with z | z
    · exact h.pos l z
    · rw [List.mem_singleton.mp z]
      show (0 : Int) < (ns.count b : Int)
      omega
  · rcases List.mem_append.mp hl with z | z
    · exact h.cnt l z
    · rw [List.mem_singleton.mp z]
  · by_cases e : x = b
    · exact ⟨_, List.mem_append_right _ (List.mem_singleton_self _), e.symm⟩
    · obtain ⟨l, hl, e2⟩ := h.all x (by omega) h2
      exact ⟨l, List.mem_append_left _ hl, e2⟩
theorem expand_desc : ∀ {ls : List (Int × Int)}, (ls.Pairwise fun x y => y.1 < x.1) → (expand ls).Pairwise (· ≥ ·)
  | [], _ => .nil
  | l :: ls, h => by
    obtain ⟨h1, h2⟩ := List.pairwise_cons.mp h
    have e : expand (l :: ls) = List.replicate l.2.toNat l.1 ++ expand ls := by simp [expand]
    rw [e]
    refine List.pairwise_append.mpr ⟨List.pairwise_replicate.mpr (.inr (Int.le_refl _)), expand_desc h2, fun x hx y hy => ?_⟩
    rw [(List.mem_replicate.mp hx).2]
    obtain ⟨m, hm, rfl⟩ := expand_mem hy
    have := h1 m hm
    omega
theorem expand_count : ∀ {ls : List (Int × Int)} {x : Int}, (ls.Pairwise fun x y => y.1 < x.1) → (∀ l ∈ ls, 0 ≤ l.2) → (∀ l ∈ ls, l.1 = x → ((expand ls).count x : Int) = l.2) ∧ ((∀ l ∈ ls, l.1 ≠ x) → (expand ls).count x = 0)
  | [], _, _, _ => by simp [expand]
  | l :: ls, x, h, hp => by
    obtain ⟨h1, h2⟩ := List.pairwise_cons.mp h
    obtain ⟨i1, i2⟩ := expand_count (x := x) h2 fun m hm => hp m (List.mem_cons_of_mem _ hm)
    have e : expand (l :: ls) = List.replicate l.2.toNat l.1 ++ expand ls := by simp [expand]
    rw [e, List.count_append, List.count_replicate]
    have hl := hp l List.mem_cons_self
    refine ⟨fun m hm hx => ?_, fun hno => ?_⟩
    · rcases List.mem_cons.mp hm with rfl | hm
      · rw [i2 fun q hq => by have := h1 q hq; omega, if_pos (by simpa using hx)]
        omega
      · have hne : ¬ l.1 = x := by have := h1 m hm; omega
        rw [if_neg (by simpa using hne)]
        have := i1 m hm hx
        omega
    · have hne := hno l List.mem_cons_self
      rw [i2 fun q hq => hno q (List.mem_cons_of_mem _ hq), if_neg (by simpa using hne)]
theorem TimesOf.perm {ns : List Int} {ls : List (Int × Int)} (h : TimesOf ns 0 ls) (h1 : ∀ x ∈ ns, 1 ≤ x) : (expand ls).Perm ns := by
  rw [List.perm_iff_count]
  intro x
  obtain ⟨i1, i2⟩ := expand_count (x := x) h.desc fun l hl => Int.le_of_lt (h.pos l hl)
  by_cases hx : x ∈ ns
  · obtain ⟨l, hl, e⟩ := h.all x (by have := h1 x hx; omega) hx
    have a1 := i1 l hl e
    have a2 := h.cnt l hl
    rw [e] at a2
    omega
  · rw [List.count_eq_zero.mpr hx]
    refine i2 fun l hl e => ?_
    have a1 := h.pos l hl
    have a2 := h.cnt l hl
    rw [e, List.count_eq_zero.mpr hx] at a2
    omega
def spTimes (K : PySem.W.Frag) : Sp := fun vs H Q _ => ∃ (p : Addr) (ns : List Int) (g : Nat), vs = [.ref p] ∧ H p = some (.lst ((tab ns g).map V.int)) ∧ g ≤ 100000 ∧ ns.length ≤ 100000 ∧ (∀ x ∈ ns, 1 ≤ x ∧ x ≤ g) ∧
  ∀ (q : Addr) (ps : List Addr) (ls : List (Int × Int)) (H' : Hp), Fr [] H H' → H q = none → H' q = some (.lst (ps.map V.ref)) → PairsAt H' ps ls → TimesOf ns 0 ls → Q (.ref q) H'
def spLengths (K : PySem.W.Frag) : Sp := fun vs H Q _ => ∃ (p : Addr) (ns : List Int) (g : Nat), vs = [.ref p] ∧ H p = some (.lst ((tab ns g).map V.int)) ∧ g ≤ 100000 ∧ ns.length ≤ 100000 ∧ (∀ x ∈ ns, 1 ≤ x ∧ x ≤ g) ∧
  ∀ (q : Addr) (fs : List Int) (H' : Hp), Fr [] H H' → H q = none → H' q = some (.lst (fs.map V.int)) → fs.Perm ns → fs.Pairwise (· ≥ ·) → Q (.ref q) H'
theorem expand_take_le {ls : List (Int × Int)} (i : Nat) : (expand (ls.take i)).length ≤ (expand ls).length := by
  have e : expand ls = expand (ls.take i) ++ expand (ls.drop i) := by
    unfold expand
    rw [← List.flatten_append, ← List.map_append, List.take_append_drop]
  rw [e, List.length_append]
  omega
theorem ct_bound {ns : List Int} {s M : Int} (hs : 1 ≤ s) (h : ∀ x ∈ ns, 1 ≤ x ∧ x ≤ M) : 0 ≤ ct ns s ∧ ct ns s ≤ ns.length * M := by
  induction ns with
  | nil => simp [ct]
  | cons x ns ih =>
    obtain ⟨h1, h2⟩ := ih fun y hy => h y (List.mem_cons_of_mem _ hy)
    have hx := h x List.mem_cons_self
    have h3 : 0 ≤ (x - 1) / s := Int.ediv_nonneg (by omega) (by omega)
    have h4 : (x - 1) / s ≤ x - 1 := Int.ediv_le_self _ (by omega)
    rw [ct_cons, List.length_cons]
    have h5 : ((ns.length + 1 : Nat) : Int) * M = ns.length * M + M := by rw [show ((ns.length + 1 : Nat) : Int) = (ns.length : Int) + 1 by omega, Int.add_mul, Int.one_mul]
    rw [h5]
    omega
theorem tab_succ (ns : List Int) (i : Nat) : tab ns (i + 1) = tab ns i ++ [ct ns ((i : Int) + 1)] := by
  unfold tab
  rw [List.range_succ, List.map_append]
  rfl
theorem tab_mem {ns : List Int} {g : Nat} {y : Int} (h : y ∈ tab ns g) : ∃ i : Nat, i < g ∧ y = ct ns ((i : Int) + 1) := by
  obtain ⟨i, hi, e⟩ := List.mem_map.mp h
  exact ⟨i, List.mem_range.mp hi, e.symm⟩
theorem tab_perm {ns ms : List Int} (h : ns.Perm ms) (g : Nat) : tab ns g = tab ms g := by
  unfold tab ct
  congr 1
  funext i
  exact perm_sum (h.map _)
theorem ct_snoc1 {ns : List Int} {s : Int} : ct (ns ++ [1]) s = ct ns s + 1 := by
  simp [ct, List.sum_append]
theorem pw_perm_eq {xs ys : List Int} (h : xs.Perm ys) (hx : xs.Pairwise (· ≥ ·)) (hy : ys.Pairwise (· ≥ ·)) : xs = ys :=
  List.Perm.eq_of_pairwise (fun a b _ _ h1 h2 => by omega) hx hy h
theorem rev_desc {xs : List Int} (h : xs.Pairwise (· ≤ ·)) : xs.reverse.Pairwise (· ≥ ·) := List.pairwise_reverse.mpr h
/-! ### books and their page counts -/
theorem cp_ct {x s : Int} (hs : 0 < s) : (x + s - 1) / s = (x - 1) / s + 1 := by
  rw [show x + s - 1 = (x - 1) + s by omega, Int.add_ediv_of_dvd_right (Int.dvd_refl s), Int.ediv_self (by omega)]
def spCheckBook (K : PySem.W.Frag) : Sp := fun vs H Q _ => ∃ (p : Addr) (ns : List Int), vs = [.ref p] ∧ H p = some (.lst (ns.map V.int)) ∧ ns.length ≤ 1000000 ∧ (∀ n ∈ ns, 1 ≤ n) ∧ ∀ H', Fr [] H H' → Q .non H'
def spCheckSize : Sp := fun vs H Q _ => ∃ (s : Int), vs = [.int s] ∧ 1 ≤ s ∧ Q .non H
def spCp : Sp := fun vs H Q _ => ∃ (l s : Int), vs = [.int l, .int s] ∧ 0 < s ∧ s < 2 ^ 390 ∧ Q (.int ((l - 1) / s + 1)) H
def spPages (K : PySem.W.Frag) : Sp := fun vs H Q _ => ∃ (p : Addr) (ns : List Int) (s : Int), vs = [.ref p, .int s] ∧ H p = some (.lst (ns.map V.int)) ∧ ns.length ≤ 1000000 ∧ 0 < s ∧ s < 2 ^ 390 ∧ ∀ H', Fr [] H H' → Q (.int (ct ns s)) H'
def spPagesC (K : PySem.W.Frag) : Sp := fun vs H Q _ => ∃ (p : Addr) (ns : List Int) (s : Int), vs = [.ref p, .int s] ∧ H p = some (.lst (ns.map V.int)) ∧ ns.length ≤ 1000000 ∧ (∀ n ∈ ns, 1 ≤ n) ∧ 0 < s ∧ s < 2 ^ 390 ∧ ∀ H', Fr [] H H' → Q (.int (ct ns s)) H'
set_option maxHeartbeats 4000000 in
theorem ok_check_book (T : Txt K mg c) : DefAt P w K mg base "check_book" s_check_book 1 ["book"] (spCheckBook K) := by
  refine T.f_check_book.ok sc_check_book (fun vs H Q E h => ?_) (fun _ _ _ _ _ _ us hl => match us, hl with | [_], _ => rfl) (fun f cdv A outer s H vs Q E hr h => ?_)
  · obtain ⟨p, ns, rfl, hp, hl, h1, q⟩ := h
    rfl
  · obtain ⟨p, ns, rfl, hp, hl, h1, q⟩ := h
    refine ⟨_, (pss_one (ps_for PassesOwn.never rfl (pi_enum (by rfl) T.n_enumerate (pa_cons (pv 0) pa_nil)) (pg_tup rfl (pgs_cons (pg_name (i := 1) sc_check_book.nd rfl (Or.inl rfl)) (pgs_cons (pg_name (i := 2) sc_check_book.nd rfl (Or.inl rfl)) pgs_nil))) (pss_one (ps_if (pt_cmpR op_lt (pv 2) pe_int (nomark _)) (pss_one ps_never) pss_nil)))), ?_⟩
    refine w_start (σ' := [some (.ref p), none, none]) rfl ?_
    walk_at "g"
    refine f_enum (ns.map V.int) (fun i σ' H2 => ∃ v w : Option V, σ' = [some (.ref p), v, w] ∧ Fr [] H H2) ⟨none, none, rfl, Fr.refl⟩ ?_ ?_ ?_
    · rintro i σ' H2 _ ⟨v, w, rfl, f2⟩
      exact SqL.of (f2.at0 hp)
    · rintro i x T σ' H2 hx ⟨v, w, rfl, f2⟩ hT
      obtain ⟨n, hn, rfl⟩ := map_at hx
      walk_at "g"
      refine w_ite (fun h => ?_) (fun h => ?_)
      · have := h1 n (List.mem_of_getElem? hn)
        omega
      · walk_at "g"
        exact ⟨_, _, rfl, by walk_at "F"⟩
    · rintro σ' H2 ⟨v, w, rfl, f2⟩
      exact q _ f2
set_option maxHeartbeats 4000000 in
theorem ok_check_size (T : Txt K mg c) : DefAt P w K mg base "check_size" s_check_size 1 ["size"] spCheckSize := by
  refine T.f_check_size.ok sc_check_size (fun vs H Q E h => ?_) (fun _ _ _ _ _ _ us hl => match us, hl with | [_], _ => rfl) (fun f cdv A outer s H vs Q E hr h => ?_)
  · obtain ⟨n, rfl, n0, q⟩ := h
    rfl
  · obtain ⟨n, rfl, n0, q⟩ := h
    refine ⟨_, (pss_one (ps_if (pt_cmpR op_lt (pv 0) pe_int (nomark _)) (pss_one ps_never) pss_nil)), ?_⟩
    refine w_start (σ' := [some (.int n)]) rfl ?_
    walk_at "g"
    refine w_ite (fun h => ?_) (fun h => ?_)
    · omega
    · walk_at "g"
      exact q
set_option maxHeartbeats 4000000 in
theorem ok_chapter_pages (T : Txt K mg c) : DefAt P w K mg base "chapter_pages" s_chapter_pages 1 ["length", "size"] spCp := by
  refine T.f_chapter_pages.ok sc_chapter_pages (fun vs H Q E h => ?_) (fun _ _ _ _ _ _ us hl => match us, hl with | [_, _], _ => rfl) (fun f cdv A outer s H vs Q E hr h => ?_)
  · obtain ⟨l, n, rfl, n0, n1, q⟩ := h
    rfl
  · obtain ⟨l, n, rfl, n0, n1, q⟩ := h
    refine ⟨_, (pss_one (ps_ret (pe_op op_fdivW (pe_op op_sub (pe_op op_add (pv 0) (pv 1)) pe_int) (pv 1)))), ?_⟩
    refine w_start (σ' := [some (.int l), some (.int n)]) rfl ?_
    walk_at "g"
    rw [cp_ct n0]
    exact q
set_option maxHeartbeats 4000000 in
theorem ok_count_pages (T : Txt K mg c) : DefAt P w K mg base "count_pages" s_count_pages 2 ["book", "size"] (spPages K) := by
  have D_chapter_pages := ok_chapter_pages (P := P) (w := w) (base := base) T
  refine T.f_count_pages.ok sc_count_pages (fun vs H Q E h => ?_) (fun _ _ _ _ _ _ us hl => match us, hl with | [_, _], _ => rfl) (fun f cdv A outer s H vs Q E hr h => ?_)
  · obtain ⟨p, ns, n, rfl, hp, hl, n0, n1, q⟩ := h
    rfl
  · obtain ⟨p, ns, n, rfl, hp, hl, n0, n1, q⟩ := h
    refine ⟨_, (pss_one (ps_ret (pe_callB (cr_sum rfl) (by rfl) T.n_sum (by decide +kernel) (pa_cons (pe_lc (own := [("length", 2)]) (tt := tYes) rfl sc_count_pages.nd (pi_list (pv 0)) (blkOk_by (N := sc_count_pages_N) (sc := defScope s_count_pages) (by decide +kernel)) (fun _ _ _ _ _ => (pg_name (i := 2) sc_count_pages.nd rfl (Or.inl rfl))) (fun _ _ _ _ _ => pts_nil) (fun _ _ _ _ _ => (pe_callD D_chapter_pages (hr.mono (by decide)) (pa_cons (pv 2) (pa_cons (pv 1) pa_nil))))) pa_nil)))), ?_⟩
    refine w_start (σ' := [some (.ref p), some (.int n), none]) rfl ?_
    walk_at "g"
    refine l_map ns (fun l => (l - 1) / n + 1) (SqL.of hp) (fun _ => rfl) (by omega) (fun i l H2 hi f2 Q2 k2 => ?_) (fun L H2 hL f2 h2 => ?_)
    · walk_at "g"
      exact ⟨l, n, rfl, n0, n1, k2 _ Fr.refl⟩
    · walk_at "g"
      exact q _ f2
set_option maxHeartbeats 4000000 in
theorem ok_pages (T : Txt K mg c) : DefAt P w K mg base "pages" s_pages 3 ["book", "size"] (spPagesC K) := by
  have D_check_book := ok_check_book (P := P) (w := w) (base := base) T
  have D_check_size := ok_check_size (P := P) (w := w) (base := base) T
  have D_count_pages := ok_count_pages (P := P) (w := w) (base := base) T
  refine T.f_pages.ok sc_pages (fun vs H Q E h => ?_) (fun _ _ _ _ _ _ us hl => match us, hl with | [_, _], _ => rfl) (fun f cdv A outer s H vs Q E hr h => ?_)
  · obtain ⟨p, ns, n, rfl, hp, hl, h1, n0, n1, q⟩ := h
    rfl
  · obtain ⟨p, ns, n, rfl, hp, hl, h1, n0, n1, q⟩ := h
    refine ⟨_, (pss_cons (ps_expr (pe_callD D_check_book (hr.mono (by decide)) (pa_cons (pv 0) pa_nil)))
    (pss_cons (ps_expr (pe_callD D_check_size (hr.mono (by decide)) (pa_cons (pv 1) pa_nil)))
    (pss_one (ps_ret (pe_callD D_count_pages (hr.mono (by decide)) (pa_cons (pv 0) (pa_cons (pv 1) pa_nil))))))), ?_⟩
    refine w_start (σ' := [some (.ref p), some (.int n)]) rfl ?_
    walk_at "g"
    refine ⟨p, ns, rfl, hp, hl, h1, fun H2 f2 => ?_⟩
    walk_at "g"
    refine ⟨n, rfl, by omega, ?_⟩
    walk_at "g"
    exact ⟨p, ns, n, rfl, f2.at0 hp, hl, n0, n1, fun H3 f3 => q H3 (f2.trans f3)⟩
def spCounts (K : PySem.W.Frag) : SpG := fun vs H Q _ => ∃ (p : Addr) (ns : List Int) (g : Nat), vs = [.ref p, .int g] ∧ H p = some (.lst (ns.map V.int)) ∧ ns.length ≤ 1000000 ∧ (∀ n ∈ ns, 1 ≤ n) ∧ g ≤ 100000 ∧ ∀ H', Fr [] H H' → Q ((tab ns g).map V.int) H'
set_option maxHeartbeats 4000000 in
theorem ok_counts (T : Txt K mg c) : GnAt P w K mg base "counts" s_counts 3 ["book", "limit"] (spCounts K) := by
  have D_check_book := ok_check_book (P := P) (w := w) (base := base) T
  have D_count_pages := ok_count_pages (P := P) (w := w) (base := base) T
  refine T.f_counts.okGn sc_counts (fun vs H Q E h => ?_) (fun _ _ _ _ _ _ us hl => match us, hl with | [_, _], _ => rfl) (fun f cdv A outer s H vs Q E pn hr h => ?_)
  · obtain ⟨p, ns, g, rfl, hp, hl, h1, hg, q⟩ := h
    rfl
  · obtain ⟨p, ns, g, rfl, hp, hl, h1, hg, q⟩ := h
    refine ⟨_, (gss_cons (gs_ps (ps_expr (pe_callD D_check_book (hr.mono (by decide)) (pa_cons (pv 0) pa_nil))))
    (gss_cons (gs_ps (ps_if (pt_cmpR op_lt (pv 1) pe_int (nomark _)) (pss_one ps_never) pss_nil))
    (gss_cons (gs_ps (ps_set (i := 2) sc_counts.nd rfl (Or.inl rfl) pe_int))
    (gss_cons (gs_while owns_gcx (pt_cmpR op_le (pv 2) (pv 1) (nomark _)) (gss_cons (gs_yield (pe_callD D_count_pages (hr.mono (by decide)) (pa_cons (pv 0) (pa_cons (pv 2) pa_nil))))
    (gss_cons (gs_ps (ps_aug (i := 2) sc_counts.nd rfl (Or.inl rfl) pe_int ip_add))
    gss_nil)))
    gss_nil)))), ?_⟩
    refine w_gStart (σ' := [some (.ref p), some (.int g), none]) rfl ?_
    walk_at "g"
    refine ⟨p, ns, rfl, hp, hl, h1, fun H2 f2 => ?_⟩
    walk_at "g"
    refine w_gWhile (fun m ys σ' H' => ∃ i : Nat, ys = (tab ns i).map V.int ∧ i ≤ g ∧ m = g - i ∧ σ' = [some (.ref p), some (.int g), some (.int (1 + i))] ∧ Fr [] H H') g ⟨0, rfl, by omega, rfl, rfl, f2⟩ ?_
    rintro m ys σ' H' ⟨i, rfl, hi, rfl, rfl, f3⟩
    have ti := tab_len ns i
    walk_at "g"
    refine w_ite (fun h => ?_) (fun h => ?_)
    · walk_at "g"
      refine w_gYield (by rw [List.length_map]; omega) ?_
      walk_at "g"
      refine ⟨p, ns, _, rfl, f3.at0 hp, hl, by omega, by omega, fun H4 f4 => ?_⟩
      walk_at "g"
      refine ⟨g - (i + 1), by omega, i + 1, ?_, by omega, rfl, ?_, f3.trans f4⟩
      · rw [tab_succ, List.map_append, show (1 : Int) + i = i + 1 by omega]
        rfl
      · rw [show (1 : Int) + (i + 1 : Nat) = 1 + i + 1 by omega]
        rfl
    · walk_at "g"
      have e : i = g := by omega
      subst e
      exact q _ f3
/-! ### places of lines -/
def cp (x w : Int) : Int := (x - 1) / w + 1
theorem cp_pos {x w : Int} (hw : 0 < w) (hx : 1 ≤ x) : 1 ≤ cp x w := by
  have : 0 ≤ (x - 1) / w := Int.ediv_nonneg (by omega) (by omega)
  unfold cp
  omega
theorem cp_up {x w : Int} (hw : 0 < w) : x ≤ cp x w * w := by
  have := Int.lt_mul_ediv_self_add (x := x - 1) (k := w) hw
  unfold cp
  rw [Int.add_mul, Int.mul_comm]
  omega
theorem cp_down {x w : Int} (hw : 0 < w) : (cp x w - 1) * w < x := by
  have := Int.mul_ediv_self_le (x := x - 1) (k := w) (by omega)
  unfold cp
  rw [Int.mul_comm]
  have e : (x - 1) / w + 1 - 1 = (x - 1) / w := by omega
  rw [e]
  omega
theorem cp_le {x w l : Int} (hw : 0 < w) : l ≤ cp x w ↔ (l - 1) * w < x := by
  unfold cp
  have : l - 1 ≤ (x - 1) / w ↔ (l - 1) * w ≤ x - 1 := Int.le_ediv_iff_mul_le hw
  omega
theorem ct_cp (x : Int) (ns : List Int) (w : Int) : ct (x :: ns) w = cp x w + ct ns w := by rw [ct_cons]; rfl
theorem ct_append (xs ys : List Int) (w : Int) : ct (xs ++ ys) w = ct xs w + ct ys w := by simp [ct]
theorem ct_nonneg {w : Int} (hw : 0 < w) : ∀ {ns : List Int}, (∀ x ∈ ns, 1 ≤ x) → (ns.length : Int) ≤ ct ns w
  | [], _ => by simp [ct]
  | x :: ns, h => by
    have ih := ct_nonneg hw (ns := ns) fun y hy => h y (List.mem_cons_of_mem _ hy)
    have hx := cp_pos hw (h x List.mem_cons_self)
    rw [ct_cp, List.length_cons]
    omega
theorem ct_sum_le {w : Int} (hw : 0 < w) : ∀ (ns : List Int), ns.sum ≤ ct ns w * w
  | [] => by simp [ct]
  | x :: ns => by
    have ih := ct_sum_le hw ns
    have hx := cp_up (x := x) hw
    rw [ct_cp, List.sum_cons, Int.add_mul]
    omega
theorem ct_sum_ge {w : Int} (hw : 0 < w) : ∀ (ns : List Int), (ct ns w - ns.length) * w ≤ ns.sum - ns.length
  | [] => by simp [ct]
  | x :: ns => by
    have ih := ct_sum_ge hw ns
    have hx := cp_down (x := x) hw
    rw [ct_cp, List.sum_cons, List.length_cons]
    have e : (cp x w + ct ns w - ((ns.length + 1 : Nat) : Int)) * w = (cp x w - 1) * w + (ct ns w - ns.length) * w := by
      rw [← Int.add_mul]
      congr 1
      omega
    rw [e]
    omega
theorem ct_over {w : Int} (hw : 0 < w) (ns : List Int) : ct ns w ≤ ns.length + (ns.sum - ns.length) / w := by
  have := (Int.le_ediv_iff_mul_le hw).mpr (ct_sum_ge hw ns)
  omega
theorem sheets_eq {x w : Int} (hw : 0 < w) : x / w + (if decide (0 < x % w) = true then 1 else 0) = cp x w := by
  have h1 := Int.emod_nonneg x (show w ≠ 0 by omega)
  have h2 := Int.emod_lt_of_pos x hw
  have h3 := Int.mul_ediv_add_emod x w
  unfold cp
  by_cases h : 0 < x % w
  · rw [if_pos (decide_eq_true h)]
    have : (x - 1) / w = x / w := by
      rw [show x - 1 = (x % w - 1) + w * (x / w) by omega, Int.add_mul_ediv_left _ _ (by omega), Int.ediv_eq_zero_of_lt (by omega) (by omega)]
      omega
    omega
  · rw [if_neg (by simpa using h)]
    have e : x % w = 0 := by omega
    have : (x - 1) / w = x / w - 1 := by
      rw [show x - 1 = (w - 1) + w * (x / w - 1) by rw [Int.mul_sub]; omega, Int.add_mul_ediv_left _ _ (by omega), Int.ediv_eq_zero_of_lt (by omega) (by omega)]
      omega
    omega
theorem cp_sum_le {w : Int} (hw : 0 < w) (ns : List Int) : cp ns.sum w ≤ ct ns w := by
  have h := ct_sum_le hw ns
  have : cp ns.sum w ≤ ct ns w ↔ cp ns.sum w < ct ns w + 1 := by omega
  rw [this]
  apply Int.not_le.mp
  intro h2
  have h3 := (cp_le (x := ns.sum) (l := ct ns w + 1) hw).mp h2
  have e : ct ns w + 1 - 1 = ct ns w := by omega
  rw [e] at h3
  omega
theorem cp_mono {x w v : Int} (hw : 0 < w) (h : w ≤ v) (hx : 1 ≤ x) : cp x v ≤ cp x w := by
  rw [cp_le hw]
  have h1 := cp_down (x := x) (w := v) (by omega)
  have h2 := cp_pos (x := x) (w := v) (by omega) hx
  have := Int.mul_le_mul_of_nonneg_left h (show 0 ≤ cp x v - 1 by omega)
  omega
theorem ct_mono {w v : Int} (hw : 0 < w) (h : w ≤ v) : ∀ {ns : List Int}, (∀ x ∈ ns, 1 ≤ x) → ct ns v ≤ ct ns w
  | [], _ => by simp [ct]
  | x :: ns, hn => by
    have ih := ct_mono hw h (ns := ns) fun y hy => hn y (List.mem_cons_of_mem _ hy)
    have hx := cp_mono hw h (hn x List.mem_cons_self)
    rw [ct_cp, ct_cp]
    omega
theorem cp_times {x w m : Int} (hw : 0 < w) (hm : 1 ≤ m) : cp x w ≤ m * cp x (w * m) := by
  have hp : 0 < w * m := Int.mul_pos hw (by omega)
  have h1 := cp_up (x := x) hp
  have : cp x w ≤ m * cp x (w * m) ↔ cp x w < m * cp x (w * m) + 1 := by omega
  rw [this]
  apply Int.not_le.mp
  intro h2
  have h3 := (cp_le (x := x) (l := m * cp x (w * m) + 1) hw).mp h2
  have e : (m * cp x (w * m) + 1 - 1) * w = cp x (w * m) * (w * m) := by
    have : m * cp x (w * m) + 1 - 1 = m * cp x (w * m) := by omega
    rw [this, Int.mul_comm m, Int.mul_assoc, Int.mul_comm m w]
  rw [e] at h3
  omega
theorem ct_times {w m : Int} (hw : 0 < w) (hm : 1 ≤ m) : ∀ (ns : List Int), ct ns w ≤ m * ct ns (w * m)
  | [] => by simp [ct]
  | x :: ns => by
    have ih := ct_times hw hm ns
    have hx := cp_times (x := x) hw hm
    rw [ct_cp, ct_cp, Int.mul_add]
    omega
theorem cp_join {x y w : Int} (hw : 0 < w) (hx : 1 ≤ x) (hy : 1 ≤ y) : cp (x + y) w ≤ cp x w + cp y w ∧ cp x w + cp y w - 1 ≤ cp (x + y) w := by
  constructor
  · have := cp_sum_le hw [x, y]
    rw [ct_cp, ct_cp] at this
    simpa [ct] using this
  · rw [cp_le hw]
    have h1 := cp_down (x := x) hw
    have h2 := cp_down (x := y) hw
    have e : (cp x w + cp y w - 1 - 1) * w = (cp x w - 1) * w + (cp y w - 1) * w := by
      rw [← Int.add_mul]
      congr 1
      omega
    rw [e]
    omega
/-- the lines a to b of the chapter i -/
def seg (i a b : Int) : List (Int × Int) := (List.range (b + 1 - a).toNat).map fun k : Nat => (i, a + (k : Int))
theorem seg_nil {i a b : Int} (h : b < a) : seg i a b = [] := by
  unfold seg
  rw [show (b + 1 - a).toNat = 0 by omega]
  rfl
theorem seg_app {i a m b : Int} (h1 : a ≤ m + 1) (h2 : m ≤ b) : seg i a m ++ seg i (m + 1) b = seg i a b := by
  unfold seg
  rw [show (b + 1 - a).toNat = (m + 1 - a).toNat + (b + 1 - (m + 1)).toNat by omega, List.range_add, List.map_append, List.map_map]
  congr 1
  refine List.map_congr_left fun k _ => ?_
  show (i, m + 1 + (k : Int)) = (i, a + (((m + 1 - a).toNat + k : Nat) : Int))
  congr 1
  omega
def allL : Int → List Int → List (Int × Int)
  | _, [] => []
  | i, x :: xs => seg i 1 x ++ allL (i + 1) xs
theorem allL_snoc : ∀ (i : Int) (xs : List Int) (x : Int), allL i (xs ++ [x]) = allL i xs ++ seg (i + xs.length) 1 x
  | i, [], x => by simp [allL]
  | i, y :: xs, x => by
    show seg i 1 y ++ allL (i + 1) (xs ++ [x]) = seg i 1 y ++ allL (i + 1) xs ++ _
    rw [allL_snoc (i + 1) xs x, List.append_assoc, List.length_cons]
    congr 3
    omega
def doneL (w : Int) : Int → List Int → Int → List (Int × Int)
  | _, [], _ => []
  | i, x :: xs, j => if j ≤ cp x w then seg i 1 (min (j * w) x) else seg i 1 x ++ doneL w (i + 1) xs (j - cp x w)
theorem done_zero {w : Int} (hw : 0 < w) (i : Int) : ∀ {ns : List Int}, (∀ x ∈ ns, 1 ≤ x) → doneL w i ns 0 = []
  | [], _ => rfl
  | x :: ns, h => by
    have hx := h x List.mem_cons_self
    have := cp_pos hw hx
    show (if (0 : Int) ≤ cp x w then _ else _) = _
    rw [if_pos (by omega), Int.zero_mul, seg_nil (by omega)]
theorem done_all {w : Int} (hw : 0 < w) : ∀ (i : Int) {ns : List Int}, (∀ x ∈ ns, 1 ≤ x) → doneL w i ns (ct ns w) = allL i ns
  | _, [], _ => rfl
  | i, x :: ns, h => by
    have hn : ∀ y ∈ ns, 1 ≤ y := fun y hy => h y (List.mem_cons_of_mem _ hy)
    have ih := done_all hw (i + 1) hn
    have hx := h x List.mem_cons_self
    have c1 := ct_nonneg hw hn
    have up := cp_up (x := x) hw
    show (if ct (x :: ns) w ≤ cp x w then _ else _) = seg i 1 x ++ allL (i + 1) ns
    rw [ct_cp]
    split
    · rename_i hle
      have e : ns = [] := List.eq_nil_of_length_eq_zero (by omega)
      subst e
      have e2 : ct [] w = 0 := rfl
      rw [e2, Int.add_zero, Int.min_eq_right up]
      simp [allL]
    · rw [show cp x w + ct ns w - cp x w = ct ns w by omega, ih]
theorem done_step {w : Int} (hw : 0 < w) : ∀ (i : Int) {ns : List Int} (k : Nat) (x j l : Int), (∀ x ∈ ns, 1 ≤ x) → ns[k]? = some x → l = j - ct (ns.take k) w → 1 ≤ l → l ≤ cp x w →
    doneL w i ns j = doneL w i ns (j - 1) ++ seg (i + k) ((l - 1) * w + 1) (min (l * w) x)
  | i, [], k, x, j, l, _, hk, _, _, _ => by simp at hk
  | i, y :: ns, 0, x, j, l, h, hk, hl, l1, l2 => by
    have e : y = x := by simpa using hk
    subst e
    have e2 : l = j := by rw [hl]; simp [ct]
    subst e2
    have hy := h y List.mem_cons_self
    have dn := (cp_le (x := y) hw).mp l2
    have s0 : 0 ≤ (l - 1) * w := Int.mul_nonneg (by omega) (by omega)
    have s1 : l * w = (l - 1) * w + w := by rw [Int.sub_mul]; omega
    show (if l ≤ cp y w then _ else _) = (if l - 1 ≤ cp y w then _ else _) ++ _
    rw [if_pos l2, if_pos (by omega), Int.min_eq_left (a := (l - 1) * w) (by omega), show i + ((0 : Nat) : Int) = i by omega, seg_app (by omega) (by omega)]
  | i, y :: ns, k + 1, x, j, l, h, hk, hl, l1, l2 => by
    have hn : ∀ y ∈ ns, 1 ≤ y := fun z hz => h z (List.mem_cons_of_mem _ hz)
    have hk2 : ns[k]? = some x := by simpa using hk
    have hy := h y List.mem_cons_self
    have up := cp_up (x := y) hw
    have ht : ∀ z ∈ ns.take k, 1 ≤ z := fun z hz => hn z (List.mem_of_mem_take hz)
    have c1 := ct_nonneg hw ht
    have hl2 : l = (j - cp y w) - ct (ns.take k) w := by
      rw [hl, List.take_succ_cons, ct_cp]
      omega
    have ih := done_step hw (i + 1) k x (j - cp y w) l hn hk2 hl2 l1 l2
    show (if j ≤ cp y w then _ else _) = (if j - 1 ≤ cp y w then _ else _) ++ _
    rw [if_neg (by omega), ih, show i + ((k + 1 : Nat) : Int) = i + 1 + k by omega]
    by_cases hj : j - 1 ≤ cp y w
    · rw [if_pos hj]
      have e : j - 1 = cp y w := by omega
      rw [e, Int.min_eq_right up, show j - cp y w - 1 = 0 by omega, done_zero hw (i + 1) hn, List.nil_append]
    · rw [if_neg hj, show j - cp y w - 1 = j - 1 - cp y w by omega, List.append_assoc]
theorem dpAll_pairs {K : PySem.W.Frag} {H : Hp} : ∀ {ps : List Addr} {ls : List (Int × Int)}, PairsAt H ps ls → DpAll K H (ps.map V.ref) (ls.map dP)
  | [], [], _ => .nil
  | [], _ :: _, h => by cases h.1
  | _ :: _, [], h => by cases h.1
  | p :: ps, l :: ls, h => .cons (.tup (SqT.of (h.2 0 p l rfl rfl)) (.cons (.int _) (.cons (.int _) .nil))) (dpAll_pairs ⟨by simpa using h.1, fun i q m h1 h2 => h.2 (i + 1) q m (by simpa using h1) (by simpa using h2)⟩)
theorem w_eqPairs {K : PySem.W.Frag} {H : Hp} {Q : VK} {a b : Addr} {ps qs : List Addr} {ls ms : List (Int × Int)} (ha : H a = some (.lst (ps.map V.ref))) (hb : H b = some (.lst (qs.map V.ref))) (h1 : PairsAt H ps ls) (h2 : PairsAt H qs ms) (k : Q (.bl (decide (ls = ms))) H) : rEqD K (.ref a) (.ref b) H Q :=
  ⟨_, _, .lst (SqL.of ha) (dpAll_pairs h1), .lst (SqL.of hb) (dpAll_pairs h2), shaped_pairs _, shaped_pairs _, by simp only [PyData.eqv]; rw [eqvAll_pairs]; exact k⟩
theorem PairsAt.app {H : Hp} {ps qs : List Addr} {ls ms : List (Int × Int)} (h : PairsAt H ps ls) (k : PairsAt H qs ms) : PairsAt H (ps ++ qs) (ls ++ ms) := by
  refine ⟨by simp [h.1, k.1], fun i q m h1 h2 => ?_⟩
  by_cases hi : i < ps.length
  · rw [List.getElem?_append_left hi] at h1
    rw [List.getElem?_append_left (by rw [← h.1]; exact hi)] at h2
    exact h.2 i q m h1 h2
  · rw [List.getElem?_append_right (by omega)] at h1
    rw [List.getElem?_append_right (by rw [← h.1]; omega), ← h.1] at h2
    exact k.2 _ q m h1 h2
theorem PairsAt.nil {H : Hp} : PairsAt H [] [] := ⟨rfl, by simp⟩
/-- a pair's address is not the list's -/
theorem PairsAt.put {H : Hp} {a : Addr} {xs ys : List V} {ps : List Addr} {ls : List (Int × Int)} (h : PairsAt H ps ls) (ha : H a = some (.lst xs)) : PairsAt (upd H a (.lst ys)) ps ls := by
  refine ⟨h.1, fun i q m h1 h2 => ?_⟩
  have e := h.2 i q m h1 h2
  have hne : q ≠ a := by
    rintro rfl
    rw [ha] at e
    cases e
  rw [upd_ne hne]
  exact e
theorem PairsAt.frL {H H' : Hp} {a : Addr} {xs : List V} {ps : List Addr} {ls : List (Int × Int)} (h : PairsAt H ps ls) (f : Fr [a] H H') (ha : H a = some (.lst xs)) : PairsAt H' ps ls := by
  refine ⟨h.1, fun i q m h1 h2 => ?_⟩
  have e := h.2 i q m h1 h2
  have hne : q ≠ a := by
    rintro rfl
    rw [ha] at e
    cases e
  exact f.at (nn2 hne) e
theorem seg_one (i a : Int) (n : Nat) : (List.range (n + 1)).map (fun k : Nat => (i, a + (k : Int))) = (List.range n).map (fun k : Nat => (i, a + (k : Int))) ++ [(i, a + n)] := by
  rw [List.range_succ, List.map_append]
  rfl
/-- where a page lies: the chapter (from 0), its place among the pages of the chapter -/
def OnPage (ns : List Int) (w pg : Int) (k : Nat) (x l : Int) : Prop := ns[k]? = some x ∧ l = pg - ct (ns.take k) w ∧ 1 ≤ l ∧ l ≤ cp x w
/-- lines_on: the chapter, the first and the last line of a page -/
def spLinesOn (K : PySem.W.Frag) : Sp := fun vs H Q _ => ∃ (p : Addr) (ns : List Int) (w j : Int), vs = [.ref p, .int w, .int j] ∧ H p = some (.lst (ns.map V.int)) ∧ ns.length ≤ 1000000 ∧ (∀ n ∈ ns, 1 ≤ n) ∧ 0 < w ∧ w < 2 ^ 390 ∧ 1 ≤ j ∧ j ≤ ct ns w ∧ ct ns w < 2 ^ 390 ∧
  ∀ (q : Addr) (k : Nat) (x l : Int) (H' : Hp), OnPage ns w j k x l → Fr [] H H' → H q = none → H' q = some (.tup [.int (k + 1), .int ((l - 1) * w + 1), .int (if x < l * w then x else l * w)]) → Q (.ref q) H'
def spPageOf (K : PySem.W.Frag) : Sp := fun vs H Q _ => ∃ (p : Addr) (ns : List Int) (w : Int) (k : Nat) (x b : Int), vs = [.ref p, .int w, .int (k + 1), .int b] ∧ H p = some (.lst (ns.map V.int)) ∧ ns.length ≤ 1000000 ∧ (∀ n ∈ ns, 1 ≤ n) ∧ 0 < w ∧ w < 2 ^ 390 ∧ ns[k]? = some x ∧ 1 ≤ b ∧ b ≤ x ∧
  ∀ H', Fr [] H H' → Q (.int (ct (ns.take k) w + cp b w)) H'
set_option maxHeartbeats 4000000 in
theorem ok_page_of (T : Txt K mg c) : DefAt P w K mg base "page_of" s_page_of 3 ["book", "size", "chapter", "line"] (spPageOf K) := by
  have D_check_book := ok_check_book (P := P) (w := w) (base := base) T
  have D_check_size := ok_check_size (P := P) (w := w) (base := base) T
  have D_count_pages := ok_count_pages (P := P) (w := w) (base := base) T
  have D_chapter_pages := ok_chapter_pages (P := P) (w := w) (base := base) T
  refine T.f_page_of.ok sc_page_of (fun vs H Q E h => ?_) (fun _ _ _ _ _ _ us hl => match us, hl with | [_, _, _, _], _ => rfl) (fun f cdv A outer s H vs Q E hr h => ?_)
  · obtain ⟨p, ns, n, k, x, b, rfl, hp, hl, h1, n0, n1, hk, b0, b1, q⟩ := h
    rfl
  · obtain ⟨p, ns, n, k, x, b, rfl, hp, hl, h1, n0, n1, hk, b0, b1, q⟩ := h
    refine ⟨_, (pss_cons (ps_expr (pe_callD D_check_book (hr.mono (by decide)) (pa_cons (pv 0) pa_nil)))
    (pss_cons (ps_expr (pe_callD D_check_size (hr.mono (by decide)) (pa_cons (pv 1) pa_nil)))
    (pss_cons (ps_if (pt_not (pt_chain op_le op_le pe_int (pv 2) (pe_callB call_lenN (by rfl) T.n_len (by decide +kernel) (pa_cons (pv 0) pa_nil)))) (pss_one ps_never) pss_nil)
    (pss_cons (ps_if (pt_not (pt_chain op_le op_le pe_int (pv 3) (pe_ix ix_list (pv 0) (pe_op op_sub (pv 2) pe_int) (fun _ _ => rfl)))) (pss_one ps_never) pss_nil)
    (pss_one (ps_ret (pe_op op_add (pe_callD D_count_pages (hr.mono (by decide)) (pa_cons (pe_slice sl_list (pv 0) po_none (po_some (pe_op op_sub (pv 2) pe_int))) (pa_cons (pv 1) pa_nil))) (pe_callD D_chapter_pages (hr.mono (by decide)) (pa_cons (pv 3) (pa_cons (pv 1) pa_nil)))))))))), ?_⟩
    refine w_start (σ' := [some (.ref p), some (.int n), some (.int (k + 1)), some (.int b)]) rfl ?_
    walk_at "g"
    refine ⟨p, ns, rfl, hp, hl, h1, fun H2 f2 => ?_⟩
    have hkl := (List.getElem?_eq_some_iff.mp hk).1
    have h2p := f2.at0 hp
    walk_at "g"
    refine ⟨n, rfl, by omega, ?_⟩
    walk_at "g"
    refine w_iteP (by omega) ?_
    walk_at "g"
    refine w_iteNP (by omega) ?_
    walk_at "g"
    rename_i bx hbx
    have ex : bx = x := by
      rw [show ((k : Int) + 1 - 1).toNat = k by omega, hk] at hbx
      exact (Option.some.inj hbx).symm
    subst ex
    refine w_iteNP b1 ?_
    walk_at "g"
    rename_i p2 np2
    refine ⟨p2, ns.take k, n, rfl, ?_, ?_, n0, n1, fun H3 f3 => ?_⟩
    · rw [upd_same, show (k : Int) + 1 - 1 = (k : Int) by omega, cutI_take]
    · rw [List.length_take]; omega
    · walk_at "g"
      refine ⟨b, n, rfl, n0, n1, ?_⟩
      walk_at "g"
      exact q _ (by walk_at "F")
set_option maxHeartbeats 4000000 in
theorem ok_lines_on (T : Txt K mg c) : DefAt P w K mg base "lines_on" s_lines_on 2 ["book", "size", "page"] (spLinesOn K) := by
  have D_check_book := ok_check_book (P := P) (w := w) (base := base) T
  have D_check_size := ok_check_size (P := P) (w := w) (base := base) T
  have D_chapter_pages := ok_chapter_pages (P := P) (w := w) (base := base) T
  refine T.f_lines_on.ok sc_lines_on (fun vs H Q E h => ?_) (fun _ _ _ _ _ _ us hl => match us, hl with | [_, _, _], _ => rfl) (fun f cdv A outer s H vs Q E hr h => ?_)
  · obtain ⟨p, ns, n, j, rfl, hp, hl, h1, n0, n1, j0, j1, j2, q⟩ := h
    rfl
  · obtain ⟨p, ns, n, j, rfl, hp, hl, h1, n0, n1, j0, j1, j2, q⟩ := h
    refine ⟨_, (pss_cons (ps_expr (pe_callD D_check_book (hr.mono (by decide)) (pa_cons (pv 0) pa_nil)))
    (pss_cons (ps_expr (pe_callD D_check_size (hr.mono (by decide)) (pa_cons (pv 1) pa_nil)))
    (pss_cons (ps_set (i := 3) sc_lines_on.nd rfl (Or.inl rfl) (pv 2))
    (pss_cons (ps_for PassesOwn.never rfl (pi_enum (by rfl) T.n_enumerate (pa_cons (pv 0) pa_nil)) (pg_tup rfl (pgs_cons (pg_name (i := 4) sc_lines_on.nd rfl (Or.inl rfl)) (pgs_cons (pg_name (i := 5) sc_lines_on.nd rfl (Or.inl rfl)) pgs_nil))) (pss_cons (ps_if (pt_chain op_le op_le pe_int (pv 3) (pe_callD D_chapter_pages (hr.mono (by decide)) (pa_cons (pv 5) (pa_cons (pv 1) pa_nil)))) (pss_one (ps_ret (pe_tup (pa_cons (pe_op op_add (pv 4) pe_int) (pa_cons (pe_op op_add (pe_op op_mulW (pe_op op_sub (pv 3) pe_int) (pv 1)) pe_int) (pa_cons (pe_callB (call_min2N rfl) (by rfl) T.n_min (by decide +kernel) (pa_cons (pe_op op_mulW (pv 3) (pv 1)) (pa_cons (pv 5) pa_nil))) pa_nil)))))) pss_nil)
    (pss_one (ps_aug (i := 3) sc_lines_on.nd rfl (Or.inl rfl) (pe_callD D_chapter_pages (hr.mono (by decide)) (pa_cons (pv 5) (pa_cons (pv 1) pa_nil))) ip_sub))))
    (pss_one ps_never))))), ?_⟩
    refine w_start (σ' := [some (.ref p), some (.int n), some (.int j), none, none, none]) rfl ?_
    walk_at "g"
    refine ⟨p, ns, rfl, hp, hl, h1, fun H2 f2 => ?_⟩
    have h2p := f2.at0 hp
    walk_at "g"
    refine ⟨n, rfl, by omega, ?_⟩
    walk_at "g"
    refine f_enum (ns.map V.int) (fun i σ' H' => ∃ (o1 o2 : Option V), σ' = [some (.ref p), some (.int n), some (.int j), some (.int (j - ct (ns.take i) n)), o1, o2] ∧ Fr [] H H' ∧ 1 ≤ j - ct (ns.take i) n) ⟨none, none, ?_, f2, ?_⟩ ?_ ?_ ?_
    · have e0 : j - ct (ns.take 0) n = j := by simp [ct]
      rw [e0]
      rfl
    · have e0 : j - ct (ns.take 0) n = j := by simp [ct]
      omega
    · rintro i σ' H3 _ ⟨o1, o2, rfl, f3, _⟩
      exact SqL.of (f3.at0 hp)
    · rintro i x T σ' H3 hx ⟨o1, o2, rfl, f3, j3⟩ hT
      obtain ⟨m, hm, rfl⟩ := map_at hx
      have hm1 := h1 m (List.mem_of_getElem? hm)
      have hil := (List.getElem?_eq_some_iff.mp hm).1
      walk_at "g"
      have ht : ct (ns.take (i + 1)) n = ct (ns.take i) n + cp m n := by
        rw [List.take_succ, hm, ct_append]
        simp [ct, cp]
      refine ⟨m, n, rfl, n0, n1, ?_⟩
      have hcm : (m - 1) / n + 1 = cp m n := rfl
      rw [hcm]
      have c0 : 0 ≤ ct (ns.take i) n := by
        have := ct_nonneg n0 (ns := ns.take i) fun z hz => h1 z (List.mem_of_mem_take hz)
        omega
      walk_at "g"
      refine w_ite (fun hle => ?_) (fun hgt => ?_)
      · walk_at "g"
        rename_i u nu
        have f3t : Fr [] H (upd H3 T (.tup [.int i, .int m])) := f3.new hT
        exact q u i m (j - ct (ns.take i) n) _ ⟨hm, rfl, j3, hle⟩ (f3t.new nu) (f3t.free List.not_mem_nil nu) upd_same
      · walk_at "g"
        refine ⟨m, n, rfl, n0, n1, ?_⟩
        walk_at "g"
        have e : j - ct (ns.take (i + 1)) n = j - ct (ns.take i) n - ((m - 1) / n + 1) := by rw [ht]; unfold cp; omega
        refine ⟨some (.int i), some (.int m), ?_, by walk_at "F", by omega⟩
        rw [e]
        rfl
    · rintro σ' H3 ⟨o1, o2, rfl, f3, j3⟩
      rw [List.length_map, List.take_length] at j3
      omega
theorem ct_one (ns : List Int) : ct ns 1 = ns.sum := by
  induction ns with
  | nil => rfl
  | cons x ns ih =>
    rw [ct_cons, ih, Int.ediv_one, List.sum_cons]
    omega
theorem ct_rev (xs : List Int) (w : Int) : ct xs.reverse w = ct xs w := by
  induction xs with
  | nil => rfl
  | cons x xs ih =>
    rw [List.reverse_cons, ct_append, ih, ct_cp, ct_cp]
    simp [ct]
    omega
def gtab (ns : List Int) (n : Nat) : List Int := (List.range n).map fun i : Nat => gt ns i
theorem gtab_len (ns : List Int) (n : Nat) : (gtab ns n).length = n := by simp [gtab]
theorem gtab_succ (ns : List Int) (n : Nat) : gtab ns (n + 1) = gtab ns n ++ [gt ns n] := by
  unfold gtab
  rw [List.range_succ, List.map_append]
  rfl
theorem gtab_at {ns : List Int} {n i : Nat} (h : i < n) : (gtab ns n)[i]? = some (gt ns i) := by
  unfold gtab
  rw [List.getElem?_map, List.getElem?_range h]
  rfl
def gmul (ns : List Int) (w : Int) (n : Nat) : List Int := (List.range n).map fun k : Nat => gt ns (k * w)
theorem gmul_succ (ns : List Int) (w : Int) (n : Nat) : gmul ns w (n + 1) = gmul ns w n ++ [gt ns (n * w)] := by
  unfold gmul
  rw [List.range_succ, List.map_append]
  rfl
theorem gmul_sum (ns : List Int) (w : Int) : ∀ m, (gmul ns w (m + 1)).sum = gt ns 0 + mults ns w m
  | 0 => by
    show (gmul ns w (0 + 1)).sum = _
    simp [gmul, mults]
  | m + 1 => by
    rw [gmul_succ, List.sum_append, gmul_sum ns w m]
    show _ = gt ns 0 + (mults ns w m + gt ns ((m + 1 : Nat) * w))
    simp
    omega
theorem gmul_ct {ns : List Int} {w M : Int} (hw : 1 ≤ w) (h : ∀ x ∈ ns, 1 ≤ x ∧ x ≤ M) (hM : 1 ≤ M) : (gmul ns w ((M + 1 - 0 + w - 1) / w).toNat).sum = ct ns w := by
  have e : (M + 1 - 0 + w - 1) / w = M / w + 1 := by
    rw [show M + 1 - 0 + w - 1 = M + w by omega, Int.add_ediv_of_dvd_right (Int.dvd_refl w), Int.ediv_self (by omega)]
  have h0 : 0 ≤ M / w := Int.ediv_nonneg (by omega) (by omega)
  rw [e, show (M / w + 1).toNat = (M / w).toNat + 1 by omega, gmul_sum, gt_all fun x hx => by have := h x hx; omega]
  rw [ct_mults (m := (M / w).toNat) hw fun x hx => ⟨(h x hx).1, by
    rw [Int.toNat_of_nonneg h0]
    exact Int.ediv_le_ediv (by omega) (by have := h x hx; omega)⟩]
theorem step_in {M w : Int} {j : Nat} (hw : 1 ≤ w) (hM : 0 ≤ M) (h : j < ((M + 1 - 0 + w - 1) / w).toNat) : 0 ≤ (j : Int) * w ∧ (j : Int) * w ≤ M := by
  refine ⟨Int.mul_nonneg (by omega) (by omega), ?_⟩
  have e : (M + 1 - 0 + w - 1) / w = M / w + 1 := by
    rw [show M + 1 - 0 + w - 1 = M + w by omega, Int.add_ediv_of_dvd_right (Int.dvd_refl w), Int.ediv_self (by omega)]
  have h0 : 0 ≤ M / w := Int.ediv_nonneg (by omega) (by omega)
  rw [e] at h
  exact (Int.le_ediv_iff_mul_le (by omega)).mp (by omega)
theorem gmul_len (ns : List Int) (w : Int) (n : Nat) : (gmul ns w n).length = n := by simp [gmul]
theorem gt_filter (ns : List Int) (i : Int) : ((ns.filter fun x => decide (i < x)).length : Int) = gt ns i := by
  unfold gt
  rw [List.countP_eq_length_filter]
theorem sum_bound {xs : List Int} {B : Int} (h : ∀ x ∈ xs, 1 ≤ x ∧ x ≤ B) : (xs.length : Int) ≤ xs.sum ∧ xs.sum ≤ xs.length * B := by
  induction xs with
  | nil => simp
  | cons x xs ih =>
    have h1 := ih fun y hy => h y (List.mem_cons_of_mem _ hy)
    have h2 := h x List.mem_cons_self
    rw [List.sum_cons, List.length_cons, show ((xs.length + 1 : Nat) : Int) * B = xs.length * B + B by rw [show ((xs.length + 1 : Nat) : Int) = (xs.length : Int) + 1 by omega, Int.add_mul]; omega]
    omega
def spLens : Sp := fun vs H Q _ => ∃ (a g : Addr) (k m : Int), vs = [.ref a, .int m] ∧ Src H a g k ∧ 0 ≤ m ∧ m ≤ 1000 ∧ k < 2 ^ 38 ∧
  ∀ (p : Addr) (xs : List Int) (k' : Int) (H' : Hp), xs.length ≤ m.toNat → (∀ x ∈ xs, 1 ≤ x ∧ x ≤ 10 ^ 30 - 1) → k' ≤ k + 2 + 2 * m → Src H' a g k' → Fr [a, g] H H' → H p = none → H' p = some (.lst (xs.map V.int)) → Q (.ref p) H'
def spWide (K : PySem.W.Frag) : Sp := fun vs H Q _ => ∃ (a g p : Addr) (xs : List Int) (k : Int), vs = [.ref a, .ref p] ∧ Src H a g k ∧ p ≠ a ∧ p ≠ g ∧ H p = some (.lst (xs.map V.int)) ∧ xs.length ≤ 1000 ∧ (∀ x ∈ xs, 1 ≤ x ∧ x ≤ 10 ^ 30 - 1) ∧ k < 2 ^ 38 ∧
  ∀ (v k' : Int) (H' : Hp), 1 ≤ v → v ≤ 10 ^ 30 - 1 → k' ≤ k + 10 → Src H' a g k' → Fr [a, g] H H' → Q (.int v) H'
def spSheets : Sp := fun vs H Q _ => ∃ (x w : Int), vs = [.int x, .int w] ∧ 0 < w ∧ w < 2 ^ 390 ∧ x.natAbs < 2 ^ 390 ∧ Q (.int (cp x w)) H
def spGreat (K : PySem.W.Frag) : Sp := fun vs H Q _ => ∃ (a g p : Addr) (xs : List Int) (k : Int), vs = [.ref a, .ref p] ∧ Src H a g k ∧ p ≠ a ∧ p ≠ g ∧ H p = some (.lst (xs.map V.int)) ∧ xs.length ≤ 40 ∧ (∀ x ∈ xs, 1 ≤ x ∧ x ≤ 10 ^ 30 - 1) ∧ k < 2 ^ 37 ∧
  ∀ (k' : Int) (H' : Hp), k' ≤ k + 20 → Src H' a g k' → Fr [a, g] H H' → Q (.bl true) H'
def spSmall (K : PySem.W.Frag) : Sp := fun vs H Q _ => ∃ (a g p : Addr) (xs : List Int) (k : Int), vs = [.ref a, .ref p] ∧ Src H a g k ∧ p ≠ a ∧ p ≠ g ∧ H p = some (.lst (xs.map V.int)) ∧ xs.length ≤ 10 ∧ (∀ x ∈ xs, 1 ≤ x ∧ x ≤ 60) ∧ k < 2 ^ 37 ∧
  ∀ (k' : Int) (H' : Hp), k' ≤ k + 20 → Src H' a g k' → Fr [a, g] H H' → Q (.bl true) H'
set_option maxHeartbeats 4000000 in
theorem ok_law_lengths (T : Txt K mg c) : DefAt P w K mg base "_law_lengths" s_law_lengths 2 ["source", "many"] spLens := by
  have D_law_draw := ok_law_draw (P := P) (w := w) (base := base) T
  refine T.f_law_lengths.ok sc_law_lengths (fun vs H Q E h => ?_) (fun _ _ _ _ _ _ us hl => match us, hl with | [_, _], _ => rfl) (fun f cdv A outer s H vs Q E hr h => ?_)
  · obtain ⟨a, g, k, m, rfl, hp, m0, m1, k1, q⟩ := h
    rfl
  · obtain ⟨a, g, k, m, rfl, hp, m0, m1, k1, q⟩ := h
    refine ⟨_, (pss_cons (ps_set (i := 2) sc_law_lengths.nd rfl (Or.inr rfl) (pe_ix ix_list (pe_lst (pa_cons pe_int (pa_cons pe_int (pa_cons pe_int (pa_cons pe_int (pa_cons (pe_op op_sub (pe_op op_powW pe_int pe_int) pe_int) pa_nil)))))) (pe_callD D_law_draw (hr.mono (by decide)) (pa_cons (pv 0) (pa_cons pe_int pa_nil))) (fun _ _ => rfl)))
    (pss_one (ps_ret (pe_lc (own := [("part", 3)]) (tt := tYes) rfl sc_law_lengths.nd (pi_range1 (by rfl) T.n_range (pa_cons (pe_callD D_law_draw (hr.mono (by decide)) (pa_cons (pv 0) (pa_cons (pe_op op_add (pv 1) pe_int) pa_nil))) pa_nil)) (blkOk_by (N := sc_law_lengths_N) (sc := defScope s_law_lengths) (by decide +kernel)) (fun _ _ _ _ _ => (pg_name (i := 3) sc_law_lengths.nd rfl (Or.inl rfl))) (fun _ _ _ _ _ => pts_nil) (fun _ _ _ _ _ => (pe_op op_add pe_int (pe_callD D_law_draw (hr.mono (by decide)) (pa_cons (pv 0) (pa_cons (pe_ix (kc_ix (K := K) (r := rIxL) ix_list rfl) (pe_lst (pa_cons (pv 2) (pa_cons (pv 2) (pa_cons pe_int pa_nil)))) (pe_callD D_law_draw (hr.mono (by decide)) (pa_cons (pv 0) (pa_cons pe_int pa_nil))) (fun _ _ => rfl)) pa_nil))))))))), ?_⟩
    refine w_start (σ' := [some (.ref a), some (.int m), none, none]) rfl ?_
    walk_at "g"
    rename_i p0 np0 r1 k2 H2 r10 r11 hk2 hp2 f2 wd hwd r3 k3 H3 r30 r31 hk3 hp3 f3
    have hw1 : 1 ≤ wd ∧ wd ≤ 10 ^ 30 - 1 := by omega
    have f03 : Fr [a, g] H H3 := by walk_at "F"
    clear f2 f3 hp2
    refine l_range (fun L i H' => ∃ (ys : List Int) (k4 : Int), Src H' a g k4 ∧ k4 ≤ k3 + 2 * i ∧ Fr [a, g] H3 H' ∧ H' L = some (.lst (ys.map V.int)) ∧ ys.length = i ∧ ∀ y ∈ ys, 1 ≤ y ∧ y ≤ 10 ^ 30 - 1) (fun L hL => ?_) (fun L i H' hL hi h => ?_) (fun L H' hL h => ?_)
    · exact ⟨[], k3, by walk_at "P", by omega, by walk_at "F", upd_same, rfl, by simp⟩
    · obtain ⟨ys, k4, hp4, hk4, f4, h4, hl4, hy4⟩ := h
      have hLa : L ≠ a := hp3.ne hL
      have hLg : L ≠ g := hp3.ne2 hL
      refine w_gname ⟨rfl, ?_⟩
      walk_at "g"
      exact ⟨_, _, by walk_at "P", by omega, by walk_at "F", upd_same, len_snoc hl4, mem_snoc hy4 (by omega)⟩
    · obtain ⟨ys, k4, hp4, hk4, f4, h4, hl4, hy4⟩ := h
      have nL : H L = none := by walk_at "Z"
      exact q L ys k4 H' (by omega) hy4 (by omega) hp4 (f03.trans f4) nL h4
set_option maxHeartbeats 4000000 in
theorem ok_law_wide (T : Txt K mg c) : DefAt P w K mg base "_law_wide" s_law_wide 2 ["source", "lengths"] (spWide K) := by
  have D_law_draw := ok_law_draw (P := P) (w := w) (base := base) T
  refine T.f_law_wide.ok sc_law_wide (fun vs H Q E h => ?_) (fun _ _ _ _ _ _ us hl => match us, hl with | [_, _], _ => rfl) (fun f cdv A outer s H vs Q E hr h => ?_)
  · obtain ⟨a, g, p, xs, k, rfl, hp, hpa, hpg, h, lxs, hxs, k1, q⟩ := h
    rfl
  · obtain ⟨a, g, p, xs, k, rfl, hp, hpa, hpg, h, lxs, hxs, k1, q⟩ := h
    refine ⟨_, (pss_cons (ps_set (i := 2) sc_law_wide.nd rfl (Or.inl rfl) (pe_ifExp (pt_cmpR (op_neD hr.units) (pv 1) (pe_lst pa_nil) (nomark _)) (pe_ix ix_list (pv 1) (pe_callD D_law_draw (hr.mono (by decide)) (pa_cons (pv 0) (pa_cons (pe_callB call_lenN (by rfl) T.n_len (by decide +kernel) (pa_cons (pv 1) pa_nil)) pa_nil))) (fun _ _ => rfl)) pe_int))
    (pss_cons (ps_set (i := 3) sc_law_wide.nd rfl (Or.inl rfl) (pe_lst (pa_cons (pe_op op_add pe_int (pe_callD D_law_draw (hr.mono (by decide)) (pa_cons (pv 0) (pa_cons pe_int pa_nil)))) (pa_cons (pe_op op_sub (pe_op op_add (pv 2) (pe_callD D_law_draw (hr.mono (by decide)) (pa_cons (pv 0) (pa_cons pe_int pa_nil)))) pe_int) (pa_cons (pe_op op_add (pe_op op_fdivW (pv 2) (pe_op op_add pe_int (pe_callD D_law_draw (hr.mono (by decide)) (pa_cons (pv 0) (pa_cons pe_int pa_nil))))) pe_int) pa_nil)))))
    (pss_one (ps_ret (pe_callB (call_max2N rfl) (by rfl) T.n_max (by decide +kernel) (pa_cons pe_int (pa_cons (pe_callB (call_min2N rfl) (by rfl) T.n_min (by decide +kernel) (pa_cons (pe_op op_sub (pe_op op_powW pe_int pe_int) pe_int) (pa_cons (pe_ix ix_list (pe_op op_cat (pv 3) (pe_lst (pa_cons (pe_op op_add pe_int (pe_callD D_law_draw (hr.mono (by decide)) (pa_cons (pv 0) (pa_cons (pe_op op_sub (pe_op op_powW pe_int pe_int) pe_int) pa_nil)))) pa_nil))) (pe_callD D_law_draw (hr.mono (by decide)) (pa_cons (pv 0) (pa_cons pe_int pa_nil))) (fun _ _ => rfl)) pa_nil))) pa_nil))))))), ?_⟩
    refine w_start (σ' := [some (.ref a), some (.ref p), none, none]) rfl ?_
    walk_at "g"
    rename_i p0 np0
    refine w_iteN (fun hne => ?_) (fun he => ?_)
    · have hpos := List.length_pos_iff.mpr hne
      walk_at "g"
      rename_i r7 k7 H7 r70 r71 hk7 hp7 f7 v hv
      refine q _ k7 _ (by (repeat' split) <;> omega) (by (repeat' split) <;> omega) (by omega) hp7 ?_
      trace_state
      walk_at "F"
    · walk_at "g"
      rename_i r7 k7 H7 r70 r71 hk7 hp7 f7 v hv
      refine q _ k7 _ (by (repeat' split) <;> omega) (by (repeat' split) <;> omega) (by omega) hp7 ?_
      walk_at "F"
set_option maxHeartbeats 4000000 in
theorem ok_law_sheets (T : Txt K mg c) : DefAt P w K mg base "_law_sheets" s_law_sheets 1 ["long", "wide"] spSheets := by
  refine T.f_law_sheets.ok sc_law_sheets (fun vs H Q E h => ?_) (fun _ _ _ _ _ _ us hl => match us, hl with | [_, _], _ => rfl) (fun f cdv A outer s H vs Q E hr h => ?_)
  · obtain ⟨x, n, rfl, n0, n1, x1, q⟩ := h
    rfl
  · obtain ⟨x, n, rfl, n0, n1, x1, q⟩ := h
    refine ⟨_, (pss_one (ps_ret (pe_op op_add (pe_op op_fdivW (pv 0) (pv 1)) (pe_callTy call_int1N (by rfl) T.n_int (by decide +kernel) (pa_cons (pe_cmpR op_gt (pe_op op_mod (pv 0) (pv 1)) pe_int (nomark _)) pa_nil))))), ?_⟩
    refine w_start (σ' := [some (.int x), some (.int n)]) rfl ?_
    walk_at "g"
    rw [sheets_eq n0]
    exact q
set_option maxHeartbeats 4000000 in
theorem ok_law_small_right (T : Txt K mg c) : DefAt P w K mg base "_law_small_right" s_law_small_right 7 ["source", "few"] (spSmall K) := by
  have D_counts := ok_counts (P := P) (w := w) (base := base) T
  have D_law_draw := ok_law_draw (P := P) (w := w) (base := base) T
  have D_pages := ok_pages (P := P) (w := w) (base := base) T
  have D_lines_on := ok_lines_on (P := P) (w := w) (base := base) T
  have D_page_of := ok_page_of (P := P) (w := w) (base := base) T
  refine T.f_law_small_right.ok sc_law_small_right (fun vs H Q E h => ?_) (fun _ _ _ _ _ _ us hl => match us, hl with | [_, _], _ => rfl) (fun f cdv A outer s H vs Q E hr h => ?_)
  · obtain ⟨a, g, p, xs, k, rfl, hp, hpa, hpg, h, lxs, hxs, k1, q⟩ := h
    rfl
  · obtain ⟨a, g, p, xs, k, rfl, hp, hpa, hpg, h, lxs, hxs, k1, q⟩ := h
    refine ⟨_, (pss_cons (ps_set (i := 2) sc_law_small_right.nd rfl (Or.inr rfl) (pe_callB (cr_max rfl) (by rfl) T.n_max (by decide +kernel) (pa_cons (pe_op op_cat (pv 1) (pe_lst (pa_cons pe_int pa_nil))) pa_nil)))
    (pss_cons (ps_set (i := 5) sc_law_small_right.nd rfl (Or.inr rfl) (pe_lc (own := [("number", 3)]) (tt := tYes) rfl sc_law_small_right.nd (pi_range1 (by rfl) T.n_range (pa_cons (pe_op op_add (pv 2) pe_int) pa_nil)) (blkOk_by (N := sc_law_small_right_N) (sc := defScope s_law_small_right) (by decide +kernel)) (fun _ _ _ _ _ => (pg_name (i := 3) sc_law_small_right.nd rfl (Or.inr rfl))) (fun _ _ _ _ _ => pts_nil) (fun _ _ _ _ _ => (pe_callB (kc_call (K := K) (r := Pg.rLen) call_lenN rfl) (by rfl) T.n_len (by decide +kernel) (pa_cons (pe_lc (own := [("long", 4)])  rfl sc_law_small_right.nd (kc_pi (K := K) (pi_list (pv 1)) rfl) (blkOk_by (N := sc_law_small_right_N) (sc := { kind := PySem.ScopeKind.function, names := [(".0", PySem.NameKind.local), ("number", PySem.NameKind.cell), ("len", PySem.NameKind.globalImplicit), ("few", PySem.NameKind.cell)], isGenerator := false, isCoroutine := false }) (by decide +kernel)) (fun _ _ _ _ _ => (pg_name (i := 4) sc_law_small_right.nd rfl (Or.inl rfl))) (fun _ _ _ _ _ => (pts_one (pt_cmpR op_gt (pv 4) (pv 3) (nomark _)))) (fun _ _ _ _ _ => (pv 4))) pa_nil)))))
    (pss_cons (ps_setLc (i := 7) (own := [("wide", 6)]) (tt := tYes) rfl sc_law_small_right.nd rfl rfl (sw_true rfl rfl rfl (by decide +kernel)) (pi_range2 (by rfl) T.n_range (pa_cons pe_int (pa_cons (pe_op op_add (pv 2) pe_int) pa_nil))) (blkOk_by (N := sc_law_small_right_N) (sc := defScope s_law_small_right) (by decide +kernel)) (fun _ _ _ _ _ => (pg_name (i := 6) sc_law_small_right.nd rfl (Or.inl rfl))) (fun _ _ _ _ _ => pts_nil) (fun _ _ _ _ _ => (pe_callB (kc_call (K := K) (r := rSum) (cr_sum rfl) rfl) (by rfl) T.n_sum (by decide +kernel) (pa_cons (pe_lc (own := [("spot", 14)]) (tt := tYes) rfl sc_law_small_right.nd (pi_range3 (by rfl) T.n_range (pa_cons pe_int (pa_cons (pe_op op_add (pv 2) pe_int) (pa_cons (pv 6) pa_nil)))) (blkOk_by (N := sc_law_small_right_N) (sc := { kind := PySem.ScopeKind.function, names := [(".0", PySem.NameKind.local), ("wide", PySem.NameKind.local), ("sum", PySem.NameKind.globalImplicit), ("range", PySem.NameKind.globalImplicit), ("longer", PySem.NameKind.cell), ("most", PySem.NameKind.cell)], isGenerator := false, isCoroutine := false }) (by decide +kernel)) (fun _ _ _ _ _ => (pg_name (i := 14) sc_law_small_right.nd rfl (Or.inl rfl))) (fun _ _ _ _ _ => pts_nil) (fun _ _ _ _ _ => (pe_ix (kc_ix (K := K) (r := rIxL) ix_list rfl) (pv 5) (pv 14) (fun _ _ => rfl)))) pa_nil))))
    (pss_cons (ps_if (pt_cmpR (op_neD hr.units) (pe_listGD D_counts (hr.mono (by decide)) (by rfl) T.n_list (pa_cons (pv 1) (pa_cons (pv 2) pa_nil))) (pv 7) (nomark _)) (pss_one (ps_ret pe_bl)) pss_nil)
    (pss_cons (ps_par (i := 6) (j := 8) rfl sc_law_small_right.nd rfl rfl (by decide) rfl rfl (pa_cons (pe_op op_add pe_int (pe_callD D_law_draw (hr.mono (by decide)) (pa_cons (pv 0) (pa_cons (pv 2) pa_nil)))) (pa_cons (pe_lst pa_nil) pa_nil)) (by rfl))
    (pss_cons (ps_for PassesOwn.never rfl (pi_range1 (by rfl) T.n_range (pa_cons (pe_callD D_pages (hr.mono (by decide)) (pa_cons (pv 1) (pa_cons (pv 6) pa_nil))) pa_nil)) (pg_name (i := 3) sc_law_small_right.nd rfl (Or.inl rfl)) (pss_cons (ps_asg (pe_callD D_lines_on (hr.mono (by decide)) (pa_cons (pv 1) (pa_cons (pv 6) (pa_cons (pe_op op_add (pv 3) pe_int) pa_nil)))) (pg_tup rfl (pgs_cons (pg_name (i := 9) sc_law_small_right.nd rfl (Or.inr rfl)) (pgs_cons (pg_name (i := 10) sc_law_small_right.nd rfl (Or.inl rfl)) (pgs_cons (pg_name (i := 11) sc_law_small_right.nd rfl (Or.inl rfl)) pgs_nil)))))
    (pss_cons (ps_if (PW.pt (pw_or (pt_cmpR op_gt (pe_op op_add (pe_op op_sub (pv 11) (pv 10)) pe_int) (pv 6) (nomark _)) (pw_or1 (pt_cmpR op_ne (pe_callD D_page_of (hr.mono (by decide)) (pa_cons (pv 1) (pa_cons (pv 6) (pa_cons (pv 9) (pa_cons (pv 10) pa_nil))))) (pe_op op_add (pv 3) pe_int) (nomark _))))) (pss_one (ps_ret pe_bl)) pss_nil)
    (pss_one (ps_expr (pe_bm PySem.F.plainAttrs_list PySem.F.slot_list_extend PySem.F.type_list_extend mt_extend (pv 8) (pa_cons (pe_lc (own := [("spot", 14)]) (tt := tYes) rfl sc_law_small_right.nd (pi_range2 (by rfl) T.n_range (pa_cons (pv 10) (pa_cons (pe_op op_add (pv 11) pe_int) pa_nil))) (blkOk_by (N := sc_law_small_right_N) (sc := defScope s_law_small_right) (by decide +kernel)) (fun _ _ _ _ _ => (pg_name (i := 14) sc_law_small_right.nd rfl (Or.inl rfl))) (fun _ _ _ _ _ => pts_nil) (fun _ _ _ _ _ => (pe_tup (pa_cons (pv 9) (pa_cons (pv 14) pa_nil))))) pa_nil)))))))
    (pss_cons (ps_set (i := 12) sc_law_small_right.nd rfl (Or.inl rfl) (pe_lst pa_nil))
    (pss_cons (ps_for PassesOwn.never rfl (pi_enum (by rfl) T.n_enumerate (pa_cons (pv 1) pa_nil)) (pg_tup rfl (pgs_cons (pg_name (i := 13) sc_law_small_right.nd rfl (Or.inr rfl)) (pgs_cons (pg_name (i := 4) sc_law_small_right.nd rfl (Or.inl rfl)) pgs_nil))) (pss_one (ps_expr (pe_bm PySem.F.plainAttrs_list PySem.F.slot_list_extend PySem.F.type_list_extend mt_extend (pv 12) (pa_cons (pe_lc (own := [("spot", 14)]) (tt := tYes) rfl sc_law_small_right.nd (pi_range2 (by rfl) T.n_range (pa_cons pe_int (pa_cons (pe_op op_add (pv 4) pe_int) pa_nil))) (blkOk_by (N := sc_law_small_right_N) (sc := defScope s_law_small_right) (by decide +kernel)) (fun _ _ _ _ _ => (pg_name (i := 14) sc_law_small_right.nd rfl (Or.inl rfl))) (fun _ _ _ _ _ => pts_nil) (fun _ _ _ _ _ => (pe_tup (pa_cons (pe_op op_add (pv 13) pe_int) (pa_cons (pv 14) pa_nil))))) pa_nil)))))
    (pss_one (ps_ret (pe_cmpR (op_eqD hr.units) (pv 8) (pv 12) (nomark _)))))))))))), ?_⟩
    refine w_start (σ' := [some (.ref a), some (.ref p), none, none, none, none, none, none, none, none, none, none, none, none, none]) rfl ?_
    walk_at "g"
    rename_i L1 nL1 L2 nL2 mo hmo hle
    have hx1 : ∀ x ∈ xs, 1 ≤ x := fun x hx => (hxs x hx).1
    have mo1 : 1 ≤ mo := hle 1 (by simp)
    have mo2 : mo ≤ 60 := by
      rcases List.mem_append.mp hmo with z | z
      · exact (hxs mo z).2
      · rw [List.mem_singleton.mp z]; omega
    have hxm : ∀ x ∈ xs, 1 ≤ x ∧ x ≤ mo := fun x hx => ⟨hx1 x hx, hle x (List.mem_append_left _ hx)⟩
    obtain ⟨M, rfl⟩ : ∃ M : Nat, mo = M := ⟨mo.toNat, by omega⟩
    have h1 : upd (upd H L1 (.lst [.int 1])) L2 (.lst ((xs ++ [1]).map V.int)) p = some (.lst (xs.map V.int)) := by walk_at "H"
    have hp1 : Src (upd (upd H L1 (.lst [.int 1])) L2 (.lst ((xs ++ [1]).map V.int))) a g k := by walk_at "P"
    have f01 : Fr [a, g] H (upd (upd H L1 (.lst [.int 1])) L2 (.lst ((xs ++ [1]).map V.int))) := (Fr.refl.new nL1).new nL2
    generalize upd (upd H L1 (.lst [.int 1])) L2 (.lst ((xs ++ [1]).map V.int)) = H1 at h1 hp1 f01 ⊢
    clear nL1 nL2 h hp hle hmo
    refine w_rng1E (by omega) (by omega) ?_
    refine l_range (fun L i H' => Fr [] H1 H' ∧ H' L = some (.lst ((gtab xs i).map V.int))) (fun L hL => ⟨Fr.refl.new hL, upd_same⟩) (fun L i H' hL hi h => ?_) (fun G H2 hG h => ?_)
    · obtain ⟨f2, h2⟩ := h
      refine w_gname ⟨rfl, ?_⟩
      walk_at "g"
      have h2p := f2.at0 h1
      have gl := gtab_len xs i
      refine l_list (xs.map V.int) (fun L2 j H'' => Fr [] H' H'' ∧ H'' L2 = some (.lst (((xs.take j).filter fun x => decide ((i : Int) < x)).map V.int))) (fun L2 hL2 => ⟨Fr.refl.new hL2, upd_same⟩) (fun L2 j H'' _ _ h => .of (h.1.at0 h2p)) (fun L2 j x H'' hL2 hx h => ?_) (fun L2 H'' hL2 h => ?_)
      · obtain ⟨f3, h3⟩ := h
        obtain ⟨n, hn, rfl⟩ := map_at hx
        have hjl := (List.getElem?_eq_some_iff.mp hn).1
        have lf : ((xs.take j).filter fun x => decide ((i : Int) < x)).length ≤ 10 := by
          have h5 := List.length_filter_le (fun x => decide ((i : Int) < x)) (xs.take j)
          have h6 : (xs.take j).length ≤ xs.length := by rw [List.length_take]; omega
          omega
        have tk : xs.take (j + 1) = xs.take j ++ [n] := by rw [List.take_succ, hn]; rfl
        refine w_gname ⟨rfl, ?_⟩
        walk_at "g"
        refine w_ite (fun hc => ?_) (fun hc => ?_)
        · walk_at "g"
          refine ⟨f3.put (.inl hL2), ?_⟩
          rw [upd_same, tk, List.filter_append, List.filter_cons_of_pos (by simpa using hc)]
          rfl
        · refine ⟨f3, ?_⟩
          rw [h3, tk, List.filter_append, List.filter_cons_of_neg (by simpa using hc)]
          simp
      · obtain ⟨f3, h3⟩ := h
        rw [List.length_map, List.take_length] at h3
        have h3L := f3.at0 h2
        walk_at "g"
        refine ⟨(f2.trans f3).put (.inl hL), ?_⟩
        rw [upd_same, gt_filter, gtab_succ]
    · obtain ⟨f2, h2⟩ := h
      have h2p := f2.at0 h1
      have hp2 : Src H2 a g k := hp1.fr f2 List.not_mem_nil List.not_mem_nil
      have f02 : Fr [a, g] H H2 := f01.then f2
      have h2 : H2 G = some (.lst ((gtab xs (M + 1)).map V.int)) := h2
      have gl := gtab_len xs (M + 1)
      clear f2 h1 hp1 f01 hG
      walk_at "g"
      refine l_range (fun L i H' => Fr [] H2 H' ∧ H' L = some (.lst ((tab xs i).map V.int))) (fun L hL => ⟨Fr.refl.new hL, upd_same⟩) (fun L i H' hL hi h => ?_) (fun D H3 hD h => ?_)
      · obtain ⟨f3, h3⟩ := h
        have h3G := f3.at0 h2
        have tl := tab_len xs i
        have hi2 : i < M := by omega
        refine w_gname ⟨rfl, ?_⟩
        walk_at "g"
        refine w_rng3P (by omega) ?_
        refine l_rangeC (fun L2 j H'' => Fr [] H' H'' ∧ H'' L2 = some (.lst ((gmul xs (1 + i) j).map V.int))) (fun L2 hL2 => ⟨Fr.refl.new hL2, upd_same⟩) (fun L2 j H'' hL2 hj h => ?_) (fun L2 H'' hL2 h => ?_)
        · obtain ⟨f4, h4⟩ := h
          have h4G := f4.at0 h3G
          refine w_gname ⟨rfl, ?_⟩
          have hst := step_in (by omega) (by omega) hj
          have gml := gmul_len xs (1 + (i : Int)) j
          have hj3 : j ≤ 70 := by
            have h1 : (j : Int) * 1 ≤ j * (1 + i) := Int.mul_le_mul_of_nonneg_left (by omega) (by omega)
            omega
          obtain ⟨sp, hsp⟩ : ∃ sp : Nat, 0 + (j : Int) * (1 + i) = sp := ⟨((j : Int) * (1 + i)).toNat, by omega⟩
          rw [hsp]
          walk_at "g"
          rename_i n hn
          rw [show ((sp : Int)).toNat = sp by omega, gtab_at (by omega)] at hn
          have en := Option.some.inj hn
          subst en
          refine ⟨f4.put (.inl hL2), ?_⟩
          rw [upd_same, gmul_succ, show (j : Int) * (1 + i) = sp by omega]
        · obtain ⟨f4, h4⟩ := h
          have h4L := f4.at0 h3
          walk_at "g"
          refine ⟨(f3.trans f4).put (.inl hL), ?_⟩
          rw [upd_same, gmul_ct (by omega) hxm (by omega), tab_succ, show (1 : Int) + i = i + 1 by omega]
      · obtain ⟨f3, h3⟩ := h
        have h3p := f3.at0 h2p
        have hp3 : Src H3 a g k := hp2.fr f3 List.not_mem_nil List.not_mem_nil
        have f03 : Fr [a, g] H H3 := f02.then f3
        have h3 : H3 D = some (.lst ((tab xs M).map V.int)) := by
          rw [h3, show ((M : Int) + 1 - 1).toNat = M by omega]
        clear f3 h2 h2p hp2 f02 hD
        walk_at "g"
        have lx : xs.length ≤ 10 := lxs
        have tl := tab_len xs M
        refine ⟨p, xs, M, rfl, h3p, by omega, hx1, by omega, fun H4 f4 => ?_⟩
        have h4p := f4.at0 h3p
        have h4D := f4.at0 h3
        have hp4 : Src H4 a g k := hp3.fr f4 List.not_mem_nil List.not_mem_nil
        have f04 : Fr [a, g] H H4 := f03.then f4
        clear f4 h3 h3p hp3 f03
        walk_at "g"
        rename_i u nu r5 k5 H5 r50 r51 hk5 hp5 f5 L nL
        have h5p : H5 p = some (.lst (xs.map V.int)) := f5.at (nn3 hpa hpg) (at_upd h4p nu)
        have f05 : Fr [a, g] H H5 := (f04.new nu).trans f5
        obtain ⟨W, hW⟩ : ∃ W, W = 1 + r5 := ⟨_, rfl⟩
        rw [← hW]
        have W1 : 1 ≤ W ∧ W ≤ 60 := by omega
        have sb := sum_bound hxs
        have cb1 : ct xs W ≤ 600 := by
          have h1 := ct_mono (w := 1) (v := W) (by decide) (by omega) hx1
          have h2 : ct xs 1 = xs.sum := ct_one xs
          omega
        have cb0 := ct_nonneg (w := W) (by omega) hx1
        have h5p2 : upd H5 L (.lst []) p = some (.lst (xs.map V.int)) := at_upd h5p nL
        have hp5' : Src (upd H5 L (.lst [])) a g k5 := by walk_at "P"
        have hLp : p ≠ L := ne_of_none h5p nL
        have hLa : L ≠ a := hp5.ne nL
        have hLg : L ≠ g := hp5.ne2 nL
        have hL0 : H L = none := f05.free (nn3 hLa hLg) nL
        refine ⟨p, xs, W, rfl, h5p2, by omega, hx1, by omega, by omega, fun H6 f6 => ?_⟩
        have h6p := f6.at0 h5p2
        have h6L : H6 L = some (.lst []) := f6.at0 upd_same
        have hp6 : Src H6 a g k5 := hp5'.fr f6 List.not_mem_nil List.not_mem_nil
        have f06 : Fr [a, g] H H6 := (f05.new nL).then f6
        clear f6 h5p2 h5p hp5' hp5 f05 f5 nL nu h4p h4D hp4 f04
        walk_at "g"
        refine f_range (fun j σ' H' => ∃ (o3 o9 o10 o11 : Option V) (ps : List Addr), σ' = [some (.ref a), some (.ref p), some (.int M), o3, none, some (.ref G), some (.int W), some (.ref D), some (.ref L), o9, o10, o11, none, none, none] ∧ Fr [L] H6 H' ∧ H' L = some (.lst (ps.map V.ref)) ∧ PairsAt H' ps (doneL W 1 xs j) ∧ ps.length ≤ 60 * j) ⟨none, none, none, none, [], rfl, Fr.refl, h6L, by rw [show doneL W 1 xs ((0 : Nat) : Int) = [] from done_zero (by omega) 1 hx1]; exact .nil, by simp⟩ ?_ ?_
        · rintro j σ' H7 hj ⟨o3, o9, o10, o11, ps, rfl, f7, h7L, hps, lps⟩
          have h7p := f7.at (nn2 hLp) h6p
          walk_at "g"
          refine ⟨p, xs, W, _, rfl, h7p, by omega, hx1, by omega, by omega, by omega, by omega, by omega, fun T kk x l H8 hop f8 nT hT => ?_⟩
          obtain ⟨hk, hl, l1, l2⟩ := hop
          have hx := hx1 x (List.mem_of_getElem? hk)
          have hx60 := (hxs x (List.mem_of_getElem? hk)).2
          have hdn := (cp_le (x := x) (w := W) (by omega)).mp l2
          have s0 : 0 ≤ (l - 1) * W := Int.mul_nonneg (by omega) (by omega)
          have s1 : l * W = (l - 1) * W + W := by rw [Int.sub_mul]; omega
          have h8p := f8.at0 h7p
          have h8L := f8.at0 h7L
          have hps8 := hps.fr f8
          have f78 : Fr [L] H6 H8 := f7.then f8
          clear f8 h7p h7L hps
          walk_at "g"
          refine w_iteQ (by split <;> omega) ?_
          walk_at "g"
          refine ⟨p, xs, W, kk, x, _, rfl, h8p, by omega, hx1, by omega, by omega, hk, by omega, by omega, fun H9 f9 => ?_⟩
          have ecp : cp ((l - 1) * W + 1) W = l := by
            unfold cp
            rw [show (l - 1) * W + 1 - 1 = (l - 1) * W by omega, Int.mul_ediv_cancel _ (by omega)]
            omega
          have h9L := f9.at0 h8L
          have hps9 := hps8.fr f9
          have f79 : Fr [L] H6 H9 := f78.then f9
          clear f9 h8L hps8 h8p
          walk_at "g"
          refine w_iteNP (by omega) ?_
          walk_at "g"
          refine l_range (fun L2 t H' => ∃ ts : List Addr, Fr [] H9 H' ∧ H' L2 = some (.lst (ts.map V.ref)) ∧ PairsAt H' ts ((List.range t).map fun s : Nat => ((kk : Int) + 1, (l - 1) * W + 1 + (s : Int))) ∧ ts.length = t) (fun L2 hL2 => ⟨[], Fr.refl.new hL2, upd_same, .nil, rfl⟩) (fun L2 t H' hL2 ht h => ?_) (fun L2 H' hL2 h => ?_)
          · obtain ⟨ts, g1, g2, g3, g4⟩ := h
            have ht2 : t < 100 := by split at ht <;> omega
            refine w_gname ⟨rfl, ?_⟩
            walk_at "g"
            rename_i T2 nT2
            refine w_appER (at_upd g2 nT2) (by omega) ⟨ts ++ [T2], (g1.new nT2).put (.inl hL2), upd_same, ?_, len_snoc g4⟩
            rw [seg_one]
            exact ((g3.fr (Fr.refl.new nT2)).snoc (l := ((kk : Int) + 1, (l - 1) * W + 1 + (t : Int))) upd_same).put (at_upd g2 nT2)
          · obtain ⟨ts, g1, g2, g3, g4⟩ := h
            have lts : ts.length ≤ 60 := by rw [g4]; split <;> omega
            have hL' := g1.at0 h9L
            walk_at "g"
            refine w_extendR hL' g2 (by omega) ⟨_, _, _, _, ps ++ ts, rfl, (f79.then g1).put (.inr (by simp)), upd_same, ?_, by rw [List.length_append]; omega⟩
            have st := done_step (w := W) (by omega) 1 kk x ((j : Int) + 1) l hx1 hk (by rw [hl]; omega) l1 l2
            rw [show ((j + 1 : Nat) : Int) = (j : Int) + 1 by omega, st, show (j : Int) + 1 - 1 = j by omega]
            have es : seg (1 + (kk : Int)) ((l - 1) * W + 1) (min (l * W) x) = (List.range ((if x < l * W then x else l * W) + 1 - ((l - 1) * W + 1)).toNat).map fun s : Nat => ((kk : Int) + 1, (l - 1) * W + 1 + (s : Int)) := by
              unfold seg
              rw [show min (l * W) x = (if x < l * W then x else l * W) by split <;> omega, show 1 + (kk : Int) = (kk : Int) + 1 by omega]
            rw [es]
            exact ((hps9.fr g1).app g3).put hL'
        · rintro σ' H7 ⟨o3, o9, o10, o11, ps, rfl, f7, h7L, hps, lps⟩
          rw [show (((ct xs W).toNat : Nat) : Int) = ct xs W by omega, done_all (by omega) 1 hx1] at hps
          have h7p := f7.at (nn2 hLp) h6p
          have hp7 : Src H7 a g k5 := hp6.fr f7 (nn2 hLa.symm) (nn2 hLg.symm)
          have f07 : Fr [a, g] H H7 := f06.loc hL0 f7
          clear f7 h6L h6p hp6
          walk_at "g"
          rename_i E nE
          have hEL : L ≠ E := ne_of_none h7L nE
          have hEp : p ≠ E := ne_of_none h7p nE
          have hEa : E ≠ a := hp7.ne nE
          have hEg : E ≠ g := hp7.ne2 nE
          have hE0 : H E = none := f07.free (nn3 hEa hEg) nE
          have h8p : upd H7 E (.lst []) p = some (.lst (xs.map V.int)) := at_upd h7p nE
          have h8L : upd H7 E (.lst []) L = some (.lst (ps.map V.ref)) := at_upd h7L nE
          have h8E : upd H7 E (.lst []) E = some (.lst []) := upd_same
          have hp8 : Src (upd H7 E (.lst [])) a g k5 := by walk_at "P"
          have f08 : Fr [a, g] H (upd H7 E (.lst [])) := f07.new nE
          have hps8 : PairsAt (upd H7 E (.lst [])) ps (allL 1 xs) := hps.fr (Fr.refl.new nE)
          generalize upd H7 E (.lst []) = H8 at h8p h8L h8E hp8 f08 hps8 ⊢
          clear nE h7p h7L hp7 f07 hps
          refine f_enum (xs.map V.int) (fun i σ' H' => ∃ (o4 o13 : Option V) (es : List Addr), σ' = [some (.ref a), some (.ref p), some (.int M), o3, o4, some (.ref G), some (.int W), some (.ref D), some (.ref L), o9, o10, o11, some (.ref E), o13, none] ∧ Fr [E] H8 H' ∧ H' E = some (.lst (es.map V.ref)) ∧ PairsAt H' es (allL 1 (xs.take i)) ∧ es.length ≤ 60 * i) ⟨_, _, [], rfl, Fr.refl, h8E, .nil, by simp⟩ ?_ ?_ ?_
          · rintro i σ' H9 hi ⟨o4, o13, es, rfl, f9, h9E, hes, les⟩
            exact .of (f9.at (nn2 hEp) h8p)
          · rintro i x T σ' H9 hx ⟨o4, o13, es, rfl, f9, h9E, hes, les⟩ hT
            obtain ⟨n, hn, rfl⟩ := map_at hx
            have hil := (List.getElem?_eq_some_iff.mp hn).1
            have hn1 := hxs n (List.mem_of_getElem? hn)
            have tk : xs.take (i + 1) = xs.take i ++ [n] := by rw [List.take_succ, hn]; rfl
            have h10E : upd H9 T (.tup [.int i, .int n]) E = some (.lst (es.map V.ref)) := at_upd h9E hT
            walk_at "g"
            refine l_range (fun L2 t H' => ∃ ts : List Addr, Fr [] (upd H9 T (.tup [.int i, .int n])) H' ∧ H' L2 = some (.lst (ts.map V.ref)) ∧ PairsAt H' ts ((List.range t).map fun s : Nat => ((i : Int) + 1, 1 + (s : Int))) ∧ ts.length = t) (fun L2 hL2 => ⟨[], Fr.refl.new hL2, upd_same, .nil, rfl⟩) (fun L2 t H' hL2 ht h => ?_) (fun L2 H' hL2 h => ?_)
            · obtain ⟨ts, g1, g2, g3, g4⟩ := h
              have ht2 : t < 100 := by omega
              refine w_gname ⟨rfl, ?_⟩
              walk_at "g"
              rename_i T2 nT2
              refine w_appER (at_upd g2 nT2) (by omega) ⟨ts ++ [T2], (g1.new nT2).put (.inl hL2), upd_same, ?_, len_snoc g4⟩
              rw [seg_one]
              exact ((g3.fr (Fr.refl.new nT2)).snoc (l := ((i : Int) + 1, 1 + (t : Int))) upd_same).put (at_upd g2 nT2)
            · obtain ⟨ts, g1, g2, g3, g4⟩ := h
              have lts : ts.length ≤ 60 := by rw [g4]; omega
              have hE' := g1.at0 h10E
              walk_at "g"
              refine w_extendR hE' g2 (by omega) ⟨_, _, es ++ ts, rfl, ((f9.new hT).then g1).put (.inr (by simp)), upd_same, ?_, by rw [List.length_append]; omega⟩
              have lt : (xs.take i).length = i := by rw [List.length_take]; omega
              rw [tk, allL_snoc, lt]
              have es2 : seg (1 + (i : Int)) 1 n = (List.range (n + 1 - 1).toNat).map fun s : Nat => ((i : Int) + 1, 1 + (s : Int)) := by
                unfold seg
                rw [show 1 + (i : Int) = (i : Int) + 1 by omega]
              rw [es2]
              exact (((hes.fr (Fr.refl.new hT)).fr g1).app g3).put hE'
          · rintro σ' H9 ⟨o4, o13, es, rfl, f9, h9E, hes, les⟩
            rw [List.length_map, List.take_length] at hes
            have hps9 : PairsAt H9 ps (allL 1 xs) := hps8.frL f9 h8E
            walk_at "g"
            refine w_eqPairs (f9.at (nn2 hEL) h8L) h9E hps9 hes ?_
            rw [decide_eq_true rfl]
            exact q k5 _ (by omega) (hp8.fr f9 (nn2 hEa.symm) (nn2 hEg.symm)) (f08.loc hE0 f9)
set_option maxHeartbeats 4000000 in
theorem ok_law_great_right (T : Txt K mg c) : DefAt P w K mg base "_law_great_right" s_law_great_right 4 ["source", "lengths"] (spGreat K) := by
  have D_law_wide := ok_law_wide (P := P) (w := w) (base := base) T
  have D_law_draw := ok_law_draw (P := P) (w := w) (base := base) T
  have D_pages := ok_pages (P := P) (w := w) (base := base) T
  have D_law_sheets := ok_law_sheets (P := P) (w := w) (base := base) T
  refine T.f_law_great_right.ok sc_law_great_right (fun vs H Q E h => ?_) (fun _ _ _ _ _ _ us hl => match us, hl with | [_, _], _ => rfl) (fun f cdv A outer s H vs Q E hr h => ?_)
  · obtain ⟨a, g, p, xs, k, rfl, hp, hpa, hpg, h, lxs, hxs, k1, q⟩ := h
    rfl
  · obtain ⟨a, g, p, xs, k, rfl, hp, hpa, hpg, h, lxs, hxs, k1, q⟩ := h
    refine ⟨_, (pss_cons (ps_par (i := 2) (j := 3) rfl sc_law_great_right.nd rfl rfl (by decide) rfl rfl (pa_cons (pe_callD D_law_wide (hr.mono (by decide)) (pa_cons (pv 0) (pa_cons (pv 1) pa_nil))) (pa_cons (pe_op op_add pe_int (pe_callD D_law_draw (hr.mono (by decide)) (pa_cons (pv 0) (pa_cons pe_int pa_nil)))) pa_nil)) (by rfl))
    (pss_cons (ps_par (i := 4) (j := 5) rfl sc_law_great_right.nd rfl rfl (by decide) rfl rfl (pa_cons (pe_callD D_pages (hr.mono (by decide)) (pa_cons (pv 1) (pa_cons (pv 2) pa_nil))) (pa_cons (pe_callB (cr_sum rfl) (by rfl) T.n_sum (by decide +kernel) (pa_cons (pv 1) pa_nil)) pa_nil)) (by rfl))
    (pss_cons (ps_set (i := 6) sc_law_great_right.nd rfl (Or.inl rfl) (pe_callB call_lenN (by rfl) T.n_len (by decide +kernel) (pa_cons (pv 1) pa_nil)))
    (pss_cons (ps_if (pt_not (pt_chain op_le op_le (pe_callB (call_max2N rfl) (by rfl) T.n_max (by decide +kernel) (pa_cons (pv 6) (pa_cons (pe_callD D_law_sheets (hr.mono (by decide)) (pa_cons (pv 5) (pa_cons (pv 2) pa_nil))) pa_nil))) (pv 4) (pe_op op_add (pv 6) (pe_op op_fdivW (pe_op op_sub (pv 5) (pv 6)) (pv 2))))) (pss_one (ps_ret pe_bl)) pss_nil)
    (pss_cons (ps_set (i := 7) sc_law_great_right.nd rfl (Or.inl rfl) (pe_callB (call_min2N rfl) (by rfl) T.n_min (by decide +kernel) (pa_cons (pe_op op_sub (pe_op op_powW pe_int pe_int) pe_int) (pa_cons (pe_op op_mulW (pv 2) (pv 3)) pa_nil))))
    (pss_cons (ps_set (i := 8) sc_law_great_right.nd rfl (Or.inl rfl) (pe_callD D_pages (hr.mono (by decide)) (pa_cons (pv 1) (pa_cons (pv 7) pa_nil))))
    (pss_cons (ps_if (PW.pt (pw_or (pt_cmpR op_gt (pv 8) (pv 4) (nomark _)) (pw_or1 (PW.pt (pw_and (pt_cmpR op_eq (pv 7) (pe_op op_mulW (pv 2) (pv 3)) (nomark _)) (pw_and1 (pt_cmpR op_gt (pv 4) (pe_op op_mulW (pv 3) (pv 8)) (nomark _)))))))) (pss_one (ps_ret pe_bl)) pss_nil)
    (pss_cons (ps_set (i := 9) sc_law_great_right.nd rfl (Or.inl rfl) (pe_callD D_law_draw (hr.mono (by decide)) (pa_cons (pv 0) (pa_cons (pe_op op_add (pe_callB call_lenN (by rfl) T.n_len (by decide +kernel) (pa_cons (pv 1) pa_nil)) pe_int) pa_nil))))
    (pss_cons (ps_set (i := 10) sc_law_great_right.nd rfl (Or.inl rfl) (pe_op op_add (pe_callD D_pages (hr.mono (by decide)) (pa_cons (pe_slice sl_list (pv 1) po_none (po_some (pv 9))) (pa_cons (pv 2) pa_nil))) (pe_callD D_pages (hr.mono (by decide)) (pa_cons (pe_slice sl_list (pv 1) (po_some (pv 9)) po_none) (pa_cons (pv 2) pa_nil)))))
    (pss_cons (ps_if (pt_cmpR (op_neD hr.units) (pe_lst (pa_cons (pv 10) (pa_cons (pe_callD D_pages (hr.mono (by decide)) (pa_cons (pe_revL (pv 1)) (pa_cons (pv 2) pa_nil))) pa_nil))) (pe_lst (pa_cons (pv 4) (pa_cons (pv 4) pa_nil))) (nomark _)) (pss_one (ps_ret pe_bl)) pss_nil)
    (pss_cons (ps_if (PW.pt (pw_or (pt_cmpR op_lt (pv 6) pe_int (nomark _)) (pw_or1 (pt_cmpR op_ge (pe_op op_add (pe_ix ix_list (pv 1) pe_int (fun _ _ => rfl)) (pe_ix ix_list (pv 1) pe_int (fun _ _ => rfl))) (pe_op op_powW pe_int pe_int) (nomark _))))) (pss_one (ps_ret pe_bl)) pss_nil)
    (pss_cons (ps_set (i := 11) sc_law_great_right.nd rfl (Or.inl rfl) (pe_op op_cat (pe_lst (pa_cons (pe_op op_add (pe_ix ix_list (pv 1) pe_int (fun _ _ => rfl)) (pe_ix ix_list (pv 1) pe_int (fun _ _ => rfl))) pa_nil)) (pe_slice sl_list (pv 1) (po_some pe_int) po_none)))
    (pss_one (ps_ret (pe_chain op_le op_le (pe_op op_sub (pv 4) pe_int) (pe_callD D_pages (hr.mono (by decide)) (pa_cons (pv 11) (pa_cons (pv 2) pa_nil))) (pv 4)))))))))))))))), ?_⟩
    refine w_start (σ' := [some (.ref a), some (.ref p), none, none, none, none, none, none, none, none, none, none]) rfl ?_
    walk_at "g"
    refine ⟨a, g, p, xs, k, rfl, hp, hpa, hpg, h, by omega, hxs, by omega, fun n k2 H2 n0 n1 hk2 hp2 f2 => ?_⟩
    have h2 := f2.at (nn3 hpa hpg) h
    have hx1 : ∀ x ∈ xs, 1 ≤ x := fun x hx => (hxs x hx).1
    have n00 : 0 < n := by omega
    walk_at "g"
    rename_i r3 k3 H3 r30 r31 hk3 hp3 f3
    have h3 := f3.at (nn3 hpa hpg) h2
    have f03 : Fr [a, g] H H3 := f2.trans f3
    clear f2 f3 hp2 h2 hp
    refine ⟨p, xs, n, rfl, h3, by omega, hx1, by omega, by omega, fun H4 f4 => ?_⟩
    have h4 := f4.at0 h3
    have hp4 := hp3.fr f4 List.not_mem_nil List.not_mem_nil
    have f04 : Fr [a, g] H H4 := f03.then f4
    clear f4 h3 hp3 f03
    have sb := sum_bound hxs
    have cA := cp_sum_le n00 xs
    have cB := ct_nonneg n00 hx1
    have cC := ct_over n00 xs
    walk_at "g"
    refine ⟨xs.sum, n, rfl, n00, by omega, by omega, ?_⟩
    walk_at "g"
    refine w_iteP (by split <;> omega) ?_
    walk_at "g"
    obtain ⟨m, hm⟩ : ∃ m, m = 1 + r3 := ⟨_, rfl⟩
    rw [← hm]
    have m1 : 1 ≤ m ∧ m ≤ 9 := by omega
    have nm0 : n ≤ n * m := by
      have := Int.mul_le_mul_of_nonneg_left m1.1 (show 0 ≤ n by omega)
      omega
    have nm1 : n * m ≤ n * 9 := Int.mul_le_mul_of_nonneg_left m1.2 (by omega)
    obtain ⟨G, hG⟩ : ∃ G, G = if n * m < 1000000000000000000000000000000 - 1 then n * m else 1000000000000000000000000000000 - 1 := ⟨_, rfl⟩
    rw [← hG]
    have g1 : n ≤ G ∧ G ≤ 10 ^ 30 := by rw [hG]; split <;> omega
    refine ⟨p, xs, G, rfl, h4, by omega, hx1, by omega, by omega, fun H5 f5 => ?_⟩
    have h5 := f5.at0 h4
    have hp5 := hp4.fr f5 List.not_mem_nil List.not_mem_nil
    have f05 : Fr [a, g] H H5 := f04.then f5
    clear f5 h4 hp4 f04
    have dA := ct_mono n00 g1.1 hx1
    have dB := ct_times (m := m) n00 m1.1 xs
    have eA := ct_nonneg (w := G) (by omega) hx1
    have eB : ct xs n ≤ 40 * 10 ^ 30 := by
      have := ct_mono (w := 1) (v := n) (by decide) (by omega) hx1
      have e1 : ct xs 1 = xs.sum := ct_one xs
      omega
    refine w_gname ?_
    dsimp only
    refine w_seq ?_
    refine w_ifJ (fun σ' H' => σ' = [some (.ref a), some (.ref p), some (.int n), some (.int m), some (.int (ct xs n)), some (.int xs.sum), some (.int xs.length), some (.int G), some (.int (ct xs G)), none, none, none] ∧ H' = H5) (fun nxt rest => ?_) ?_
    · walk_at "g"
      refine w_iteQ (by omega) ?_
      walk_at "g"
      refine w_ite (fun hg => ?_) (fun hg => ?_)
      · walk_at "g"
        refine w_iteQ (by rw [hg]; omega) ?_
        walk_at "g"
        exact rest _ _ ⟨rfl, rfl⟩
      · walk_at "g"
        exact rest _ _ ⟨rfl, rfl⟩
    · rintro σ' H' ⟨rfl, rfl⟩
      walk_at "g"
      rename_i r6 k6 H6 r60 r61 hk6 hp6 f6 u1 nu1
      have h6 := f6.at (nn3 hpa hpg) h5
      have f06 : Fr [a, g] H H6 := f05.trans f6
      obtain ⟨cu, rfl⟩ : ∃ cu : Nat, r6 = cu := ⟨r6.toNat, by omega⟩
      have hx6 : ∀ x ∈ xs.take cu, 1 ≤ x := fun x hx => hx1 x (List.mem_of_mem_take hx)
      have hx7 : ∀ x ∈ xs.drop cu, 1 ≤ x := fun x hx => hx1 x (List.mem_of_mem_drop hx)
      have l6 : (xs.take cu).length ≤ xs.length := by rw [List.length_take]; omega
      have l7 : (xs.drop cu).length ≤ xs.length := by rw [List.length_drop]; omega
      clear f6 h5 hp5 f05
      rw [cutI_take]
      have h6u : upd H6 u1 (.lst ((xs.take cu).map V.int)) p = some (.lst (xs.map V.int)) := at_upd h6 nu1
      refine ⟨u1, xs.take cu, n, rfl, upd_same, by omega, hx6, by omega, by omega, fun H7 f7 => ?_⟩
      have h7 := f7.at0 h6u
      have hp7 : Src H7 a g k6 := by walk_at "P"
      have f07 : Fr [a, g] H H7 := (f06.new nu1).then f7
      clear f7 h6u h6 nu1 hp6 f06
      walk_at "g"
      rename_i u2 nu2
      rw [cutI_drop]
      have h7u : upd H7 u2 (.lst ((xs.drop cu).map V.int)) p = some (.lst (xs.map V.int)) := at_upd h7 nu2
      refine ⟨u2, xs.drop cu, n, rfl, upd_same, by omega, hx7, by omega, by omega, fun H8 f8 => ?_⟩
      have h8 := f8.at0 h7u
      have hp8 : Src H8 a g k6 := by walk_at "P"
      have f08 : Fr [a, g] H H8 := (f07.new nu2).then f8
      clear f8 h7u h7 nu2 hp7 f07
      walk_at "g"
      rename_i u3 nu3
      have h8u : upd H8 u3 (.lst (xs.reverse.map V.int)) p = some (.lst (xs.map V.int)) := at_upd h8 nu3
      refine ⟨u3, xs.reverse, n, rfl, upd_same, by rw [List.length_reverse]; omega, fun x hx => hx1 x (List.mem_reverse.mp hx), by omega, by omega, fun H9 f9 => ?_⟩
      have h9 := f9.at0 h8u
      have hp9 : Src H9 a g k6 := by walk_at "P"
      have f09 : Fr [a, g] H H9 := (f08.new nu3).then f9
      clear f9 h8u h8 nu3 hp8 f08
      walk_at "g"
      rename_i w1 nw1 w2 nw2
      have e1 : ct (xs.take cu) n + ct (xs.drop cu) n = ct xs n := by rw [← ct_append, List.take_append_drop]
      refine w_neLI (ns := [ct (xs.take cu) n + ct (xs.drop cu) n, ct xs.reverse n]) (ms := [ct xs n, ct xs n]) (SqL.of (at_upd upd_same nw2)) (SqL.of upd_same) ?_
      walk_at "g"
      refine w_iteNP (by rw [e1, ct_rev]) ?_
      have h10 : upd (upd H9 w1 (.lst [.int (ct (xs.take cu) n + ct (xs.drop cu) n), .int (ct xs.reverse n)])) w2 (.lst [.int (ct xs n), .int (ct xs n)]) p = some (.lst (xs.map V.int)) := by walk_at "H"
      have hp10 : Src (upd (upd H9 w1 (.lst [.int (ct (xs.take cu) n + ct (xs.drop cu) n), .int (ct xs.reverse n)])) w2 (.lst [.int (ct xs n), .int (ct xs n)])) a g k6 := by walk_at "P"
      have f010 : Fr [a, g] H (upd (upd H9 w1 (.lst [.int (ct (xs.take cu) n + ct (xs.drop cu) n), .int (ct xs.reverse n)])) w2 (.lst [.int (ct xs n), .int (ct xs n)])) := (f09.new nw1).new nw2
      generalize upd (upd H9 w1 (.lst [.int (ct (xs.take cu) n + ct (xs.drop cu) n), .int (ct xs.reverse n)])) w2 (.lst [.int (ct xs n), .int (ct xs n)]) = H10 at h10 hp10 f010 ⊢
      clear h9 hp9 f09 nw1 nw2
      walk_at "g"
      refine w_ite (fun hs => ?_) (fun hs => ?_)
      · walk_at "g"
        exact q k6 _ (by omega) hp10 f010
      · obtain ⟨x, y, zs, rfl⟩ : ∃ x y zs, xs = x :: y :: zs := by
          match xs, hs with
          | [], hs => exact absurd (show ((([] : List Int).length : Nat) : Int) < 2 by decide) hs
          | [x], hs => exact absurd (show ((([x] : List Int).length : Nat) : Int) < 2 by simp) hs
          | x :: y :: zs, _ => exact ⟨x, y, zs, rfl⟩
        walk_at "g"
        rename_i v1 hv1 v2 hv2
        have ev1 : x = v1 := by simpa using hv1
        have ev2 : y = v2 := by simpa using hv2
        subst ev1 ev2
        have hx := hx1 x (by simp)
        have hy := hx1 y (by simp)
        have hzs : ∀ z ∈ zs, 1 ≤ z := fun z hz => hx1 z (by simp [hz])
        refine w_ite (fun hb => ?_) (fun hb => ?_)
        · walk_at "g"
          exact q k6 _ (by omega) hp10 f010
        · have cj := cp_join (x := x) (y := y) n00 hx hy
          have e2 : ct (x :: y :: zs) n = cp x n + cp y n + ct zs n := by rw [ct_cp, ct_cp]; omega
          have e3 : ct ((x + y) :: zs) n = cp (x + y) n + ct zs n := ct_cp _ _ _
          walk_at "g"
          rename_i b1 hb1 b2 hb2 w3 nw3 w4 nw4
          have eb1 : b1 = x := by simpa using hb1.symm
          have eb2 : b2 = y := by simpa using hb2.symm
          have ec : cutI (x :: y :: zs) (some 2) none = zs := cutI_drop (x :: y :: zs) 2
          subst eb1 eb2
          rw [ec]
          have lz : zs.length ≤ 40 := by simp only [List.length_cons] at lxs; omega
          refine w_catLI (ns := zs) (at_upd upd_same nw4) upd_same (show [V.int (b1 + b2)] = (unV [V.int (b1 + b2)]).map V.int from rfl) (by simp only [unV, List.length_cons, List.length_nil]; omega) (fun w5 nw5 => ?_)
          dsimp only [unV]
          walk_at "g"
          have hj : ∀ z ∈ (b1 + b2) :: zs, 1 ≤ z := fun z hz => by
            rcases List.mem_cons.mp hz with e | hz
            · omega
            · exact hzs z hz
          refine ⟨w5, (b1 + b2) :: zs, n, rfl, upd_same, by simp only [List.length_cons]; omega, hj, by omega, by omega, fun H11 f11 => ?_⟩
          walk_at "g"
          refine w_iteP (by rw [e2, e3]; omega) ?_
          walk_at "g"
          have ed : decide (ct ((b1 + b2) :: zs) n ≤ ct (b1 :: b2 :: zs) n) = true := decide_eq_true (by rw [e2, e3]; omega)
          rw [ed]
          exact q k6 _ (by omega) (by walk_at "P") ((((f010.new nw3).new nw4).new nw5).then f11)
set_option maxHeartbeats 4000000 in
theorem ok_law (T : Txt K mg c) : DefAt P w K mg base "law" s_law 8 ["script"] (spLaw K) := by
  have D_law_source := ok_law_source (P := P) (w := w) (base := base) T
  have D_law_lengths := ok_law_lengths (P := P) (w := w) (base := base) T
  have D_law_great_right := ok_law_great_right (P := P) (w := w) (base := base) T
  have D_law_draw := ok_law_draw (P := P) (w := w) (base := base) T
  have D_law_small_right := ok_law_small_right (P := P) (w := w) (base := base) T
  have D_pages := ok_pages (P := P) (w := w) (base := base) T
  refine T.f_law.ok sc_law (fun vs H Q E h => ?_) (fun _ _ _ _ _ _ us hl => match us, hl with | [_], _ => rfl) (fun f cdv A outer s H vs Q E hr h => ?_)
  · obtain ⟨a, ns, rfl, hS, hl, q⟩ := h
    rfl
  · obtain ⟨a, ns, rfl, hS, hl, q⟩ := h
    refine ⟨_, (pss_cons (ps_set (i := 1) sc_law.nd rfl (Or.inr rfl) (pe_callD D_law_source (hr.mono (by decide)) (pa_cons (pv 0) pa_nil)))
    (pss_cons (ps_for PassesOwn.never rfl (pi_range1 (by rfl) T.n_range (pa_cons (pe_op op_add pe_int (pe_callB (call_min2N rfl) (by rfl) T.n_min (by decide +kernel) (pa_cons pe_int (pa_cons (pe_callB call_lenN (by rfl) T.n_len (by decide +kernel) (pa_cons (pv 0) pa_nil)) pa_nil)))) pa_nil)) (pg_name (i := 2) sc_law.nd rfl (Or.inl rfl)) (pss_cons (ps_set (i := 3) sc_law.nd rfl (Or.inl rfl) (pe_callD D_law_lengths (hr.mono (by decide)) (pa_cons (pv 1) (pa_cons pe_int pa_nil))))
    (pss_cons (ps_for PassesOwn.never rfl (pi_range1 (by rfl) T.n_range (pa_cons pe_int pa_nil)) (pg_name (i := 4) sc_law.nd rfl (Or.inl rfl)) (pss_one (ps_if (pt_not (pt_val (pe_callD D_law_great_right (hr.mono (by decide)) (pa_cons (pv 1) (pa_cons (pv 3) pa_nil))))) (pss_one (ps_ret pe_bl)) pss_nil)))
    (pss_cons (ps_setLc (i := 5) (own := [("part", 6)]) (tt := tYes) rfl sc_law.nd rfl rfl (sw_true rfl rfl rfl (by decide +kernel)) (pi_range1 (by rfl) T.n_range (pa_cons (pe_callD D_law_draw (hr.mono (by decide)) (pa_cons (pv 1) (pa_cons pe_int pa_nil))) pa_nil)) (blkOk_by (N := sc_law_N) (sc := defScope s_law) (by decide +kernel)) (fun _ _ _ _ _ => (pg_name (i := 6) sc_law.nd rfl (Or.inl rfl))) (fun _ _ _ _ _ => pts_nil) (fun _ _ _ _ _ => (pe_op op_add pe_int (pe_callD D_law_draw (hr.mono (by decide)) (pa_cons (pv 1) (pa_cons (pe_ix (kc_ix (K := K) (r := rIxL) ix_list rfl) (pe_lst (pa_cons pe_int (pa_cons pe_int (pa_cons pe_int pa_nil)))) (pe_callD D_law_draw (hr.mono (by decide)) (pa_cons (pv 1) (pa_cons pe_int pa_nil))) (fun _ _ => rfl)) pa_nil))))))
    (pss_one (ps_if (pt_not (pt_val (pe_callD D_law_small_right (hr.mono (by decide)) (pa_cons (pv 1) (pa_cons (pv 5) pa_nil))))) (pss_one (ps_ret pe_bl)) pss_nil))))))
    (pss_one (ps_ret (pe_cmpR op_eq (pe_callD D_pages (hr.mono (by decide)) (pa_cons (pe_lst (pa_cons pe_int (pa_cons pe_int pa_nil))) (pa_cons pe_int pa_nil))) (pe_callD D_pages (hr.mono (by decide)) (pa_cons (pe_lst (pa_cons pe_int (pa_cons pe_int pa_nil))) (pa_cons pe_int pa_nil))) (nomark _)))))), ?_⟩
    refine w_start (σ' := [some (.ref a), none, none, none, none, none, none]) rfl ?_
    walk_at "g"
    refine ⟨a, ns, rfl, hS, hl, fun r g H1 f1 nr ng hr1 => ?_⟩
    walk_at "g"
    refine w_lenI (f1.seqL List.not_mem_nil hS) ?_
    walk_at "g"
    refine f_range (fun i σ' H' => ∃ (o1 o2 o3 o4 o5 : Option V) (k : Int), σ' = [some (.ref a), some (.ref r), o1, o2, o3, o4, o5] ∧ Src H' r g k ∧ k ≤ 2000 * i ∧ Fr [] H H') ⟨_, _, _, _, _, 0, rfl, hr1, by omega, f1⟩ ?_ ?_
    · rintro i σ' H2 hi ⟨o1, o2, o3, o4, o5, k, rfl, hp2, hk2, f2⟩
      have hi2 : i < 100 := by split at hi <;> omega
      walk_at "g"
      refine ⟨r, g, k, 40, rfl, hp2, by omega, by omega, by omega, fun p xs k3 H3 lxs hxs hk3 hp3 f3 np h3 => ?_⟩
      have f03 : Fr [] H H3 := f2.loc2 nr ng f3
      have hpr : p ≠ r := hp2.ne np
      have hpg : p ≠ g := hp2.ne2 np
      clear f3 f2 hp2 np
      walk_at "g"
      refine f_range (fun t σ' H' => ∃ (o4 o5 o6 : Option V) (k : Int), σ' = [some (.ref a), some (.ref r), some (.int (0 + ↑i)), some (.ref p), o4, o5, o6] ∧ Src H' r g k ∧ k ≤ k3 + 20 * t ∧ Fr [] H H' ∧ H' p = some (.lst (xs.map V.int))) ⟨_, _, _, k3, rfl, hp3, by omega, f03, h3⟩ ?_ ?_
      · rintro t σ' H4 ht ⟨o4, o5, o6, k4, rfl, hp4, hk4, f4, h4⟩
        walk_at "g"
        refine ⟨r, g, p, xs, k4, rfl, hp4, hpr, hpg, h4, lxs, hxs, by omega, fun k5 H5 hk5 hp5 f5 => ?_⟩
        walk_at "g"
        exact ⟨_, _, _, k5, rfl, hp5, by omega, f4.loc2 nr ng f5, f5.at (nn3 hpr hpg) h4⟩
      · rintro σ' H4 ⟨o4, o5, o6, k4, rfl, hp4, hk4, f4, h4⟩
        walk_at "g"
        rename_i r5 k5 H5 r50 r51 hk5 hp5 f5
        have f05 : Fr [] H H5 := f4.loc2 nr ng f5
        clear f5 f4 hp4 h4 h3 hp3 f03
        refine l_range (fun L j H' => ∃ (ys : List Int) (k6 : Int), Src H' r g k6 ∧ k6 ≤ k5 + 2 * j ∧ Fr [r, g] H5 H' ∧ H' L = some (.lst (ys.map V.int)) ∧ ys.length = j ∧ ∀ y ∈ ys, 1 ≤ y ∧ y ≤ 60) (fun L hL => ?_) (fun L j H' hL hj h => ?_) (fun L H' hL h => ?_)
        · exact ⟨[], k5, by walk_at "P", by omega, Fr.refl.new hL, upd_same, rfl, by simp⟩
        · obtain ⟨ys, k6, hp6, hk6, f6, h6, hl6, hy6⟩ := h
          have hLa : L ≠ r := hp5.ne hL
          have hLg : L ≠ g := hp5.ne2 hL
          refine w_gname ⟨rfl, ?_⟩
          walk_at "g"
          exact ⟨_, _, by walk_at "P", by omega, by walk_at "F", upd_same, len_snoc hl6, mem_snoc hy6 (by omega)⟩
        · obtain ⟨ys, k6, hp6, hk6, f6, h6, hl6, hy6⟩ := h
          have hLa : L ≠ r := hp5.ne hL
          have hLg : L ≠ g := hp5.ne2 hL
          have f06 : Fr [] H H' := f05.loc2 nr ng f6
          clear f6
          walk_at "g"
          refine ⟨r, g, L, ys, k6, rfl, hp6, hLa, hLg, h6, by omega, hy6, by omega, fun k7 H7 hk7 hp7 f7 => ?_⟩
          walk_at "g"
          exact ⟨_, _, _, _, _, k7, rfl, hp7, by omega, f06.loc2 nr ng f7⟩
    · rintro σ' H2 ⟨o1, o2, o3, o4, o5, k, rfl, hp2, hk2, f2⟩
      walk_at "g"
      rename_i u nu
      refine ⟨u, [3, 5], 2, rfl, upd_same, by decide, by decide, by omega, by omega, fun H3 f3 => ?_⟩
      walk_at "g"
      rename_i v nv
      refine ⟨v, [5, 3], 2, rfl, upd_same, by decide, by decide, by omega, by omega, fun H4 f4 => ?_⟩
      walk_at "g"
      exact q _
end
/-! ### the end -/
theorem all_mk {l : PySem.W.OpenLaw} {w : World} {K : PySem.W.Frag} {h : Heap} {mg : Str → Option Value} {fa : Addr} (X : K.In h) (G : h.Ns mainGlobals mg) (hfa : mg "law" = some (.ref fa))
    {f1 : Addr} {od1 an1 : Option Addr} {sl1 : Array (Option Value)} {oc1 kV1 dc1 pm1 cd1 ct1 : Value}
    {f2 : Addr} {od2 an2 : Option Addr} {sl2 : Array (Option Value)} {oc2 kV2 dc2 pm2 cd2 ct2 : Value}
    {f3 : Addr} {od3 an3 : Option Addr} {sl3 : Array (Option Value)} {oc3 kV3 dc3 pm3 cd3 ct3 : Value}
    {f4 : Addr} {od4 an4 : Option Addr} {sl4 : Array (Option Value)} {oc4 kV4 dc4 pm4 cd4 ct4 : Value}
    {f5 : Addr} {od5 an5 : Option Addr} {sl5 : Array (Option Value)} {oc5 kV5 dc5 pm5 cd5 ct5 : Value}
    {f6 : Addr} {od6 an6 : Option Addr} {sl6 : Array (Option Value)} {oc6 kV6 dc6 pm6 cd6 ct6 : Value}
    {f7 : Addr} {od7 an7 : Option Addr} {sl7 : Array (Option Value)} {oc7 kV7 dc7 pm7 cd7 ct7 : Value}
    {f8 : Addr} {od8 an8 : Option Addr} {sl8 : Array (Option Value)} {oc8 kV8 dc8 pm8 cd8 ct8 : Value}
    {f9 : Addr} {od9 an9 : Option Addr} {sl9 : Array (Option Value)} {oc9 kV9 dc9 pm9 cd9 ct9 : Value}
    {f10 : Addr} {od10 an10 : Option Addr} {sl10 : Array (Option Value)} {oc10 kV10 dc10 pm10 cd10 ct10 : Value}
    {f11 : Addr} {od11 an11 : Option Addr} {sl11 : Array (Option Value)} {oc11 kV11 dc11 pm11 cd11 ct11 : Value}
    {f12 : Addr} {od12 an12 : Option Addr} {sl12 : Array (Option Value)} {oc12 kV12 dc12 pm12 cd12 ct12 : Value}
    {f13 : Addr} {od13 an13 : Option Addr} {sl13 : Array (Option Value)} {oc13 kV13 dc13 pm13 cd13 ct13 : Value}
    {f14 : Addr} {od14 an14 : Option Addr} {sl14 : Array (Option Value)} {oc14 kV14 dc14 pm14 cd14 ct14 : Value}
    {f15 : Addr} {od15 an15 : Option Addr} {sl15 : Array (Option Value)} {oc15 kV15 dc15 pm15 cd15 ct15 : Value}
    {f16 : Addr} {od16 an16 : Option Addr} {sl16 : Array (Option Value)} {oc16 kV16 dc16 pm16 cd16 ct16 : Value}
    (a1 : PySem.W.nsIn K mainGlobals "_law_source" = some (some (.ref f1)))
    (l1 : K.lookup f1 = some ⟨oc1, od1, .func (PySem.W.fnOf "_law_source" "_law_source" (defArgs s_law_source) (defBody s_law_source) (defScope s_law_source) .none kV1 dc1 pm1 an1 cd1 ct1), sl1⟩)
    (c1 : PySem.W.codeIn K cd1 "_law_source" = true)
    (k1 : PySem.W.keepIn K (.ref f1) = true)
    (a2 : PySem.W.nsIn K mainGlobals "_law_draw" = some (some (.ref f2)))
    (l2 : K.lookup f2 = some ⟨oc2, od2, .func (PySem.W.fnOf "_law_draw" "_law_draw" (defArgs s_law_draw) (defBody s_law_draw) (defScope s_law_draw) .none kV2 dc2 pm2 an2 cd2 ct2), sl2⟩)
    (c2 : PySem.W.codeIn K cd2 "_law_draw" = true)
    (k2 : PySem.W.keepIn K (.ref f2) = true)
    (a3 : PySem.W.nsIn K mainGlobals "check_book" = some (some (.ref f3)))
    (l3 : K.lookup f3 = some ⟨oc3, od3, .func (PySem.W.fnOf "check_book" "check_book" (defArgs s_check_book) (defBody s_check_book) (defScope s_check_book) .none kV3 dc3 pm3 an3 cd3 ct3), sl3⟩)
    (c3 : PySem.W.codeIn K cd3 "check_book" = true)
    (k3 : PySem.W.keepIn K (.ref f3) = true)
    (a4 : PySem.W.nsIn K mainGlobals "check_size" = some (some (.ref f4)))
    (l4 : K.lookup f4 = some ⟨oc4, od4, .func (PySem.W.fnOf "check_size" "check_size" (defArgs s_check_size) (defBody s_check_size) (defScope s_check_size) .none kV4 dc4 pm4 an4 cd4 ct4), sl4⟩)
    (c4 : PySem.W.codeIn K cd4 "check_size" = true)
    (k4 : PySem.W.keepIn K (.ref f4) = true)
    (a5 : PySem.W.nsIn K mainGlobals "chapter_pages" = some (some (.ref f5)))
    (l5 : K.lookup f5 = some ⟨oc5, od5, .func (PySem.W.fnOf "chapter_pages" "chapter_pages" (defArgs s_chapter_pages) (defBody s_chapter_pages) (defScope s_chapter_pages) .none kV5 dc5 pm5 an5 cd5 ct5), sl5⟩)
    (c5 : PySem.W.codeIn K cd5 "chapter_pages" = true)
    (k5 : PySem.W.keepIn K (.ref f5) = true)
    (a6 : PySem.W.nsIn K mainGlobals "count_pages" = some (some (.ref f6)))
    (l6 : K.lookup f6 = some ⟨oc6, od6, .func (PySem.W.fnOf "count_pages" "count_pages" (defArgs s_count_pages) (defBody s_count_pages) (defScope s_count_pages) .none kV6 dc6 pm6 an6 cd6 ct6), sl6⟩)
    (c6 : PySem.W.codeIn K cd6 "count_pages" = true)
    (k6 : PySem.W.keepIn K (.ref f6) = true)
    (a7 : PySem.W.nsIn K mainGlobals "pages" = some (some (.ref f7)))
    (l7 : K.lookup f7 = some ⟨oc7, od7, .func (PySem.W.fnOf "pages" "pages" (defArgs s_pages) (defBody s_pages) (defScope s_pages) .none kV7 dc7 pm7 an7 cd7 ct7), sl7⟩)
    (c7 : PySem.W.codeIn K cd7 "pages" = true)
    (k7 : PySem.W.keepIn K (.ref f7) = true)
    (a8 : PySem.W.nsIn K mainGlobals "counts" = some (some (.ref f8)))
    (l8 : K.lookup f8 = some ⟨oc8, od8, .func (PySem.W.fnOf "counts" "counts" (defArgs s_counts) (defBody s_counts) (defScope s_counts) .none kV8 dc8 pm8 an8 cd8 ct8), sl8⟩)
    (c8 : PySem.W.codeIn K cd8 "counts" = true)
    (k8 : PySem.W.keepIn K (.ref f8) = true)
    (a9 : PySem.W.nsIn K mainGlobals "page_of" = some (some (.ref f9)))
    (l9 : K.lookup f9 = some ⟨oc9, od9, .func (PySem.W.fnOf "page_of" "page_of" (defArgs s_page_of) (defBody s_page_of) (defScope s_page_of) .none kV9 dc9 pm9 an9 cd9 ct9), sl9⟩)
    (c9 : PySem.W.codeIn K cd9 "page_of" = true)
    (k9 : PySem.W.keepIn K (.ref f9) = true)
    (a10 : PySem.W.nsIn K mainGlobals "lines_on" = some (some (.ref f10)))
    (l10 : K.lookup f10 = some ⟨oc10, od10, .func (PySem.W.fnOf "lines_on" "lines_on" (defArgs s_lines_on) (defBody s_lines_on) (defScope s_lines_on) .none kV10 dc10 pm10 an10 cd10 ct10), sl10⟩)
    (c10 : PySem.W.codeIn K cd10 "lines_on" = true)
    (k10 : PySem.W.keepIn K (.ref f10) = true)
    (a11 : PySem.W.nsIn K mainGlobals "_law_lengths" = some (some (.ref f11)))
    (l11 : K.lookup f11 = some ⟨oc11, od11, .func (PySem.W.fnOf "_law_lengths" "_law_lengths" (defArgs s_law_lengths) (defBody s_law_lengths) (defScope s_law_lengths) .none kV11 dc11 pm11 an11 cd11 ct11), sl11⟩)
    (c11 : PySem.W.codeIn K cd11 "_law_lengths" = true)
    (k11 : PySem.W.keepIn K (.ref f11) = true)
    (a12 : PySem.W.nsIn K mainGlobals "_law_wide" = some (some (.ref f12)))
    (l12 : K.lookup f12 = some ⟨oc12, od12, .func (PySem.W.fnOf "_law_wide" "_law_wide" (defArgs s_law_wide) (defBody s_law_wide) (defScope s_law_wide) .none kV12 dc12 pm12 an12 cd12 ct12), sl12⟩)
    (c12 : PySem.W.codeIn K cd12 "_law_wide" = true)
    (k12 : PySem.W.keepIn K (.ref f12) = true)
    (a13 : PySem.W.nsIn K mainGlobals "_law_sheets" = some (some (.ref f13)))
    (l13 : K.lookup f13 = some ⟨oc13, od13, .func (PySem.W.fnOf "_law_sheets" "_law_sheets" (defArgs s_law_sheets) (defBody s_law_sheets) (defScope s_law_sheets) .none kV13 dc13 pm13 an13 cd13 ct13), sl13⟩)
    (c13 : PySem.W.codeIn K cd13 "_law_sheets" = true)
    (k13 : PySem.W.keepIn K (.ref f13) = true)
    (a14 : PySem.W.nsIn K mainGlobals "_law_small_right" = some (some (.ref f14)))
    (l14 : K.lookup f14 = some ⟨oc14, od14, .func (PySem.W.fnOf "_law_small_right" "_law_small_right" (defArgs s_law_small_right) (defBody s_law_small_right) (defScope s_law_small_right) .none kV14 dc14 pm14 an14 cd14 ct14), sl14⟩)
    (c14 : PySem.W.codeIn K cd14 "_law_small_right" = true)
    (k14 : PySem.W.keepIn K (.ref f14) = true)
    (a15 : PySem.W.nsIn K mainGlobals "_law_great_right" = some (some (.ref f15)))
    (l15 : K.lookup f15 = some ⟨oc15, od15, .func (PySem.W.fnOf "_law_great_right" "_law_great_right" (defArgs s_law_great_right) (defBody s_law_great_right) (defScope s_law_great_right) .none kV15 dc15 pm15 an15 cd15 ct15), sl15⟩)
    (c15 : PySem.W.codeIn K cd15 "_law_great_right" = true)
    (k15 : PySem.W.keepIn K (.ref f15) = true)
    (a16 : PySem.W.nsIn K mainGlobals "law" = some (some (.ref f16)))
    (l16 : K.lookup f16 = some ⟨oc16, od16, .func (PySem.W.fnOf "law" "law" (defArgs s_law) (defBody s_law) (defScope s_law) .none kV16 dc16 pm16 an16 cd16 ct16), sl16⟩)
    (c16 : PySem.W.codeIn K cd16 "law" = true)
    (k16 : PySem.W.keepIn K (.ref f16) = true)
    (z_enumerate : PySem.W.nsIn K mainGlobals "enumerate" = some none)
    (z_int : PySem.W.nsIn K mainGlobals "int" = some none)
    (z_len : PySem.W.nsIn K mainGlobals "len" = some none)
    (z_list : PySem.W.nsIn K mainGlobals "list" = some none)
    (z_max : PySem.W.nsIn K mainGlobals "max" = some none)
    (z_min : PySem.W.nsIn K mainGlobals "min" = some none)
    (z_range : PySem.W.nsIn K mainGlobals "range" = some none)
    (z_sum : PySem.W.nsIn K mainGlobals "sum" = some none) :
    ∃ fd : FuncData, (∀ (s : Shared) (v : Value), BindsTo s fd ⟨[v], []⟩ [("script", v)]) ∧ ∀ base : Heap, K.In base → base.Ns mainGlobals mg → FnOk l.prog w K mg base CX0 8 fa fd ["script"] (spLaw K) := by
  have T : Txt K mg ⟨()⟩ := ⟨trivial,
    PySem.W.mg_none_of X G z_enumerate,
    PySem.W.mg_none_of X G z_int,
    PySem.W.mg_none_of X G z_len,
    PySem.W.mg_none_of X G z_list,
    PySem.W.mg_none_of X G z_max,
    PySem.W.mg_none_of X G z_min,
    PySem.W.mg_none_of X G z_range,
    PySem.W.mg_none_of X G z_sum,
    ⟨⟨_, _, PySem.W.mg_of X G a1, fun_mk (st := s_law_source) l1 c1 k1⟩⟩,
    ⟨⟨_, _, PySem.W.mg_of X G a2, fun_mk (st := s_law_draw) l2 c2 k2⟩⟩,
    ⟨⟨_, _, PySem.W.mg_of X G a3, fun_mk (st := s_check_book) l3 c3 k3⟩⟩,
    ⟨⟨_, _, PySem.W.mg_of X G a4, fun_mk (st := s_check_size) l4 c4 k4⟩⟩,
    ⟨⟨_, _, PySem.W.mg_of X G a5, fun_mk (st := s_chapter_pages) l5 c5 k5⟩⟩,
    ⟨⟨_, _, PySem.W.mg_of X G a6, fun_mk (st := s_count_pages) l6 c6 k6⟩⟩,
    ⟨⟨_, _, PySem.W.mg_of X G a7, fun_mk (st := s_pages) l7 c7 k7⟩⟩,
    ⟨⟨_, _, PySem.W.mg_of X G a8, fun_mk (st := s_counts) l8 c8 k8⟩⟩,
    ⟨⟨_, _, PySem.W.mg_of X G a9, fun_mk (st := s_page_of) l9 c9 k9⟩⟩,
    ⟨⟨_, _, PySem.W.mg_of X G a10, fun_mk (st := s_lines_on) l10 c10 k10⟩⟩,
    ⟨⟨_, _, PySem.W.mg_of X G a11, fun_mk (st := s_law_lengths) l11 c11 k11⟩⟩,
    ⟨⟨_, _, PySem.W.mg_of X G a12, fun_mk (st := s_law_wide) l12 c12 k12⟩⟩,
    ⟨⟨_, _, PySem.W.mg_of X G a13, fun_mk (st := s_law_sheets) l13 c13 k13⟩⟩,
    ⟨⟨_, _, PySem.W.mg_of X G a14, fun_mk (st := s_law_small_right) l14 c14 k14⟩⟩,
    ⟨⟨_, _, PySem.W.mg_of X G a15, fun_mk (st := s_law_great_right) l15 c15 k15⟩⟩,
    ⟨⟨_, _, PySem.W.mg_of X G a16, fun_mk (st := s_law) l16 c16 k16⟩⟩⟩
  have e := hfa.symm.trans (PySem.W.mg_of X G a16)
  cases e
  refine ⟨PySem.W.fnOf "law" "law" (defArgs s_law) (defBody s_law) (defScope s_law) .none kV16 dc16 pm16 an16 cd16 ct16, fun s v => .of_eq rfl, fun base _ _ => ?_⟩
  obtain ⟨f, fd, hm, F, O, B⟩ := (ok_law (P := l.prog) (w := w) (base := base) T).ex
  have e2 := hm.symm.trans (PySem.W.mg_of X G a16)
  cases e2
  obtain ⟨oc, od, kV, doc, pm, an, cdv, ct, osl, rfl, lk, hcd⟩ := F.ex
  have e3 := lk.symm.trans l16
  cases e3
  exact O
theorem walk {l : PySem.W.OpenLaw} {q : Program} {loose : List Str} {XP : (Str → Option Value) → Heap → Prop} {YP : World → Heap → Prop} {d : DefRec} {K : Params → PySem.W.Frag} (hn : l.most = some 63) (hdf : d.params.defaults = [])
    (hY : ∀ (w : World) (h : Heap), YP w h → (K w.params).In h)
    (F : ∀ (w : World) (mg : Str → Option Value) (fa : Addr) (h : Heap), (K w.params).In h → h.Ns mainGlobals mg → mg d.name = some (.ref fa) →
      ∃ fd : FuncData, (∀ (s : Shared) (u : Value), BindsTo s fd ⟨[u], []⟩ [("script", u)]) ∧ ∀ base : Heap, (K w.params).In base → base.Ns mainGlobals mg → FnOk l.prog w (K w.params) mg base CX0 8 fa fd ["script"] (spLaw (K w.params))) :
    PySem.W.WalkO q loose XP YP l.row.toRowW d [] (fun f vs => PySem.call f vs) :=
  L2.walk_of (n := 63) (k := 8) (x := "script") (CX := fun _ => CX0) (sp := fun w => spLaw (K w.params)) hn (by decide) hdf ⟨rfl, by decide, by decide⟩ hY F (fun _ _ a ns hl _ hS => ⟨a, ns, rfl, hS, hl, fun _ => rfl⟩) fun _ _ _ _ _ z => z
end K05
open PySem PySem.W PyProof.Rows
set_option maxRecDepth 100000 in
set_option maxHeartbeats 0 in
theorem PySem.Challenge.cw_pagecounts_k05_whole_pages_and_longer_ch_holds : PySem.Challenge.rw_pagecounts_k05_whole_pages_and_longer_ch.Holds := by
  w_on; o_law; k_head; (case hw => w_witness2)
  k_fill
  refine K05.walk (l := PySem.Challenge.rw_pagecounts_k05_whole_pages_and_longer_ch) rfl rfl (fun w h Y => PySem.W.kIn_of Y) ?F
  case F =>
    intro w mg fa h KX G hmg
    refine' K05.all_mk KX G hmg ?a1 ?l1 ?c1 ?k1 ?a2 ?l2 ?c2 ?k2 ?a3 ?l3 ?c3 ?k3 ?a4 ?l4 ?c4 ?k4 ?a5 ?l5 ?c5 ?k5 ?a6 ?l6 ?c6 ?k6 ?a7 ?l7 ?c7 ?k7 ?a8 ?l8 ?c8 ?k8 ?a9 ?l9 ?c9 ?k9 ?a10 ?l10 ?c10 ?k10 ?a11 ?l11 ?c11 ?k11 ?a12 ?l12 ?c12 ?k12 ?a13 ?l13 ?c13 ?k13 ?a14 ?l14 ?c14 ?k14 ?a15 ?l15 ?c15 ?k15 ?a16 ?l16 ?c16 ?k16 ?z_enumerate ?z_int ?z_len ?z_list ?z_max ?z_min ?z_range ?z_sum
    (case a1 => k_is)
    (case l1 => k_is)
    (case c1 => k_is)
    (case k1 => k_is)
    (case a2 => k_is)
    (case l2 => k_is)
    (case c2 => k_is)
    (case k2 => k_is)
    (case a3 => k_is)
    (case l3 => k_is)
    (case c3 => k_is)
    (case k3 => k_is)
    (case a4 => k_is)
    (case l4 => k_is)
    (case c4 => k_is)
    (case k4 => k_is)
    (case a5 => k_is)
    (case l5 => k_is)
    (case c5 => k_is)
    (case k5 => k_is)
    (case a6 => k_is)
    (case l6 => k_is)
    (case c6 => k_is)
    (case k6 => k_is)
    (case a7 => k_is)
    (case l7 => k_is)
    (case c7 => k_is)
    (case k7 => k_is)
    (case a8 => k_is)
    (case l8 => k_is)
    (case c8 => k_is)
    (case k8 => k_is)
    (case a9 => k_is)
    (case l9 => k_is)
    (case c9 => k_is)
    (case k9 => k_is)
    (case a10 => k_is)
    (case l10 => k_is)
    (case c10 => k_is)
    (case k10 => k_is)
    (case a11 => k_is)
    (case l11 => k_is)
    (case c11 => k_is)
    (case k11 => k_is)
    (case a12 => k_is)
    (case l12 => k_is)
    (case c12 => k_is)
    (case k12 => k_is)
    (case a13 => k_is)
    (case l13 => k_is)
    (case c13 => k_is)
    (case k13 => k_is)
    (case a14 => k_is)
    (case l14 => k_is)
    (case c14 => k_is)
    (case k14 => k_is)
    (case a15 => k_is)
    (case l15 => k_is)
    (case c15 => k_is)
    (case k15 => k_is)
    (case a16 => k_is)
    (case l16 => k_is)
    (case c16 => k_is)
    (case k16 => k_is)
    (case z_enumerate => k_is)
    (case z_int => k_is)
    (case z_len => k_is)
    (case z_list => k_is)
    (case z_max => k_is)
    (case z_min => k_is)
    (case z_range => k_is)
    (case z_sum => k_is)
