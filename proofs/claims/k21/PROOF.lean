import PyProof.Rows.All
import Wide.All
import OpenK.AllK
import Wide.FinOn
import HandS.ForMost
import HandS.Wide
import HandS.SortInts
import HandS.SortKw
import HandS.Property
import HandS.IsInst
import HandS.RevRange
import HandS.Style
import HandS.Flow
import HandS.Defaults
import HandS.MakeKwOnly
import HandS.TryOnly
import HandS.Zip
import PySem.Challenge.RW_pagecounts_k21_hidden_books_found
set_option Elab.async false
set_option linter.all false
set_option maxRecDepth 100000
set_option maxHeartbeats 4000000
namespace Pg
open PySem PySem.Spec PyProof.Rows L2

/-! ### powers of great ints -/
def CPowW (i j : Int) : Prop := 0 ≤ j ∧ (i.natAbs.log2 + 1 : Int) * j ≤ 1000000
theorem CPowW.of {i j : Int} (b : Nat) (h0 : 0 ≤ j) (h1 : i.natAbs < 2 ^ b) (hb : 0 < b) (h : (b : Int) * j ≤ 1000000) : CPowW i j := by
  refine ⟨h0, ?_⟩
  have x := PySem.Flt.log2_lt_of hb h1
  have y : ((i.natAbs.log2 + 1 : Nat) : Int) ≤ (b : Int) := by omega
  have z : ((i.natAbs.log2 + 1 : Nat) : Int) * j ≤ (b : Int) * j := Int.mul_le_mul_of_nonneg_right y h0
  have e : ((i.natAbs.log2 + 1 : Nat) : Int) = (i.natAbs.log2 : Int) + 1 := by omega
  rw [e] at z
  exact Int.le_trans z h
section
variable {X : Cx}
theorem op_powW : OpR X (binaryOp .Pow) (rI CPowW fun i j => .int (i ^ j.toNat)) := opI fun i j _ _ _ _ _ hc q => by
  refine pow_int hc.1 ?_ q
  have b : Builtin.Int.intBits i ≤ i.natAbs.log2 + 1 := by
    unfold Builtin.Int.intBits
    split <;> omega
  have b' : ((Builtin.Int.intBits i : Nat) : Int) ≤ (i.natAbs.log2 : Int) + 1 := by omega
  have z := Int.mul_le_mul_of_nonneg_right b' hc.1
  have h2 := hc.2
  have e : (1000000 : Int) ≤ 2 ^ 27 := by decide
  exact Int.le_trans z (Int.le_trans h2 e)
end

/-! ### a def where it stands -/
structure DefAt (P : Program) (w : World) (K : PySem.W.Frag) (mg : Str → Option Value) (base : Heap) (x : Str) (st : Stmt) (k : Nat) (ps : List Str) (sp : Sp) : Prop where
  ex : ∃ f fd, mg x = some (.ref f) ∧ Fun K x x st f fd ∧ FnOk P w K mg base CX0 k f fd ps sp ∧ Binds K fd ps []
/-- a def of the text that stands at the module's name -/
structure FunAt (K : PySem.W.Frag) (mg : Str → Option Value) (x : Str) (st : Stmt) : Prop where
  ex : ∃ f fd, mg x = some (.ref f) ∧ Fun K x x st f fd
/-- a class with its __init__ -/
structure ClsAt (K : PySem.W.Frag) (mg : Str → Option Value) (x : Str) (C : Addr) : Prop where
  g : mg x = some (.ref C)
  c : Cls K C
  mks : PySem.W.makesIn K C = true
  kp : PySem.W.keepIn K (.ref C) = true
/-- a method of a class, as the text has it -/
structure MethAt (K : PySem.W.Frag) (C : Addr) (m qual : Str) (st : Stmt) : Prop where
  ex : ∃ f fd, Meth K C m f ∧ Fun K m qual st f fd
structure MDefAt (P : Program) (w : World) (K : PySem.W.Frag) (mg : Str → Option Value) (base : Heap) (C : Addr) (m qual : Str) (st : Stmt) (k : Nat) (ps : List Str) (sp : Sp) : Prop where
  ex : ∃ f fd, Meth K C m f ∧ Fun K m qual st f fd ∧ FnOk P w K mg base CX0 k f fd ps sp ∧ Binds K fd ps []
/-- a property of a class -/
structure PropAt (K : PySem.W.Frag) (C : Addr) (m qual : Str) (st : Stmt) : Prop where
  ex : ∃ p f fd, PropOf K C m p f ∧ Fun K m qual st f fd
structure PDefAt (P : Program) (w : World) (K : PySem.W.Frag) (mg : Str → Option Value) (base : Heap) (C : Addr) (m qual : Str) (st : Stmt) (k : Nat) (sp : Sp) : Prop where
  ex : ∃ p f fd, PropOf K C m p f ∧ Fun K m qual st f fd ∧ FnOk P w K mg base CX0 k f fd ["self"] sp ∧ Binds K fd ["self"] []

section
variable {P : Program} {w : World} {K : PySem.W.Frag} {mg : Str → Option Value} {base : Heap} {x m qual : Str} {st : Stmt} {k : Nat} {ps N : List Str} {sp : Sp} {C : Addr}
theorem FunAt.ok (F : FunAt K mg x st) (S : FnScope N ps (defScope st)) (len : ∀ vs H Q E, sp vs H Q E → vs.length = ps.length)
    (hb : ∀ (kV doc pm : Value) (an : Option Addr) (cdv ct : Value) (us : List Value), us.length = ps.length → bindArgs (PySem.W.fnOf x x (defArgs st) (defBody st) (defScope st) .none kV doc pm an cdv ct) ⟨us, []⟩ = pure (ps.zip us))
    (hbody : ∀ (f : Addr) (cdv : Value) (A : Around) (outer : List Env) (s : Shared) (H : Hp) (vs : List V) (Q : VK) (E : XK), Room k (A.deeper (envOfC x (defScope st) s.heap.objs.size f cdv)) → sp vs H Q E →
      ∃ t, PSs (cxOf CX0 P w K mg base N x (defScope st) f cdv A outer s H E).nox (defBody st) t ∧ t { nx := fun _ H' => Q .non H', rt := Q } (start N vs) H) : DefAt P w K mg base x st (k + 1) ps sp := by
  obtain ⟨f, fd, hm, F⟩ := F.ex
  exact ⟨f, fd, hm, F, F.ok S len (fun cdv A outer s H vs Q E hr h => hbody f cdv A outer s H vs Q E hr h), F.binds hb⟩
theorem MethAt.ok (F : MethAt K C m qual st) (S : FnScope N ps (defScope st)) (len : ∀ vs H Q E, sp vs H Q E → vs.length = ps.length)
    (hb : ∀ (kV doc pm : Value) (an : Option Addr) (cdv ct : Value) (us : List Value), us.length = ps.length → bindArgs (PySem.W.fnOf m qual (defArgs st) (defBody st) (defScope st) .none kV doc pm an cdv ct) ⟨us, []⟩ = pure (ps.zip us))
    (hbody : ∀ (f : Addr) (cdv : Value) (A : Around) (outer : List Env) (s : Shared) (H : Hp) (vs : List V) (Q : VK) (E : XK), Room k (A.deeper (envOfC qual (defScope st) s.heap.objs.size f cdv)) → sp vs H Q E →
      ∃ t, PSs (cxOf CX0 P w K mg base N qual (defScope st) f cdv A outer s H E).nox (defBody st) t ∧ t { nx := fun _ H' => Q .non H', rt := Q } (start N vs) H) : MDefAt P w K mg base C m qual st (k + 1) ps sp := by
  obtain ⟨f, fd, hm, F⟩ := F.ex
  exact ⟨f, fd, hm, F, F.ok S len (fun cdv A outer s H vs Q E hr h => hbody f cdv A outer s H vs Q E hr h), F.binds hb⟩
theorem PropAt.ok (F : PropAt K C m qual st) (S : FnScope N ["self"] (defScope st)) (len : ∀ vs H Q E, sp vs H Q E → vs.length = 1)
    (hb : ∀ (kV doc pm : Value) (an : Option Addr) (cdv ct : Value) (us : List Value), us.length = (["self"] : List Str).length → bindArgs (PySem.W.fnOf m qual (defArgs st) (defBody st) (defScope st) .none kV doc pm an cdv ct) ⟨us, []⟩ = pure ((["self"] : List Str).zip us))
    (hbody : ∀ (f : Addr) (cdv : Value) (A : Around) (outer : List Env) (s : Shared) (H : Hp) (vs : List V) (Q : VK) (E : XK), Room k (A.deeper (envOfC qual (defScope st) s.heap.objs.size f cdv)) → sp vs H Q E →
      ∃ t, PSs (cxOf CX0 P w K mg base N qual (defScope st) f cdv A outer s H E).nox (defBody st) t ∧ t { nx := fun _ H' => Q .non H', rt := Q } (start N vs) H) : PDefAt P w K mg base C m qual st (k + 1) sp := by
  obtain ⟨p, f, fd, hm, F⟩ := F.ex
  exact ⟨p, f, fd, hm, F, F.ok S len (fun cdv A outer s H vs Q E hr h => hbody f cdv A outer s H vs Q E hr h), F.binds hb⟩
end

section
variable {X : Cx} {x m qual : Str} {st : Stmt} {k n : Nat} {ps ks : List Str} {sp : Sp} {C : Addr} {e o : Expr} {es : List Expr} {kws : List Keyword} {t tk : TA} {ta : TE} {p pos apos : Pos}
theorem pe_callD (D : DefAt X.prog X.w X.K X.mg X.base x st k ps sp) (hr : Room k X.A) (ha : PA X (e :: es) t) (hg : Gl X x := by rfl)
    (hdb : (x == ("__debug__" : Str)) = false := by decide) (he : starEach (e :: es) X.env = (false, eval e X.env) :: starEach es X.env := by rfl) (hpl : (backTo pos (starEach es X.env)).any (·.1) = false := by rfl) :
    PE X (.Call (.Name x p) (e :: es) [] pos) (tCall sp [] E0 t) := by
  obtain ⟨f, fd, hm, F, G, b⟩ := D.ex
  exact pe_call G hr hg hm F.kp b .nil pass0 ha hdb he hpl
theorem pe_methD {pl : Sem Bool} (he : PE X o ta) (T : Cls X.K C) (D : MDefAt X.prog X.w X.K X.mg X.base C m qual st k ps sp) (hr : Room k X.A) (ha : PA X (e :: es) t)
    (hst : starEach (e :: es) X.env = (false, eval e X.env) :: starEach es X.env := by rfl) (hpl : (backTo pos (starEach es X.env)).any (·.1) = false := by rfl)
    (ht : eval (.Call (.Attribute o m apos) (e :: es) [] pos) X.env = (do
      let ov ← eval o X.env
      standAt apos.atName
      let (f, first) ← holding [ov] (getMethod ov m pl)
      callWith pos f first (backTo pos (starEach (e :: es) X.env)) (backToKw pos (keywordEach [] X.env))) := by rfl) :
    PE X (.Call (.Attribute o m apos) (e :: es) [] pos) (tMeth C m sp [] E0 ta t) := by
  obtain ⟨f, fd, hm, F, G, b⟩ := D.ex
  exact pe_meth he T hm G hr b .nil pass0 ha hst hpl ht
theorem pe_methD0 {pl : Sem Bool} (he : PE X o ta) (T : Cls X.K C) (D : MDefAt X.prog X.w X.K X.mg X.base C m qual st k ps sp) (hr : Room k X.A)
    (ht : eval (.Call (.Attribute o m apos) [] [] pos) X.env = (do
      let ov ← eval o X.env
      standAt apos.atName
      let (f, first) ← holding [ov] (getMethod ov m pl)
      callWith pos f first (backTo pos (starEach [] X.env)) (backToKw pos (keywordEach [] X.env))) := by rfl) :
    PE X (.Call (.Attribute o m apos) [] [] pos) (tMeth C m sp [] E0 ta tNil) := by
  obtain ⟨f, fd, hm, F, G, b⟩ := D.ex
  exact pe_meth0 he T hm G hr b .nil pass0 ht
theorem pe_makeD (T : ClsAt X.K X.mg x C) (D : MDefAt X.prog X.w X.K X.mg X.base C "__init__" qual st k ps sp) (hr : Room (k + 1) X.A) (ha : PA X (e :: es) t) (hg : Gl X x := by rfl)
    (hdb : (x == ("__debug__" : Str)) = false := by decide) (he : starEach (e :: es) X.env = (false, eval e X.env) :: starEach es X.env := by rfl) (hpl : (backTo pos (starEach es X.env)).any (·.1) = false := by rfl) :
    PE X (.Call (.Name x p) (e :: es) [] pos) (tMake C sp [] E0 t) := by
  obtain ⟨f, fd, hm, F, G, b⟩ := D.ex
  exact pe_make ⟨T.mks, hm.at_, hm.fn, T.kp⟩ G hr hg T.g b .nil pass0 ha hdb he hpl
theorem passE0 : Passes CX0 X E0 := fun _ _ _ _ _ _ _ h => h.elim
theorem pe_propD (he : PE X e ta) (c : Cls X.K C) (D : PDefAt X.prog X.w X.K X.mg X.base C m qual st k sp) (hr : Room (k + 1) X.A)
    (hab : attributeBase e m X.env (eval e X.env) = eval e X.env := by rfl) : PE X (.Attribute e m pos) (tProp C sp [] E0 ta) := by
  obtain ⟨pp, f, fd, hm, F, G, b⟩ := D.ex
  exact pe_prop he c hm G hr b .nil passE0 hab
theorem pe_gcls {u : Addr} (hm : X.mg x = some (.ref u)) (hg : Gl X x := by rfl) (hd : (x == ("__debug__" : Str)) = false := by decide) : PE X (.Name x pos) (tC (.ref u)) := pe_glob hg hm rfl hd
end

section
variable {X : Cx} {x : Str} {p : Pos}
theorem pe_gint {i : Int} (hm : ∃ t, X.mg x = some (.int i t)) (hg : Gl X x := by rfl) (hd : (x == ("__debug__" : Str)) = false := by decide) : PE X (.Name x p) (tC (.int i)) := by
  obtain ⟨t, hm⟩ := hm
  exact pe_glob hg hm ⟨t, rfl⟩ hd
theorem pe_gstr {i : Str} (hm : ∃ t, X.mg x = some (.str i t)) (hg : Gl X x := by rfl) (hd : (x == ("__debug__" : Str)) = false := by decide) : PE X (.Name x p) (tC (.str i)) := by
  obtain ⟨t, hm⟩ := hm
  exact pe_glob hg hm ⟨t, rfl⟩ hd
end
/-! ### readings by names -/
def rLen (K : PySem.W.Frag) : List V → Hp → VK → Prop := fun xs H Q => ∃ x n, xs = [x] ∧ LenV K x H n ∧ Q (.int n) H
theorem call_lenN {X : Cx} : CallR X (.builtin "len") (rLen X.K) := call_len
def rAbs : List V → Hp → VK → Prop := fun xs H Q => ∃ i, xs = [.int i] ∧ Q (.int (if i < 0 then -i else i)) H
theorem call_absN {X : Cx} : CallR X (.builtin "abs") rAbs := call_abs
def rMax2 : List V → Hp → VK → Prop := fun xs H Q => ∃ i j, xs = [.int i, .int j] ∧ Q (.int (if j > i then j else i)) H
theorem call_max2N {X : Cx} (hc : X.calm = true) : CallR X (.builtin "max") rMax2 := call_max2 hc
def rMin2 : List V → Hp → VK → Prop := fun xs H Q => ∃ i j, xs = [.int i, .int j] ∧ Q (.int (if j < i then j else i)) H
theorem call_min2N {X : Cx} (hc : X.calm = true) : CallR X (.builtin "min") rMin2 := call_min2 hc
def rInt1 : List V → Hp → VK → Prop := fun xs H Q => (∃ i, xs = [.int i] ∧ Q (.int i) H) ∨ ∃ k, xs = [.bl k] ∧ Q (.int (if k then 1 else 0)) H
theorem call_int1N {X : Cx} : CallR X (.type "int") rInt1 := call_int1
def rStrI : List V → Hp → VK → Prop := fun xs H Q => ∃ i, xs = [.int i] ∧ i.natAbs.log2 < 1920 ∧ Q (.str (toString i)) H
theorem call_strN {X : Cx} : CallR X (.type "str") rStrI := call_str_int
def rListOf (K : PySem.W.Frag) : List V → Hp → VK → Prop := fun xs H Q => ∃ p ys, xs = [.ref p] ∧ (SqL K H p ys ∨ SqT K H p ys) ∧ ∀ l, H l = none → Q (.ref l) (upd H l (.lst ys))
theorem call_listN {X : Cx} : CallR X (.type "list") (rListOf X.K) := call_list_of

/-! ### calls by keywords alone -/
def pick {α : Type} (ix : List Nat) (l : List α) : List α := ix.filterMap fun i => l[i]?
theorem pick_vals {zs : List V} {ws : List Value} (r : Vals zs ws) : ∀ ix : List Nat, Vals (pick ix zs) (pick ix ws)
  | [] => .nil
  | i :: ix => by
    have ih := pick_vals r ix
    unfold pick at ih ⊢
    rw [List.filterMap_cons, List.filterMap_cons]
    cases e : zs[i]? with
    | none =>
      rw [Vals.none_of r e]
      exact ih
    | some v =>
      obtain ⟨u, e', rv⟩ := Vals.get r e
      rw [e']
      exact .cons rv ih
/-- how a call binds keywords alone: parameter i takes the keyword at ix[i] -/
def KB0 (x qual : Str) (st : Stmt) (ps ks : List Str) (pre : Nat) (ix : List Nat) : Prop :=
  ∀ (kV doc pm : Value) (an : Option Addr) (cdv ct : Value) (us ws : List Value), us.length = pre → ws.length = ks.length → bindArgs (PySem.W.fnOf x qual (defArgs st) (defBody st) (defScope st) .none kV doc pm an cdv ct) ⟨us, ks.zip ws⟩ = pure (ps.zip (us ++ pick ix ws))
theorem KB0.kbn {K : PySem.W.Frag} {x qual : Str} {st : Stmt} {f : Addr} {fd : FuncData} {ps ks : List Str} {pre : Nat} {ix : List Nat} (B : KB0 x qual st ps ks pre ix) (F : Fun K x qual st f fd) : KBn K fd ps pre ks (fun us ws => us ++ pick ix ws) (fun vs zs => vs ++ pick ix zs) := by
  obtain ⟨oc, od, kV, doc, pm, an, cdv, ct, osl, rfl, lk, hcd⟩ := F.ex
  exact ⟨fun s us ws _ hu hw => .of_eq (B kV doc pm an cdv ct us ws hu hw), fun r1 r2 => r1.append (pick_vals r2 ix)⟩
def tCallK0 (n : Nat) (ix : List Nat) (sp : Sp) (tk : TA) : TE := fun σ H Q => tk σ H fun zs H2 => zs.length = n ∧ sp (pick ix zs) H2 Q E0
section
variable {X : Cx} {x m qual : Str} {st : Stmt} {k n : Nat} {ps ks : List Str} {sp : Sp} {C : Addr} {e o : Expr} {es : List Expr} {kws : List Keyword} {t tk : TA} {ta : TE} {p pos apos : Pos} {ix : List Nat}
theorem pe_callKD (D : DefAt X.prog X.w X.K X.mg X.base x st k ps sp) (hr : Room k X.A) (hkw : PK X kws tk) (B : KB0 x x st ps ks 0 ix) (hg : Gl X x := by rfl)
    (hall : (backToKw pos (keywordEach kws X.env)).all (·.1.isSome) = true := by rfl) (hks : (backToKw pos (keywordEach kws X.env)).filterMap (·.1) = ks := by rfl) (hdb : (x == ("__debug__" : Str)) = false := by decide)
    (hpl : ((backTo pos (starEach [] X.env)).any (·.1) || (backToKw pos (keywordEach kws X.env)).any (·.1.isNone)) = false := by rfl) :
    PE X (.Call (.Name x p) [] kws pos) (tCallK0 ks.length ix sp tk) := by
  obtain ⟨f, fd, hm, F, G, b⟩ := D.ex
  refine ⟨fun pins s σ H Q I h => ?_⟩
  refine wpAny_Call_Name_kw (ld_glob I hg hm ?_ hdb)
  refine PySem.W.callWith_KW0 (h₀ := X.base) I.ok.mod.kin F.kp hall ?_ hpl
  refine thn (hkw.run pos pins s σ H _ I h) fun ws s2 ⟨zs, H2, I2, rz, l2, q2⟩ => ⟨I2.kIn, ?_⟩
  rw [hks]
  exact run_fnN (us := []) (vs := []) G hr (B.kbn F) pass0 I2 .nil rz rfl l2 q2
/-- o.m(k = v, ..) -/
def tMethK0 (C : Addr) (m : Str) (n : Nat) (ix : List Nat) (sp : Sp) (ta : TE) (tk : TA) : TE := fun σ H Q => ta σ H fun x H1 => ∃ a dx fs, x = .ref a ∧ H1 a = some (.ins C dx fs) ∧ fs.lookup m = none ∧
  tk σ H1 fun zs H2 => zs.length = n ∧ sp (x :: pick ix zs) H2 Q E0
theorem pe_makeKD (T : ClsAt X.K X.mg x C) (D : MDefAt X.prog X.w X.K X.mg X.base C "__init__" qual st k ps sp) (hr : Room (k + 1) X.A) (hkw : PK X kws tk) (B : KB0 "__init__" qual st ps ks 1 ix) (hg : Gl X x := by rfl)
    (hall : (backToKw pos (keywordEach kws X.env)).all (·.1.isSome) = true := by rfl) (hks : (backToKw pos (keywordEach kws X.env)).filterMap (·.1) = ks := by rfl) (hdb : (x == ("__debug__" : Str)) = false := by decide)
    (hpl : ((backTo pos (starEach [] X.env)).any (·.1) || (backToKw pos (keywordEach kws X.env)).any (·.1.isNone)) = false := by rfl) :
    PE X (.Call (.Name x p) [] kws pos) (tMakeK C 0 ks.length sp (fun vs zs => vs ++ pick ix zs) E0 tNil tk) := by
  obtain ⟨f, fd, hm, F, G, b⟩ := D.ex
  exact pe_makeK0 (p := p) (pos := pos) ⟨T.mks, hm.at_, hm.fn, T.kp⟩ G hr hg T.g (B.kbn F) pass0 hkw hall hks hdb hpl
end

/-! ### what is kept -/
/-- all that was tracked is as it was, but the addresses of S -/
def Fr (S : List Addr) (H H' : Hp) : Prop := ∀ b o, b ∉ S → H b = some o → H' b = some o
section
variable {S S' : List Addr} {H H1 H2 H' : Hp} {a b p : Addr} {o u : HO} {K : PySem.W.Frag} {xs : List V}
theorem Fr.refl : Fr S H H := fun _ _ _ h => h
theorem Fr.trans (h : Fr S H H1) (h' : Fr S H1 H2) : Fr S H H2 := fun b o n e => h' b o n (h b o n e)
theorem Fr.mono (h : Fr S H H1) (hs : ∀ b ∈ S, b ∈ S') : Fr S' H H1 := fun b o n e => h b o (fun z => n (hs b z)) e
theorem Fr.nil (h : Fr [] H H1) : Fr S H H1 := h.mono fun b z => absurd z (by simp)
theorem Fr.then (h : Fr S H H1) (h' : Fr [] H1 H2) : Fr S H H2 := h.trans h'.nil
theorem Fr.new (h : Fr S H H1) (n : H1 p = none) : Fr S H (upd H1 p o) := fun b u z e => by
  rw [upd_ne (ne_of_none (h b u z e) n)]
  exact h b u z e
/-- an object that was made behind H, or one of S, may change -/
theorem Fr.put (h : Fr S H H1) (n : H p = none ∨ p ∈ S) : Fr S H (upd H1 p o) := fun b u z e => by
  have hb : b ≠ p := by
    intro q
    subst q
    rcases n with n | n
    · rw [n] at e
      cases e
    · exact z n
  rw [upd_ne hb]
  exact h b u z e
theorem Fr.at (h : Fr S H H') (n : b ∉ S) (e : H b = some o) : H' b = some o := h b o n e
theorem Fr.at0 (h : Fr [] H H') (e : H b = some o) : H' b = some o := h b o (by simp) e
theorem Fr.rd (h : Fr S H H') (n : b ∉ S) (e : Rd H b o) : Rd H' b o := by
  rcases e with e | ⟨x, e⟩
  · exact .inl (h b _ n e)
  · exact .inr ⟨x, h b _ n e⟩
theorem Fr.seqL (h : Fr S H H') (n : b ∉ S) (e : SqL K H b xs) : SqL K H' b xs := by
  rcases e with e | e
  · exact .inl (h.rd n e)
  · exact .inr e
theorem Fr.free (h : Fr S H H') (n : p ∉ S) (e : H' p = none) : H p = none := by
  cases q : H p with
  | none => rfl
  | some o =>
    rw [h p o n q] at e
    cases e
/-- what changes one object that was made behind H -/
theorem Fr.loc (h : Fr S H H1) (n : H p = none) (h' : Fr [p] H1 H2) : Fr S H H2 := fun b o z e => by
  refine h' b o ?_ (h b o z e)
  intro q
  rw [List.mem_singleton.mp q, n] at e
  cases e
theorem same_fr (h : Same H H') : Fr S H H' := fun b o _ e => h b o e
theorem Fr.same (h : Fr [] H H') : Same H H' := fun b o e => h b o (by simp) e
theorem at_upd (h : H a = some o) (n : H p = none) : upd H p u a = some o := by
  rw [upd_ne (ne_of_none h n)]
  exact h
theorem at_make {dx : Addr} {v : HO} (h : H a = some o) (n1 : H dx = none) (n2 : H p = none) : upd (upd H dx u) p v a = some o := by
  rw [upd_ne (ne_of_none h n2), upd_ne (ne_of_none h n1)]
  exact h
theorem Fr.make {dx : Addr} {v : HO} (h : Fr S H H1) (n1 : H1 dx = none) (n2 : H1 p = none) : Fr S H (upd (upd H1 dx u) p v) := fun b w z e => at_make (h b w z e) n1 n2
theorem hx_of {v : HO} (h : H a = some o) (e : o = v) : H a = some v := e ▸ h
theorem nn2 (h1 : b ≠ a) : b ∉ [a] := by simpa using h1
end

/-! ### kinds of objects differ -/
theorem ho_lst_tup {v1 : List V} {v2 : List V} : ((.lst v1) : HO) ≠ (.tup v2) := fun z => nomatch z
theorem ho_lst_own {v1 : List V} {v2 : Addr} : ((.lst v1) : HO) ≠ (.own v2) := fun z => nomatch z
theorem ho_lst_xd {v1 : List V} {v2 : List (Str × V)} : ((.lst v1) : HO) ≠ (.xd v2) := fun z => nomatch z
theorem ho_lst_dK {v1 : List V} {v2 : List (Key × V)} : ((.lst v1) : HO) ≠ (.dK v2) := fun z => nomatch z
theorem ho_lst_ins {v1 : List V} {C2 dx2 : Addr} {fs2 : List (Str × V)} : ((.lst v1) : HO) ≠ (.ins C2 dx2 fs2) := fun z => nomatch z
theorem ho_tup_lst {v1 : List V} {v2 : List V} : ((.tup v1) : HO) ≠ (.lst v2) := fun z => nomatch z
theorem ho_tup_own {v1 : List V} {v2 : Addr} : ((.tup v1) : HO) ≠ (.own v2) := fun z => nomatch z
theorem ho_tup_xd {v1 : List V} {v2 : List (Str × V)} : ((.tup v1) : HO) ≠ (.xd v2) := fun z => nomatch z
theorem ho_tup_dK {v1 : List V} {v2 : List (Key × V)} : ((.tup v1) : HO) ≠ (.dK v2) := fun z => nomatch z
theorem ho_tup_ins {v1 : List V} {C2 dx2 : Addr} {fs2 : List (Str × V)} : ((.tup v1) : HO) ≠ (.ins C2 dx2 fs2) := fun z => nomatch z
theorem ho_own_lst {v1 : Addr} {v2 : List V} : ((.own v1) : HO) ≠ (.lst v2) := fun z => nomatch z
theorem ho_own_tup {v1 : Addr} {v2 : List V} : ((.own v1) : HO) ≠ (.tup v2) := fun z => nomatch z
theorem ho_own_xd {v1 : Addr} {v2 : List (Str × V)} : ((.own v1) : HO) ≠ (.xd v2) := fun z => nomatch z
theorem ho_own_dK {v1 : Addr} {v2 : List (Key × V)} : ((.own v1) : HO) ≠ (.dK v2) := fun z => nomatch z
theorem ho_own_ins {v1 : Addr} {C2 dx2 : Addr} {fs2 : List (Str × V)} : ((.own v1) : HO) ≠ (.ins C2 dx2 fs2) := fun z => nomatch z
theorem ho_xd_lst {v1 : List (Str × V)} {v2 : List V} : ((.xd v1) : HO) ≠ (.lst v2) := fun z => nomatch z
theorem ho_xd_tup {v1 : List (Str × V)} {v2 : List V} : ((.xd v1) : HO) ≠ (.tup v2) := fun z => nomatch z
theorem ho_xd_own {v1 : List (Str × V)} {v2 : Addr} : ((.xd v1) : HO) ≠ (.own v2) := fun z => nomatch z
theorem ho_xd_dK {v1 : List (Str × V)} {v2 : List (Key × V)} : ((.xd v1) : HO) ≠ (.dK v2) := fun z => nomatch z
theorem ho_xd_ins {v1 : List (Str × V)} {C2 dx2 : Addr} {fs2 : List (Str × V)} : ((.xd v1) : HO) ≠ (.ins C2 dx2 fs2) := fun z => nomatch z
theorem ho_dK_lst {v1 : List (Key × V)} {v2 : List V} : ((.dK v1) : HO) ≠ (.lst v2) := fun z => nomatch z
theorem ho_dK_tup {v1 : List (Key × V)} {v2 : List V} : ((.dK v1) : HO) ≠ (.tup v2) := fun z => nomatch z
theorem ho_dK_own {v1 : List (Key × V)} {v2 : Addr} : ((.dK v1) : HO) ≠ (.own v2) := fun z => nomatch z
theorem ho_dK_xd {v1 : List (Key × V)} {v2 : List (Str × V)} : ((.dK v1) : HO) ≠ (.xd v2) := fun z => nomatch z
theorem ho_dK_ins {v1 : List (Key × V)} {C2 dx2 : Addr} {fs2 : List (Str × V)} : ((.dK v1) : HO) ≠ (.ins C2 dx2 fs2) := fun z => nomatch z
theorem ho_ins_lst {C1 dx1 : Addr} {fs1 : List (Str × V)} {v2 : List V} : ((.ins C1 dx1 fs1) : HO) ≠ (.lst v2) := fun z => nomatch z
theorem ho_ins_tup {C1 dx1 : Addr} {fs1 : List (Str × V)} {v2 : List V} : ((.ins C1 dx1 fs1) : HO) ≠ (.tup v2) := fun z => nomatch z
theorem ho_ins_own {C1 dx1 : Addr} {fs1 : List (Str × V)} {v2 : Addr} : ((.ins C1 dx1 fs1) : HO) ≠ (.own v2) := fun z => nomatch z
theorem ho_ins_xd {C1 dx1 : Addr} {fs1 : List (Str × V)} {v2 : List (Str × V)} : ((.ins C1 dx1 fs1) : HO) ≠ (.xd v2) := fun z => nomatch z
theorem ho_ins_dK {C1 dx1 : Addr} {fs1 : List (Str × V)} {v2 : List (Key × V)} : ((.ins C1 dx1 fs1) : HO) ≠ (.dK v2) := fun z => nomatch z
/-! ### len(set(ints)) -/
/-- the different ints of a list -/
def distinct (ns : List Int) : List Int := PyProof.Rows.firstMet (fun i => ns.getD i 0) ns.length
theorem firstMet_mem (f : Nat → Int) : ∀ (i : Nat) (x : Int), x ∈ PyProof.Rows.firstMet f i ↔ ∃ j, j < i ∧ f j = x
  | 0, x => by simp [PyProof.Rows.firstMet_zero]
  | i + 1, x => by
    rw [PyProof.Rows.firstMet_succ]
    have ih := firstMet_mem f i
    unfold PyProof.Rows.step_dedup
    split
    · rename_i h
      obtain ⟨y, hy, e⟩ := List.any_eq_true.mp h
      have e := eq_of_beq e
      subst e
      rw [ih]
      constructor
      · rintro ⟨j, h1, h2⟩
        exact ⟨j, by omega, h2⟩
      · rintro ⟨j, h1, h2⟩
        by_cases hj : j < i
        · exact ⟨j, hj, h2⟩
        · have : j = i := by omega
          subst this
          rw [← h2]
          exact (ih _).mp hy
    · rw [List.mem_append, ih, List.mem_singleton]
      constructor
      · rintro (⟨j, h1, h2⟩ | h)
        · exact ⟨j, by omega, h2⟩
        · exact ⟨i, by omega, h.symm⟩
      · rintro ⟨j, h1, h2⟩
        by_cases hj : j < i
        · exact .inl ⟨j, hj, h2⟩
        · have : j = i := by omega
          subst this
          exact .inr h2.symm
theorem distinct_mem {ns : List Int} {x : Int} : x ∈ distinct ns ↔ x ∈ ns := by
  unfold distinct
  rw [firstMet_mem]
  constructor
  · rintro ⟨j, h1, h2⟩
    rw [List.getD_eq_getElem?_getD, List.getElem?_eq_getElem h1] at h2
    have h2 : ns[j] = x := h2
    rw [← h2]
    exact List.getElem_mem h1
  · intro h
    obtain ⟨j, h1, h2⟩ := List.getElem_of_mem h
    refine ⟨j, h1, ?_⟩
    rw [List.getD_eq_getElem?_getD, List.getElem?_eq_getElem h1]
    exact h2
theorem distinct_le (ns : List Int) : (distinct ns).length ≤ ns.length := PyProof.Rows.firstMet_length_le _ _
/-- a list without repetition within another one is no longer -/
theorem nodup_le : ∀ {ds ns : List Int}, ds.Nodup → (∀ x ∈ ds, x ∈ ns) → ds.length ≤ ns.length
  | [], _, _, _ => Nat.zero_le _
  | d :: ds, ns, h, hs => by
    obtain ⟨h1, h2⟩ := List.nodup_cons.mp h
    have hd : d ∈ ns := hs d List.mem_cons_self
    have ih := nodup_le (ds := ds) (ns := ns.erase d) h2 fun x hx => by
      have hne : x ≠ d := fun e => h1 (e ▸ hx)
      exact (List.mem_erase_of_ne hne).mpr (hs x (List.mem_cons_of_mem _ hx))
    have e := List.length_erase_of_mem hd
    have pos : 0 < ns.length := List.length_pos_of_mem hd
    simp only [List.length_cons]
    omega
def tLenSetJ (K : PySem.W.Frag) (ta : TE) : TE := fun σ H Q => ta σ H fun x H1 => ∃ (l : Addr) (ns : List Int), x = .ref l ∧ SqL K H1 l (ns.map V.int) ∧ ns.length ≤ 4000 ∧ Q (.int ((distinct ns).length : Nat)) H1
theorem pe_lenSetJ {X : Cx} {a : Expr} {ta : TE} {p p2 q pos : Pos} (hg : Gl X "len") (hm : X.mg "len" = none) (hg2 : Gl X "set") (hm2 : X.mg "set" = none) (ha : PE X a ta) (hc : X.calm = true := by rfl)
    (na : starEach [a] X.env = (false, eval a X.env) :: starEach [] X.env := by rfl) : PE X (.Call (.Name "len" p) [.Call (.Name "set" p2) [a] [] q] [] pos) (tLenSetJ X.K ta) := by
  refine ⟨fun pins s σ H Q I h => ?_⟩
  refine Call_ (ld_blt I hg hm boot_len ?_)
  refine PyProof.Rows.callWith_builtin1 (PyProof.Rows.args_cons ?_ rfl) rfl rfl
  refine Call_ (ld_blt I hg2 hm2 boot_set ?_)
  refine PyProof.Rows.callWith_type1 (PyProof.Rows.args_cons (thn (ha.run pins s σ H _ I h) fun v s1 ⟨x, H1, I1, r1, q1⟩ => PyProof.Rows.args_nil ?_) na) na rfl
  obtain ⟨l, ns, rfl, hq, hl, q1⟩ := q1
  cases r1
  obtain ⟨its, r, pl, hz⟩ := I1.list hq
  have hlen : its.toArray.size = ns.length := by rw [List.size_toArray, ← r.length, List.length_map]
  refine call_set_list (I1.ok.hd hc) pl.isList (by simpa using RZ.intsAre_vals r) (by rw [hlen]; unfold scanBound; omega) fun h' tk hS hk => ?_
  refine PyProof.Rows.args_nil ?_
  rw [hlen] at hS
  have hlt : (PyProof.Rows.firstMet (fun i => ns.getD i 0) ns.length).length ≤ ns.length := PyProof.Rows.firstMet_length_le _ _
  obtain ⟨o, es, ep, t, ho, hex, hd, _, _, _, hf, hn⟩ := hS
  have I2 : Inv X pins σ H1 { s1 with heap := h', toks := tk } := I1.kept fun b o e => hk b o (Heap.lt_size e) e
  exact call_len_set ho hex hd hf (by rw [hn] <;> omega) ⟨.int (distinct ns).length, H1, I2.tok _, ⟨_, by rw [hn]; rfl⟩, q1⟩
end Pg

namespace Pg
open PySem PySem.Spec PyProof.Rows L2
theorem szle {n : Nat} (h : Nat.ble n 16777216 = true) : n ≤ sizeLine := by
  rw [sizeLine_eq]
  exact Nat.le_of_ble_eq_true h
theorem szle' {n : Nat} (h : n ≤ 16777216) : n ≤ sizeLine := by
  rw [sizeLine_eq]
  exact h
theorem szlt {n : Nat} (h : n < 16777216) : n < sizeLine := by
  rw [sizeLine_eq]
  exact h
def ParE (i j : Nat) (R : L2.St → Hp → Prop) (σ : L2.St) : List V → Hp → Prop := fun vs H1 => ∃ v w, vs = [v, w] ∧ R ((σ.set i (some v)).set j (some w)) H1
theorem perm_sum {ns ms : List Int} (h : ns.Perm ms) : ns.sum = ms.sum := by
  induction h with
  | nil => rfl
  | cons x _ ih => simp [ih]
  | swap x y l => simp; omega
  | trans _ _ h1 h2 => exact h1.trans h2
/-- a wish, wrapped, so that nothing else takes it -/
structure Wr (R : Prop) : Prop where
  r : R
/-- fields of instances -/
def FldP (K : PySem.W.Frag) (f : Str) (y : V) (R : Hp → Prop) : V → Hp → Prop := fun x H2 => ∃ a C dx fs, x = .ref a ∧ H2 a = some (.ins C dx fs) ∧ Cls K C ∧ NoAttr K C f ∧ fs.length < 1000 ∧ R (upd H2 a (.ins C dx (putF f y fs)))
def FldG (K : PySem.W.Frag) (f : Str) (Q : VK) : V → Hp → Prop := fun x H1 => ∃ a C dx fs v, x = .ref a ∧ H1 a = some (.ins C dx fs) ∧ Cls K C ∧ NoAttr K C f ∧ fs.lookup f = some v ∧ Q v H1
def FldQ (C a : Addr) (f : Str) (z : V) (R : Hp → Prop) : Hp → Prop := fun H3 => ∃ dx' fs', H3 a = some (.ins C dx' fs') ∧ fs'.length < 1000 ∧ R (upd H3 a (.ins C dx' (putF f z fs')))
def FldA (K : PySem.W.Frag) (tv : TE) (rd : V → V → Hp → VK → Prop) (f : Str) (R : Hp → Prop) (σ : L2.St) : V → Hp → Prop := fun x H1 => ∃ a C dx fs v, x = .ref a ∧ H1 a = some (.ins C dx fs) ∧ Cls K C ∧ NoAttr K C f ∧ fs.lookup f = some v ∧
  tv σ H1 fun y H2 => rd v y H2 fun z H3 => FldQ C a f z R H3
def MethE (C : Addr) (m : Str) (sp : Sp) (dvs : List V) (E : XK) (t : TA) (σ : L2.St) (Q : VK) : V → Hp → Prop := fun x H1 => ∃ a dx fs, x = .ref a ∧ H1 a = some (.ins C dx fs) ∧ fs.lookup m = none ∧ t σ H1 fun vs H2 => sp (x :: (vs ++ dvs)) H2 Q E
def PropE (C : Addr) (sp : Sp) (dvs : List V) (E : XK) (Q : VK) : V → Hp → Prop := fun x H1 => ∃ a dx fs, x = .ref a ∧ H1 a = some (.ins C dx fs) ∧ sp (.ref a :: dvs) H1 Q E
theorem putF_eq {f : Str} {v x : V} {r : List (Str × V)} : putF f v ((f, x) :: r) = (f, v) :: r := by
  show (if f = f then _ else _) = _
  rw [if_pos rfl]
theorem putF_ne {f g : Str} {v x : V} {r : List (Str × V)} (h : ¬ g = f) : putF f v ((g, x) :: r) = (g, x) :: putF f v r := by
  show (if g = f then _ else _) = _
  rw [if_neg h]
theorem lk_eq {f : Str} {v : V} {r : List (Str × V)} : List.lookup f ((f, v) :: r) = some v := by simp [List.lookup]
theorem lk_ne {f g : Str} {v : V} {r : List (Str × V)} (h : ¬ f = g) : List.lookup f ((g, v) :: r) = List.lookup f r := by
  have e : (f == g) = false := by simpa using h
  simp [List.lookup, e]
/-- a method's receiver is of the type, and the rest -/
def TyAnd (K : PySem.W.Frag) (T : String) (x : V) (H : Hp) (R : Prop) : Prop := tyV K T x H ∧ R
section
variable {K : PySem.W.Frag} {σ : L2.St} {H H' : Hp} {D : Ends} {i : Nat} {x y v : V} {Q : VK} {ta tb te : TE} {c t u : TT} {t1 t2 ts : TS} {r : R2} {g : TG} {tA tr : TA} {R : List V → Hp → Prop} {a p C dx : Addr} {xs : List V} {f : Str} {fs : List (Str × V)} {m n : Int} {B : Bool → Hp → Prop}
/-! statements -/
theorem w_share {R A : Prop} (h1 : Wr R → A) (h2 : R) : A := h1 ⟨h2⟩
theorem w_start {N : List Str} {vs : List V} {σ' : L2.St} (e : L2.start N vs = σ') (h : ts D σ' H) : ts D (L2.start N vs) H := e ▸ h
theorem w_seq (h : t1 { D with nx := t2 D } σ H) : tSeq t1 t2 D σ H := h
theorem w_next (h : D.nx σ H) : tNext D σ H := h
theorem w_asg (h : te σ H fun x H1 => g x σ H1 D.nx) : tAsg te g D σ H := h
theorem w_gname {Q : L2.St → Hp → Prop} (h : Q (σ.set i (some v)) H) : gName i v σ H Q := h
theorem w_ret (h : te σ H D.rt) : tRet te D σ H := h
theorem w_retN (h : D.rt .non H) : tRetN D σ H := h
theorem w_drop (h : te σ H fun _ H1 => D.nx σ H1) : tDrop te D σ H := h
theorem w_ifS (h : c σ H fun b H1 => if b = true then t1 D σ H1 else t2 D σ H1) : tIfS c t1 t2 D σ H := h
theorem w_par {j : Nat} (h : tA σ H (ParE i j (D.nx) σ)) : tPar i j tA D σ H := h
theorem w_parE {j : Nat} {R : L2.St → Hp → Prop} (q : R ((σ.set i (some x)).set j (some y)) H) : ParE i j R σ [x, y] H := ⟨x, y, rfl, q⟩
theorem w_aug {ti : TIp} (e : σ[i]? = some (some x)) (h : te σ H fun y H1 => ti x y H1 fun z H2 => D.nx (σ.set i (some z)) H2) : tAug i te ti D σ H := ⟨x, e, h⟩
theorem w_ipI {f : Int → Int → Int} (h : Q (.int (f m n)) H) : ipI f (.int m) (.int n) H Q := ⟨m, n, rfl, rfl, h⟩
theorem w_fld (h : te σ H fun y H1 => ta σ H1 (FldP K f y (D.nx σ))) : sFld K ta te f D σ H := h
theorem w_fldP {R : Hp → Prop} {fs' : List (Str × V)} (h : H a = some (.ins C dx fs)) (c : Cls K C) (n : NoAttr K C f) (hl : fs.length < 1000) (e : putF f y fs = fs') (q : R (upd H a (.ins C dx fs'))) : FldP K f y R (.ref a) H := ⟨a, C, dx, fs, rfl, h, c, n, hl, by rw [e]; exact q⟩
theorem w_fldaug {rd : V → V → Hp → VK → Prop} (h : ta σ H fun x H1 => FldA K te rd f (D.nx σ) σ x H1) : sFldAug K ta te rd f D σ H := h
theorem w_fldA {rd : V → V → Hp → VK → Prop} {R : Hp → Prop} (h : H a = some (.ins C dx fs)) (c : Cls K C) (n : NoAttr K C f) (e : fs.lookup f = some v) (q : te σ H fun y H2 => rd v y H2 fun z H3 => FldQ C a f z R H3) : FldA K te rd f R σ (.ref a) H := ⟨a, C, dx, fs, v, rfl, h, c, n, e, q⟩
theorem w_fldQ {R : Hp → Prop} {fs' : List (Str × V)} {z : V} (h : H a = some (.ins C dx fs)) (hl : fs.length < 1000) (e : putF f z fs = fs') (q : R (upd H a (.ins C dx fs'))) : FldQ C a f z R H := ⟨dx, fs, h, hl, by rw [e]; exact q⟩
theorem w_rAdd (q : Q (.int (m + n)) H) : L2.rAdd (.int m) (.int n) H Q := ⟨m, n, rfl, rfl, q⟩
theorem w_rSub (q : Q (.int (m - n)) H) : L2.rSub (.int m) (.int n) H Q := ⟨m, n, rfl, rfl, q⟩
/-! expressions -/
theorem w_var (e : σ[i]? = some (some v)) (h : Q v H) : tVar i σ H Q := ⟨v, e, h⟩
theorem w_c (h : Q v H) : tC v σ H Q := h
theorem w_op (h : ta σ H fun x H1 => tb σ H1 fun y H2 => r x y H2 Q) : tOp r ta tb σ H Q := h
theorem w_un {r : V → Hp → VK → Prop} (h : ta σ H fun x H1 => r x H1 Q) : tUn r ta σ H Q := h
theorem w_I0 {g : Int → Int → V} (h : Q (g m n) H) : rI0 g (.int m) (.int n) H Q := ⟨m, n, rfl, rfl, h⟩
theorem w_I {P : Int → Int → Prop} {g : Int → Int → V} (c : P m n) (h : Q (g m n) H) : rI P g (.int m) (.int n) H Q := ⟨m, n, rfl, rfl, c, h⟩
theorem w_powW (c : CPowW m n) (h : Q (.int (m ^ n.toNat)) H) : rI CPowW (fun i j => .int (i ^ j.toNat)) (.int m) (.int n) H Q := ⟨m, n, rfl, rfl, c, h⟩
theorem w_U {g : Int → V} (h : Q (g m) H) : rU g (.int m) H Q := ⟨m, rfl, h⟩
theorem w_eq (c : scal x y = true) (h : Q (.bl (decide (x = y))) H) : rEq x y H Q := ⟨c, h⟩
theorem w_eqI (h : Q (.bl (decide (m = n))) H) : rEq (.int m) (.int n) H Q := ⟨rfl, by
  have e : decide (V.int m = V.int n) = decide (m = n) := by
    by_cases z : m = n
    · subst z
      rw [decide_eq_true rfl, decide_eq_true rfl]
    · rw [decide_eq_false z, decide_eq_false fun q => z (V.int.inj q)]
  rw [e]
  exact h⟩
theorem w_neI (h : Q (.bl (!decide (m = n))) H) : rNe (.int m) (.int n) H Q := ⟨rfl, by
  have e : decide (V.int m = V.int n) = decide (m = n) := by
    by_cases z : m = n
    · subst z
      rw [decide_eq_true rfl, decide_eq_true rfl]
    · rw [decide_eq_false z, decide_eq_false fun q => z (V.int.inj q)]
  rw [e]
  exact h⟩
theorem w_ne (c : scal x y = true) (h : Q (.bl (!decide (x = y))) H) : rNe x y H Q := ⟨c, h⟩
theorem w_ixL (h : SqL K H p xs) (ha : atI xs m = some v) (q : Q v H) : rIxL K (.ref p) (.int m) H Q := ⟨p, xs, m, v, rfl, rfl, h, ha, q⟩
theorem w_ixT (h : SqT K H p xs) (ha : atI xs m = some v) (q : Q v H) : rIxT K (.ref p) (.int m) H Q := ⟨p, xs, m, v, rfl, rfl, h, ha, q⟩
theorem w_sub {to ti : TE} {tq : TSet} {Q : L2.St → Hp → Prop} (h : to σ H fun o H1 => ti σ H1 fun i H2 => tq o i v H2 fun H3 => Q σ H3) : gSub to ti tq v σ H Q := h
theorem w_setL {j : Nat} {Q : Hp → Prop} (h : H p = some (.lst xs)) (e : ixN xs.length m = some j) (q : Q (upd H p (.lst (xs.set j v)))) : rSetL (.ref p) (.int m) v H Q := ⟨p, xs, m, j, rfl, rfl, h, e, q⟩
theorem w_nil (h : R [] H) : tNil σ H R := h
theorem w_cons (h : te σ H fun x H1 => tr σ H1 fun xs H2 => R (x :: xs) H2) : tCons te tr σ H R := h
theorem w_call {sp : Sp} {dvs : List V} {E : XK} (h : tA σ H fun vs H1 => sp (vs ++ dvs) H1 Q E) : tCall sp dvs E tA σ H Q := h
theorem w_CB {r : List V → Hp → VK → Prop} (h : tA σ H fun vs H1 => r vs H1 Q) : tCB r tA σ H Q := h
theorem w_lst (h : tA σ H fun xs H1 => xs.length ≤ sizeLine ∧ ∀ p, H1 p = none → Q (.ref p) (upd H1 p (.lst xs))) : tLst tA σ H Q := h
theorem w_tup (h : tA σ H fun xs H1 => xs.length ≤ sizeLine ∧ ∀ p, H1 p = none → Q (.ref p) (upd H1 p (.tup xs))) : tTup tA σ H Q := h
theorem w_tfld (h : ta σ H (FldG K f Q)) : tFld K ta f σ H Q := h
theorem w_fldG (h : H a = some (.ins C dx fs)) (c : Cls K C) (n : NoAttr K C f) (e : fs.lookup f = some v) (q : Q v H) : FldG K f Q (.ref a) H := ⟨a, C, dx, fs, v, rfl, h, c, n, e, q⟩
theorem w_meth {sp : Sp} {dvs : List V} {E : XK} (h : ta σ H (MethE C f sp dvs E tA σ Q)) : tMeth C f sp dvs E ta tA σ H Q := h
theorem w_methE {sp : Sp} {dvs : List V} {E : XK} (h : H a = some (.ins C dx fs)) (e : fs.lookup f = none) (q : tA σ H fun vs H2 => sp (.ref a :: (vs ++ dvs)) H2 Q E) : MethE C f sp dvs E tA σ Q (.ref a) H := ⟨a, dx, fs, rfl, h, e, q⟩
theorem w_prop {sp : Sp} {dvs : List V} {E : XK} (h : ta σ H (PropE C sp dvs E Q)) : tProp C sp dvs E ta σ H Q := h
theorem w_propE {sp : Sp} {dvs : List V} {E : XK} (h : H a = some (.ins C dx fs)) (q : sp (.ref a :: dvs) H Q E) : PropE C sp dvs E Q (.ref a) H := ⟨a, dx, fs, rfl, h, q⟩
theorem w_make {sp : Sp} {dvs : List V} {E : XK} (h : tA σ H fun vs H1 => ∀ x dx, H1 x = none → H1 dx = none → dx ≠ x → sp (.ref x :: (vs ++ dvs)) (upd (upd H1 dx (.own x)) x (.ins C dx [])) (fun v H2 => v = .non ∧ Q (.ref x) H2) E) : tMake C sp dvs E tA σ H Q := h
theorem w_if (h : c σ H fun b H1 => if b = true then ta σ H1 Q else tb σ H1 Q) : tIf c ta tb σ H Q := h
theorem w_bm {T : String} {r : V → List V → Hp → VK → Prop} (h : ta σ H fun x H1 => TyAnd K T x H1 (tA σ H1 fun xs H2 => r x xs H2 Q)) : tBM K T r ta tA σ H Q := h
theorem w_bm0 {T : String} {r : V → List V → Hp → VK → Prop} (h : ta σ H fun x H1 => TyAnd K T x H1 (r x [] H1 Q)) : tBM0 K T r ta σ H Q := h
theorem w_chain {r r' : R2} {tc : TE} (h : ta σ H fun x H1 => tb σ H1 fun y H2 => r x y H2 fun z H3 => ∃ k, z = .bl k ∧ (if k = true then tc σ H3 fun w' H4 => r' y w' H4 Q else Q (.bl false) H3)) : tChain r r' ta tb tc σ H Q := h
/-! tests -/
theorem w_test (h : te σ H fun x H' => ∃ k, x = .bl k ∧ B k H') : tTest te σ H B := h
theorem w_tB (h : te σ H fun x H' => ∃ k, x = .bl k ∧ B k H') : tB te σ H B := h
theorem w_exbl {b : Bool} {P : Bool → Prop} (h : P b) : ∃ k, V.bl b = V.bl k ∧ P k := ⟨b, rfl, h⟩
theorem w_not (h : t σ H fun b H' => B (!b) H') : tNot t σ H B := h
theorem w_and (h : t σ H fun b H1 => if b = true then u σ H1 B else B false H1) : tAnd t u σ H B := h
theorem w_or (h : t σ H fun b H1 => if b = true then B true H1 else u σ H1 B) : tOr t u σ H B := h
theorem w_ite {c A B : Prop} [Decidable c] (h1 : c → A) (h2 : ¬ c → B) : if decide c = true then A else B := by
  by_cases h : c
  · rw [if_pos (decide_eq_true h)]
    exact h1 h
  · rw [if_neg (by rw [decide_eq_false h]; decide)]
    exact h2 h
theorem w_iteN {c A B : Prop} [Decidable c] (h1 : ¬ c → A) (h2 : c → B) : if (!decide c) = true then A else B := by
  by_cases h : c
  · rw [if_neg (by rw [decide_eq_true h]; decide)]
    exact h2 h
  · rw [if_pos (by rw [decide_eq_false h]; rfl)]
    exact h1 h
theorem w_iteT {A B : Prop} (h : A) : if true = true then A else B := by rw [if_pos rfl]; exact h
theorem w_iteF {A B : Prop} (h : B) : if false = true then A else B := by rw [if_neg Bool.false_ne_true]; exact h
theorem w_iteNT {A B : Prop} (h : B) : if (!true) = true then A else B := by rw [if_neg (by decide)]; exact h
theorem w_iteNF {A B : Prop} (h : A) : if (!false) = true then A else B := by rw [if_pos (by decide)]; exact h
theorem w_iteP {c A B : Prop} [Decidable c] (hc : c) (h : A) : if decide c = true then A else B := w_ite (fun _ => h) fun n => absurd hc n
theorem w_iteQ {c A B : Prop} [Decidable c] (hc : ¬ c) (h : B) : if decide c = true then A else B := w_ite (fun n => absurd n hc) fun _ => h
theorem w_iteNP {c A B : Prop} [Decidable c] (hc : c) (h : B) : if (!decide c) = true then A else B := w_iteN (fun n => absurd hc n) fun _ => h
theorem w_iteNQ {c A B : Prop} [Decidable c] (hc : ¬ c) (h : A) : if (!decide c) = true then A else B := w_iteN (fun _ => h) fun n => absurd n hc
theorem w_iteB {b : Bool} {A B : Prop} (h1 : b = true → A) (h2 : b = false → B) : if b = true then A else B := by
  cases b with
  | true => exact w_iteT (h1 rfl)
  | false => exact w_iteF (h2 rfl)
end

/-! ### reads of lists -/
theorem atI_lt {α : Type} {xs : List α} {r : Int} (h0 : 0 ≤ r) (h1 : r < xs.length) : ∃ v, v ∈ xs ∧ atI xs r = some v ∧ xs[r.toNat]? = some v := by
  have hl : r.toNat < xs.length := by omega
  have e : xs[r.toNat]? = some xs[r.toNat] := List.getElem?_eq_getElem hl
  refine ⟨xs[r.toNat], List.getElem_mem hl, ?_, e⟩
  have q := atI_nat e
  have z : ((r.toNat : Nat) : Int) = r := Int.toNat_of_nonneg h0
  rw [z] at q
  exact q
theorem atI_ints {ns : List Int} {r : Int} (h0 : 0 ≤ r) (h1 : r < ns.length) : ∃ n, n ∈ ns ∧ atI (ns.map V.int) r = some (.int n) ∧ ns[r.toNat]? = some n := by
  obtain ⟨v, hv, e, e2⟩ := atI_lt (xs := ns.map V.int) h0 (by rw [List.length_map]; exact h1)
  rw [List.getElem?_map] at e2
  cases q : ns[r.toNat]? with
  | none =>
    rw [q] at e2
    cases e2
  | some n =>
    rw [q] at e2
    cases e2
    exact ⟨n, List.mem_of_getElem? q, e, rfl⟩
theorem map_at {ns : List Int} {i : Nat} {x : V} (h : (ns.map V.int)[i]? = some x) : ∃ n, ns[i]? = some n ∧ x = .int n := by
  rw [List.getElem?_map] at h
  cases e : ns[i]? with
  | none =>
    rw [e] at h
    cases h
  | some n =>
    rw [e] at h
    exact ⟨n, rfl, (Option.some.inj h).symm⟩
theorem map_at' {α : Type} {f : α → V} {ns : List α} {i : Nat} {x : V} (h : (ns.map f)[i]? = some x) : ∃ n, ns[i]? = some n ∧ x = f n := by
  rw [List.getElem?_map] at h
  cases e : ns[i]? with
  | none =>
    rw [e] at h
    cases h
  | some n =>
    rw [e] at h
    exact ⟨n, rfl, (Option.some.inj h).symm⟩
theorem map_snoc (f : Int → V) (ns : List Int) (n : Int) : ns.map f ++ [f n] = (ns ++ [n]).map f := by simp

/-- the ints of written items -/
def unV : List V → List Int
  | [] => []
  | .int i :: r => i :: unV r
  | _ :: r => unV r
section
variable {K : PySem.W.Frag} {H : Hp} {p : Addr} {xs : List V} {m : Int} {Q : VK} {ns : List Int}
theorem w_ixLi (h : SqL K H p xs) (e : xs = (unV xs).map V.int) (h0 : 0 ≤ m) (h1 : m < (unV xs).length) (q : ∀ n, n ∈ unV xs → Q (.int n) H) : rIxL K (.ref p) (.int m) H Q := by
  obtain ⟨n, hn, e2, _⟩ := atI_ints h0 h1
  rw [← e] at e2
  exact w_ixL h e2 (q n hn)
theorem w_ixTi (h : SqT K H p xs) (e : xs = (unV xs).map V.int) (h0 : 0 ≤ m) (h1 : m < (unV xs).length) (q : ∀ n, n ∈ unV xs → Q (.int n) H) : rIxT K (.ref p) (.int m) H Q := by
  obtain ⟨n, hn, e2, _⟩ := atI_ints h0 h1
  rw [← e] at e2
  exact w_ixT h e2 (q n hn)
theorem w_ixLm (h : SqL K H p (ns.map V.int)) (h0 : 0 ≤ m) (h1 : m < ns.length) (q : ∀ n, ns[m.toNat]? = some n → Q (.int n) H) : rIxL K (.ref p) (.int m) H Q := by
  obtain ⟨n, hn, e2, e3⟩ := atI_ints h0 h1
  exact w_ixL h e2 (q n e3)
theorem w_ixLast (h : SqL K H p (ns.map V.int)) (hne : ns ≠ []) (q : ∀ init x, ns = init ++ [x] → Q (.int x) H) : rIxL K (.ref p) (.int (-1)) H Q := by
  obtain ⟨init, x, e⟩ : ∃ init x, ns = init ++ [x] := by
    exact ⟨ns.dropLast, ns.getLast hne, (List.dropLast_concat_getLast hne).symm⟩
  subst e
  refine w_ixL h ?_ (q _ _ rfl)
  rw [List.map_append]
  exact atI_last _ _
theorem w_len {r : List V} (h : SqL K H p r) (q : Q (.int r.length) H) : rLen K [.ref p] H Q := ⟨_, _, rfl, .inl ⟨r, h, rfl⟩, q⟩
theorem w_lenI (h : SqL K H p (ns.map V.int)) (q : Q (.int ns.length) H) : rLen K [.ref p] H Q := w_len h (by rw [List.length_map]; exact q)
theorem w_append {y : V} (h : H p = some (.lst xs)) (hz : xs.length < sizeLine) (q : Q .non (upd H p (.lst (xs ++ [y])))) : rAppend (.ref p) [y] H Q := ⟨p, xs, y, rfl, rfl, h, hz, q⟩
theorem w_appendI {y : Int} (h : H p = some (.lst (ns.map V.int))) (hz : ns.length < 16777216) (q : Q .non (upd H p (.lst ((ns ++ [y]).map V.int)))) : rAppend (.ref p) [.int y] H Q :=
  ⟨p, _, _, rfl, rfl, h, szlt (by rw [List.length_map]; exact hz), by rw [map_snoc]; exact q⟩
theorem w_tyL {R : Prop} (h : H p = some (.lst xs)) (q : R) : TyAnd K "list" (.ref p) H R := ⟨.inl ⟨rfl, _, SqL.of h⟩, q⟩
theorem w_max2 {i j : Int} (q : Q (.int (if j > i then j else i)) H) : rMax2 [.int i, .int j] H Q := ⟨i, j, rfl, q⟩
theorem w_min2 {i j : Int} (q : Q (.int (if j < i then j else i)) H) : rMin2 [.int i, .int j] H Q := ⟨i, j, rfl, q⟩
theorem w_abs {i : Int} (q : Q (.int (if i < 0 then -i else i)) H) : rAbs [.int i] H Q := ⟨i, rfl, q⟩
theorem w_sum (h : SqL K H p (ns.map V.int)) (q : Q (.int ns.sum) H) : rSum K [.ref p] H Q := ⟨p, ns, rfl, h, q⟩
theorem w_maxL (h : SqL K H p (ns.map V.int)) (h0 : 0 < ns.length) (q : ∀ m, m ∈ ns → (∀ y, y ∈ ns → y ≤ m) → Q (.int m) H) : rMax K [.ref p] H Q := ⟨p, ns, rfl, h, h0, q⟩
theorem w_minL (h : SqL K H p (ns.map V.int)) (h0 : 0 < ns.length) (q : ∀ m, m ∈ ns → (∀ y, y ∈ ns → m ≤ y) → Q (.int m) H) : rMin K [.ref p] H Q := ⟨p, ns, rfl, h, h0, q⟩
theorem w_catI {q : Addr} {ms : List Int} (h1 : H p = some (.lst (ns.map V.int))) (h2 : H q = some (.lst (ms.map V.int))) (hz : ns.length + ms.length ≤ 16777216) (k : ∀ r, H r = none → Q (.ref r) (upd H r (.lst ((ns ++ ms).map V.int)))) : rCat (.ref p) (.ref q) H Q :=
  ⟨p, q, _, _, rfl, rfl, h1, h2, szle' (by rw [List.length_map, List.length_map]; exact hz), fun r hr => by rw [← List.map_append]; exact k r hr⟩
theorem w_ixAny (h : SqL K H p xs) (h0 : 0 ≤ m) (h1 : m < xs.length) (q : ∀ v, v ∈ xs → Q v H) : rIxL K (.ref p) (.int m) H Q := by
  obtain ⟨v, hv, e, _⟩ := atI_lt h0 h1
  exact w_ixL h e (q v hv)
theorem w_catIL {q : Addr} {ys : List V} (h1 : H p = some (.lst (ns.map V.int))) (h2 : H q = some (.lst ys)) (e : ys = (unV ys).map V.int) (hz : ns.length + (unV ys).length ≤ 16777216) (k : ∀ r, H r = none → Q (.ref r) (upd H r (.lst ((ns ++ unV ys).map V.int)))) : rCat (.ref p) (.ref q) H Q :=
  w_catI h1 (by rw [← e]; exact h2) hz k
theorem w_catLI {q : Addr} {ys : List V} (h1 : H p = some (.lst ys)) (h2 : H q = some (.lst (ns.map V.int))) (e : ys = (unV ys).map V.int) (hz : (unV ys).length + ns.length ≤ 16777216) (k : ∀ r, H r = none → Q (.ref r) (upd H r (.lst ((unV ys ++ ns).map V.int)))) : rCat (.ref p) (.ref q) H Q :=
  w_catI (by rw [← e]; exact h1) h2 hz k
theorem w_repI {k : Int} (h : H p = some (.lst (ns.map V.int))) (k1 : -(2 ^ 63) ≤ k) (k2 : k < 2 ^ 63) (hz : ns.length * k.toNat ≤ 16777216) (q : ∀ r, H r = none → Q (.ref r) (upd H r (.lst ((List.replicate k.toNat (ns.map V.int)).flatten)))) : rRep (.ref p) (.int k) H Q :=
  ⟨p, k, _, rfl, rfl, h, k1, k2, szle' (by rw [List.length_map]; exact hz), fun r hr => q r hr⟩
theorem w_intI {i : Int} (q : Q (.int i) H) : rInt1 [.int i] H Q := .inl ⟨i, rfl, q⟩
theorem w_intB {k : Bool} (q : Q (.int (if k then 1 else 0)) H) : rInt1 [.bl k] H Q := .inr ⟨k, rfl, q⟩
theorem w_strI {i : Int} (h : i.natAbs.log2 < 1920) (q : Q (.str (toString i)) H) : rStrI [.int i] H Q := ⟨i, rfl, h, q⟩
theorem w_listof (h : SqL K H p xs) (q : ∀ l, H l = none → Q (.ref l) (upd H l (.lst xs))) : rListOf K [.ref p] H Q := ⟨p, xs, rfl, .inl h, q⟩
end

theorem mem_snoc {α : Type} {P : α → Prop} {xs : List α} {y : α} (h : ∀ x ∈ xs, P x) (hy : P y) : ∀ x ∈ xs ++ [y], P x := fun x hx => by
  rcases List.mem_append.mp hx with z | z
  · exact h x z
  · rw [List.mem_singleton.mp z]
    exact hy
theorem len_snoc {α : Type} {xs : List α} {y : α} {i : Nat} (h : xs.length = i) : (xs ++ [y]).length = i + 1 := by simp [h]

/-! ### data -/
section
variable {K : PySem.W.Frag} {H : Hp}
theorem dpAll_ints : ∀ ns : List Int, DpAll K H (ns.map V.int) (ns.map PyData.int)
  | [] => .nil
  | n :: ns => .cons (.int n) (dpAll_ints ns)
theorem canLay_ints : ∀ ns : List Int, PyData.canLayAll0 (ns.map PyData.int) = true
  | [] => rfl
  | n :: ns => by
    have ih := canLay_ints ns
    simp only [List.map_cons, PyData.canLayAll0, PyData.canLay0, ih, Bool.and_self]
theorem depth_ints : ∀ ns : List Int, PyData.depthAll (ns.map PyData.int) ≤ 1
  | [] => by simp [PyData.depthAll]
  | n :: ns => by
    have ih := depth_ints ns
    simp only [List.map_cons, PyData.depthAll, PyData.depth]
    omega
theorem shaped_ints (ns : List Int) : SeqAt.shaped (.list (ns.map PyData.int)) = true := by
  unfold SeqAt.shaped
  have h1 : PyData.canLay0 (.list (ns.map PyData.int)) = true := by simp only [PyData.canLay0]; exact canLay_ints ns
  have h2 : PyData.depth (.list (ns.map PyData.int)) ≤ 64 := by
    have := depth_ints ns
    simp only [PyData.depth]
    omega
  rw [h1, decide_eq_true h2]
  rfl
theorem eqvAll_ints : ∀ ns ms : List Int, PyData.eqvAll (ns.map PyData.int) (ms.map PyData.int) = decide (ns = ms)
  | [], [] => by simp [PyData.eqvAll]
  | [], m :: ms => by simp [PyData.eqvAll]
  | n :: ns, [] => by simp [PyData.eqvAll]
  | n :: ns, m :: ms => by
    simp only [List.map_cons, PyData.eqvAll, PyData.eqv, eqvAll_ints ns ms]
    by_cases h : n = m
    · subst h
      by_cases h2 : ns = ms <;> simp [h2]
    · simp [h]
theorem eqv_ints (ns ms : List Int) : PyData.eqv (.list (ns.map PyData.int)) (.list (ms.map PyData.int)) = decide (ns = ms) := by
  simp only [PyData.eqv]
  exact eqvAll_ints ns ms
theorem dp_ints {p : Addr} {ns : List Int} (h : SqL K H p (ns.map V.int)) : Dp K H (.ref p) (.list (ns.map PyData.int)) := .lst h (dpAll_ints ns)
variable {p q : Addr} {ns ms : List Int} {Q : VK}
theorem w_eqLI (h1 : SqL K H p (ns.map V.int)) (h2 : SqL K H q (ms.map V.int)) (k : Q (.bl (decide (ns = ms))) H) : rEqD K (.ref p) (.ref q) H Q :=
  ⟨_, _, dp_ints h1, dp_ints h2, shaped_ints _, shaped_ints _, by rw [eqv_ints]; exact k⟩
theorem w_neLI (h1 : SqL K H p (ns.map V.int)) (h2 : SqL K H q (ms.map V.int)) (k : Q (.bl (!decide (ns = ms))) H) : rNeD K (.ref p) (.ref q) H Q :=
  ⟨_, _, dp_ints h1, dp_ints h2, shaped_ints _, shaped_ints _, by rw [eqv_ints]; exact k⟩
theorem w_eqNil (h1 : SqL K H p (ns.map V.int)) (h2 : SqL K H q []) (k : Q (.bl (decide (ns = []))) H) : rEqD K (.ref p) (.ref q) H Q := w_eqLI (ms := []) h1 h2 k
theorem w_neNil (h1 : SqL K H p (ns.map V.int)) (h2 : SqL K H q []) (k : Q (.bl (!decide (ns = []))) H) : rNeD K (.ref p) (.ref q) H Q := w_neLI (ms := []) h1 h2 k
end

/-! ### loops -/
def ForB (g : TG) (tb : TS) (D : Ends) (σ : L2.St) : It → Hp → Prop := fun J H1 => ∃ W : Nat → Nat → L2.St → Hp → Prop, (∃ m, W 0 m σ H1) ∧ ∀ i m σ H, W i m σ H →
  (J.stop i H ∧ D.nx σ H) ∨ (J.go i H ∧ ∃ N : L2.St → Hp → Prop, (∀ σ' H', N σ' H' → ∃ m', m' < m ∧ W (i + 1) m' σ' H') ∧ ∀ x H', J.yld i H x H' → g x σ H' fun σ2 H2 => tb { D with nx := N, ct := N, bk := D.nx } σ2 H2)
/-- y is appended to the new list at L, then N -/
def AppE (L : Addr) (N : Hp → Prop) : V → Hp → Prop := fun y H4 => ∃ acc, H4 L = some (.lst acc) ∧ acc.length < sizeLine ∧ N (upd H4 L (.lst (acc ++ [y])))
def LcB (g : TG) (tt : TT) (te : TE) (vs : List Nat) (σ : L2.St) (Q : VK) : It → Hp → Prop := fun J H1 => ∀ D, H1 D = none → ∃ W : Nat → Nat → Hp → Prop, (∃ m, W 0 m (upd H1 D (.lst []))) ∧ ∀ i m H, W i m H →
  (J.stop i H ∧ Q (.ref D) H) ∨ (J.go i H ∧ ∃ Nx : Hp → Prop, (∀ H', Nx H' → ∃ m', m' < m ∧ W (i + 1) m' H') ∧ ∀ x H', J.yld i H x H' → g x (wipe σ vs) H' fun σ2 H2 => wipe σ2 vs = wipe σ vs ∧ tt σ2 H2 fun b H3 =>
    if b = true then te σ2 H3 (AppE D Nx) else Nx H3)
section
variable {K : PySem.W.Frag} {σ : L2.St} {H : Hp} {D : Ends} {wi : TI} {g : TG} {tb : TS} {tt : TT} {te tl : TE} {ta : TA} {vs : List Nat} {Q : VK} {R : It → Hp → Prop} {a : Addr} {xs : List V} {lo j : Int} {n : Nat}
theorem w_for (h : wi σ H (ForB g tb D σ)) : tFor wi g tb D σ H := h
theorem w_lc (h : wi σ H (LcB g tt te vs σ Q)) : tLc wi g tt te vs σ H Q := h
def LstE (K : PySem.W.Frag) (R : It → Hp → Prop) : V → Hp → Prop := fun x H1 => ∃ a, x = .ref a ∧ (∃ xs, SqL K H1 a xs) ∧ R (Itl K a) H1
def Rng1E (R : It → Hp → Prop) : List V → Hp → Prop := fun vs H1 => ∃ j : Int, vs = [.int j] ∧ -(2 ^ 62) ≤ j ∧ j < 2 ^ 62 ∧ R (Itr 0 j.toNat) H1
def Rng2E (R : It → Hp → Prop) : List V → Hp → Prop := fun vs H1 => ∃ i j : Int, vs = [.int i, .int j] ∧ (-(2 ^ 62) ≤ i ∧ i < 2 ^ 62 ∧ -(2 ^ 62) ≤ j ∧ j < 2 ^ 62) ∧ R (Itr i (j - i).toNat) H1
theorem w_iList (h : tl σ H (LstE K R)) : iList K tl σ H R := h
theorem w_iListE (h : SqL K H a xs) (q : R (Itl K a) H) : LstE K R (.ref a) H := ⟨a, rfl, ⟨xs, h⟩, q⟩
theorem w_rng1 (h : ta σ H (Rng1E R)) : iRng1 ta σ H R := h
theorem w_rng1E (h1 : -(2 ^ 62) ≤ j) (h2 : j < 2 ^ 62) (q : R (Itr 0 j.toNat) H) : Rng1E R [.int j] H := ⟨j, rfl, h1, h2, q⟩
theorem w_rng2 (h : ta σ H (Rng2E R)) : iRng2 ta σ H R := h
theorem w_rng2E (h1 : -(2 ^ 62) ≤ lo ∧ lo < 2 ^ 62 ∧ -(2 ^ 62) ≤ j ∧ j < 2 ^ 62) (q : R (Itr lo (j - lo).toNat) H) : Rng2E R [.int lo, .int j] H := ⟨lo, j, rfl, h1, q⟩
theorem f_range (Pv : Nat → L2.St → Hp → Prop) (h0 : Pv 0 σ H) (hs : ∀ i σ H, i < n → Pv i σ H → g (.int (lo + i)) σ H fun σ2 H2 => tb { D with nx := Pv (i + 1), ct := Pv (i + 1), bk := D.nx } σ2 H2) (hd : ∀ σ H, Pv n σ H → D.nx σ H) :
    ForB g tb D σ (Itr lo n) H := for_range Pv h0 hs hd
theorem f_list (xs : List V) (Pv : Nat → L2.St → Hp → Prop) (h0 : Pv 0 σ H) (hl : ∀ i σ H, i ≤ xs.length → Pv i σ H → SqL K H a xs) (hs : ∀ i x σ H, xs[i]? = some x → Pv i σ H → g x σ H fun σ2 H2 => tb { D with nx := Pv (i + 1), ct := Pv (i + 1), bk := D.nx } σ2 H2) (hd : ∀ σ H, Pv xs.length σ H → D.nx σ H) :
    ForB g tb D σ (Itl K a) H := for_list Pv h0 hl hs hd
theorem f_tup (xs : List V) (Pv : Nat → L2.St → Hp → Prop) (h0 : Pv 0 σ H) (hl : ∀ i σ H, i ≤ xs.length → Pv i σ H → SqT K H a xs) (hs : ∀ i x σ H, xs[i]? = some x → Pv i σ H → g x σ H fun σ2 H2 => tb { D with nx := Pv (i + 1), ct := Pv (i + 1), bk := D.nx } σ2 H2) (hd : ∀ σ H, Pv xs.length σ H → D.nx σ H) :
    ForB g tb D σ (Itt K a) H := for_tup Pv h0 hl hs hd
/-- enumerate: each turn a new pair -/
theorem f_enum (xs : List V) (Pv : Nat → L2.St → Hp → Prop) (h0 : Pv 0 σ H) (hl : ∀ i σ H, i ≤ xs.length → Pv i σ H → SqL K H a xs)
    (hs : ∀ (i : Nat) (x : V) (T : Addr) (σ : L2.St) (H : Hp), xs[i]? = some x → Pv i σ H → H T = none → g (.ref T) σ (upd H T (.tup [.int (i : Nat), x])) fun σ2 H2 => tb { D with nx := Pv (i + 1), ct := Pv (i + 1), bk := D.nx } σ2 H2) (hd : ∀ σ H, Pv xs.length σ H → D.nx σ H) :
    ForB g tb D σ (Ite K a) H := by
  refine ⟨fun i m σ H => m = xs.length - i ∧ i ≤ xs.length ∧ Pv i σ H, ⟨xs.length, by simp, Nat.zero_le _, h0⟩, ?_⟩
  rintro i m σ H ⟨rfl, hi, p⟩
  have q := hl i σ H hi p
  by_cases hlt : i < xs.length
  · refine .inr ⟨⟨xs, xs[i], q, by simp [hlt]⟩, Pv (i + 1), fun σ' H' p' => ⟨xs.length - (i + 1), by omega, rfl, hlt, p'⟩, fun x H' y => ?_⟩
    obtain ⟨T, x', rfl, hT, rfl, f1⟩ := y
    exact hs i x' T σ H (f1 xs q) p hT
  · have e : i = xs.length := by omega
    subst e
    exact .inl ⟨⟨xs, q, Nat.le_refl _⟩, hd σ H p⟩
theorem f_zip {b : Addr} (xs ys : List V) (hl : xs.length = ys.length) (Pv : Nat → L2.St → Hp → Prop) (h0 : Pv 0 σ H) (hq : ∀ i σ H, Pv i σ H → SqL K H a xs ∧ SqL K H b ys)
    (hs : ∀ (i : Nat) (x y : V) (T : Addr) (σ : L2.St) (H : Hp), xs[i]? = some x → ys[i]? = some y → Pv i σ H → H T = none → g (.ref T) σ (upd H T (.tup [x, y])) fun σ2 H2 => tb { D with nx := Pv (i + 1), ct := Pv (i + 1), bk := D.nx } σ2 H2) (hd : ∀ σ H, Pv xs.length σ H → D.nx σ H) :
    ForB g tb D σ (Itz K a b) H := by
  refine ⟨fun i m σ H => m = xs.length - i ∧ i ≤ xs.length ∧ Pv i σ H, ⟨xs.length, rfl, Nat.zero_le _, h0⟩, ?_⟩
  rintro i m σ H ⟨rfl, hi, p⟩
  obtain ⟨qx, qy⟩ := hq i σ H p
  by_cases hlt : i < xs.length
  · have hx : xs[i]? = some xs[i] := List.getElem?_eq_getElem hlt
    have hlt2 : i < ys.length := by omega
    have hy : ys[i]? = some ys[i] := List.getElem?_eq_getElem hlt2
    refine .inr ⟨⟨xs, ys, _, _, qx, qy, hx, hy⟩, Pv (i + 1), fun σ' H' p' => ⟨xs.length - (i + 1), by omega, rfl, hlt, p'⟩, fun v H' y => ?_⟩
    obtain ⟨T, x', y', rfl, hT, rfl, f1, f2⟩ := y
    exact hs i x' y' T σ H (f1 xs qx) (f2 ys qy) p hT
  · have e : i = xs.length := by omega
    subst e
    exact .inl ⟨⟨xs, ys, qx, qy, Or.inl (Nat.le_refl _)⟩, hd σ H p⟩
def EnuE (K : PySem.W.Frag) (R : It → Hp → Prop) : List V → Hp → Prop := fun vs H1 => ∃ a xs, vs = [.ref a] ∧ SqL K H1 a xs ∧ R (Ite K a) H1
theorem w_enum (h : ta σ H (EnuE K R)) : iEnum K ta σ H R := h
theorem w_enumE (h : SqL K H a xs) (q : R (Ite K a) H) : EnuE K R [.ref a] H := ⟨a, xs, rfl, h, q⟩
def ZipE (K : PySem.W.Frag) (R : It → Hp → Prop) : List V → Hp → Prop := fun vs H1 => ∃ a b xs ys, vs = [.ref a, .ref b] ∧ SqL K H1 a xs ∧ SqL K H1 b ys ∧ R (Itz K a b) H1
theorem w_zip (h : ta σ H (ZipE K R)) : iZip K ta σ H R := h
theorem w_zipE {b : Addr} {ys : List V} (h : SqL K H a xs) (h2 : SqL K H b ys) (q : R (Itz K a b) H) : ZipE K R [.ref a, .ref b] H := ⟨a, b, xs, ys, rfl, h, h2, q⟩
theorem w_gTup {k : Nat} {t : TGs} {Q : L2.St → Hp → Prop} (h : SqT K H a xs) (e : xs.length = k) (q : t xs σ H Q) : gTup K k t (.ref a) σ H Q := ⟨a, xs, rfl, h, e, q⟩
theorem w_gLst {k : Nat} {t : TGs} {Q : L2.St → Hp → Prop} (h : SqL K H a xs) (e : xs.length = k) (q : t xs σ H Q) : gLst K k t (.ref a) σ H Q := ⟨a, xs, rfl, h, e, q⟩
theorem w_gNil {Q : L2.St → Hp → Prop} (q : Q σ H) : gNil [] σ H Q := ⟨rfl, q⟩
theorem w_gCons {v : V} {r : List V} {u : TGs} {Q : L2.St → Hp → Prop} (q : g v σ H fun σ' H' => u r σ' H' Q) : gCons g u (v :: r) σ H Q := ⟨v, r, rfl, q⟩
theorem l_range (Pv : Addr → Nat → Hp → Prop) (h0 : ∀ L, H L = none → Pv L 0 (upd H L (.lst []))) (hs : ∀ L i H', H L = none → i < n → Pv L i H' → g (.int (lo + i)) (wipe σ vs) H' fun σ2 H2 => wipe σ2 vs = wipe σ vs ∧ tt σ2 H2 fun b H3 => if b = true then te σ2 H3 (AppE L (Pv L (i + 1))) else Pv L (i + 1) H3)
    (hd : ∀ L H', H L = none → Pv L n H' → Q (.ref L) H') : LcB g tt te vs σ Q (Itr lo n) H := fun L hL => lc_range (Pv L) (h0 L hL) (fun i H' => hs L i H' hL) (fun H' => hd L H' hL)
theorem l_list (xs : List V) (Pv : Addr → Nat → Hp → Prop) (h0 : ∀ L, H L = none → Pv L 0 (upd H L (.lst []))) (hl : ∀ L i H', H L = none → i ≤ xs.length → Pv L i H' → SqL K H' a xs) (hs : ∀ L i x H', H L = none → xs[i]? = some x → Pv L i H' → g x (wipe σ vs) H' fun σ2 H2 => wipe σ2 vs = wipe σ vs ∧ tt σ2 H2 fun b H3 => if b = true then te σ2 H3 (AppE L (Pv L (i + 1))) else Pv L (i + 1) H3)
    (hd : ∀ L H', H L = none → Pv L xs.length H' → Q (.ref L) H') : LcB g tt te vs σ Q (Itl K a) H := fun L hL => lc_list (Pv L) (h0 L hL) (fun i H' => hl L i H' hL) (fun i x H' => hs L i x H' hL) (fun H' => hd L H' hL)
theorem w_tYes {B : Bool → Hp → Prop} (h : B true H) : tYes σ H B := h
theorem w_appE {L : Addr} {N : Hp → Prop} {ys : List V} {y : V} (h : H L = some (.lst ys)) (hz : ys.length < 16777216) (q : N (upd H L (.lst (ys ++ [y])))) : AppE L N y H := ⟨ys, h, szlt hz, q⟩
theorem w_appEI {L : Addr} {N : Hp → Prop} {ys : List Int} {m : Int} (h : H L = some (.lst (ys.map V.int))) (hz : ys.length < 16777216) (q : N (upd H L (.lst ((ys ++ [m]).map V.int)))) : AppE L N (.int m) H := ⟨_, h, by rw [List.length_map]; exact szlt hz, by rw [map_snoc]; exact q⟩
theorem w_appEB {L : Addr} {N : Hp → Prop} {ys : List Bool} {m : Bool} (h : H L = some (.lst (ys.map V.bl))) (hz : ys.length < 16777216) (q : N (upd H L (.lst ((ys ++ [m]).map V.bl)))) : AppE L N (.bl m) H := ⟨_, h, by rw [List.length_map]; exact szlt hz, by rw [show ys.map V.bl ++ [V.bl m] = (ys ++ [m]).map V.bl by simp]; exact q⟩
/-- [f n for n in ints], the element leaving all as it is: target in slot j -/
theorem l_map (ns : List Int) (f : Int → Int) {j : Nat} (hx : SqL K H a (ns.map V.int)) (hj : ∀ v, wipe ((wipe σ vs).set j (some v)) vs = wipe σ vs) (hz : ns.length ≤ 16777216)
    (he : ∀ (i : Nat) (n : Int) (H' : Hp), ns[i]? = some n → Fr [] H H' → ∀ Q : VK, (∀ H2, Fr [] H' H2 → Q (.int (f n)) H2) → te ((wipe σ vs).set j (some (.int n))) H' Q)
    (k : ∀ L H', H L = none → Fr [] H H' → H' L = some (.lst ((ns.map f).map V.int)) → Q (.ref L) H') : LcB (gName j) tYes te vs σ Q (Itl K a) H := by
  refine l_list (ns.map V.int) (fun L i H' => Fr [] H H' ∧ H' L = some (.lst (((ns.take i).map f).map V.int))) (fun L hL => ⟨Fr.refl.new hL, upd_same⟩) (fun L i H' hL _ h => h.1.seqL (by simp) hx) (fun L i x H' hL e h => ?_) (fun L H' hL h => ?_)
  · obtain ⟨n, en, rfl⟩ := map_at e
    obtain ⟨h1, h2⟩ := h
    refine w_gname ⟨hj _, w_tYes (w_iteT ?_)⟩
    refine he i n H' en h1 _ fun H2 f2 => ⟨_, f2.at0 h2, ?_, ((h1.trans f2).put (.inl hL)), ?_⟩
    · rw [List.length_map, List.length_map, List.length_take]
      have q := (List.getElem?_eq_some_iff.mp en).1
      exact szlt (by omega)
    · rw [upd_same]
      have q := List.take_succ (l := ns) (i := i)
      rw [en] at q
      rw [q]
      simp
  · have e : ns.take (ns.map V.int).length = ns := by rw [List.length_map]; exact List.take_length ..
    obtain ⟨h1, h2⟩ := h
    rw [e] at h2
    exact k L H' hL h1 h2
end

/-- calls by keywords -/
def KwE (n : Nat) (ix : List Nat) (sp : Sp) (Q : VK) : List V → Hp → Prop := fun zs H => zs.length = n ∧ sp (pick ix zs) H Q E0
def MkE (C : Addr) (n : Nat) (ix : List Nat) (sp : Sp) (Q : VK) : List V → Hp → Prop := fun zs H2 => ([] : List V).length = 0 ∧ zs.length = n ∧ ∀ x dx, H2 x = none → H2 dx = none → dx ≠ x →
  sp ([.ref x] ++ pick ix zs) (upd (upd H2 dx (.own x)) x (.ins C dx [])) (fun v H3 => v = .non ∧ Q (.ref x) H3) E0
def MkwE (n : Nat) (ix : List Nat) (sp : Sp) (Q : VK) (x : V) : List V → Hp → Prop := fun zs H => zs.length = n ∧ sp (x :: pick ix zs) H Q E0
def MethKE (C : Addr) (m : Str) (n : Nat) (ix : List Nat) (sp : Sp) (tk : TA) (σ : L2.St) (Q : VK) : V → Hp → Prop := fun x H1 => ∃ a dx fs, x = .ref a ∧ H1 a = some (.ins C dx fs) ∧ fs.lookup m = none ∧ tk σ H1 (MkwE n ix sp Q x)
section
variable {σ : L2.St} {H : Hp} {n : Nat} {ix : List Nat} {sp : Sp} {Q : VK} {tk : TA} {ta : TE} {zs : List V} {C a dx : Addr} {m : Str} {fs : List (Str × V)} {x : V}
theorem w_callK0 (h : tk σ H (KwE n ix sp Q)) : tCallK0 n ix sp tk σ H Q := h
theorem w_kwE (e : zs.length = n) (q : sp (pick ix zs) H Q E0) : KwE n ix sp Q zs H := ⟨e, q⟩
theorem w_makeK (h : tk σ H (MkE C n ix sp Q)) : tMakeK C 0 n sp (fun vs zs => vs ++ pick ix zs) E0 tNil tk σ H Q := h
theorem w_mkE (e : zs.length = n) (q : ∀ x dx, H x = none → H dx = none → dx ≠ x → sp ([.ref x] ++ pick ix zs) (upd (upd H dx (.own x)) x (.ins C dx [])) (fun v H3 => v = .non ∧ Q (.ref x) H3) E0) : MkE C n ix sp Q zs H := ⟨rfl, e, q⟩
theorem w_methK (h : ta σ H (MethKE C m n ix sp tk σ Q)) : tMethK0 C m n ix sp ta tk σ H Q := h
theorem w_methKE (h : H a = some (.ins C dx fs)) (e : fs.lookup m = none) (q : tk σ H (MkwE n ix sp Q (.ref a))) : MethKE C m n ix sp tk σ Q (.ref a) H := ⟨a, dx, fs, rfl, h, e, q⟩
theorem w_mkwE (e : zs.length = n) (q : sp (x :: pick ix zs) H Q E0) : MkwE n ix sp Q x zs H := ⟨e, q⟩
end
def LenSE (K : PySem.W.Frag) (Q : VK) : V → Hp → Prop := fun x H1 => ∃ (l : Addr) (ns : List Int), x = .ref l ∧ SqL K H1 l (ns.map V.int) ∧ ns.length ≤ 4000 ∧ Q (.int ((distinct ns).length : Nat)) H1
section
variable {K : PySem.W.Frag} {σ : L2.St} {H : Hp} {ta : TE} {Q : VK} {a : Addr} {ns : List Int} {b : Bool}
theorem w_lenSet (h : ta σ H (LenSE K Q)) : tLenSetJ K ta σ H Q := h
theorem w_lenSE (h : SqL K H a (ns.map V.int)) (hl : ns.length ≤ 4000) (q : Q (.int ((distinct ns).length : Nat)) H) : LenSE K Q (.ref a) H := ⟨a, ns, rfl, h, hl, q⟩
/-- isinstance by built-in classes -/
theorem w_isi {x : V} {n : String} {t : Value} (h : TyX K H x t) (e : PySem.W.kitOne K t (.type n) = some b) (q : Q (.bl b) H) : rIsi K [x, .ty n] H Q := ⟨x, .ty n, t, .type n, b, rfl, .ty n, h, e, q⟩
theorem tyx_lst {xs : List V} (h : H a = some (.lst xs)) : TyX K H (.ref a) (.type "list") := .base (.lst h)
theorem tyx_tup {xs : List V} (h : H a = some (.tup xs)) : TyX K H (.ref a) (.type "tuple") := .base (.tup h)
def SrtKE (K : PySem.W.Frag) (b : Bool) (Q : VK) : List V → List V → Hp → Prop := fun vs zs H => rSortedKw K b [.bl b] vs zs H Q
theorem w_sortKw {t tk : TA} {r : List V → List V → Hp → VK → Prop} (h : t σ H fun vs H1 => tk σ H1 fun zs H2 => r vs zs H2 Q) : tCKw r t tk σ H Q := h
theorem w_sortedKw (h : SqL K H a (ns.map V.int)) (q : ∀ (ns' : List Int) (p : Addr), ns'.Perm ns → OrdB b ns' → H p = none → Q (.ref p) (upd H p (.lst (ns'.map V.int)))) : rSortedKw K b [.bl b] [.ref a] [.bl b] H Q := ⟨a, ns, rfl, rfl, h, q⟩
theorem w_sortedI (h : SqL K H a (ns.map V.int)) (q : ∀ (ns' : List Int) (p : Addr), ns'.Perm ns → ns'.Pairwise (· ≤ ·) → H p = none → Q (.ref p) (upd H p (.lst (ns'.map V.int)))) : rSortedI K [.ref a] H Q := ⟨a, ns, rfl, h, q⟩
theorem w_extendI {q : Addr} {ms : List Int} (h1 : H a = some (.lst (ns.map V.int))) (h2 : H q = some (.lst (ms.map V.int))) (hz : ns.length + ms.length ≤ 16777216) (k : Q .non (upd H a (.lst ((ns ++ ms).map V.int)))) : rExtend (.ref a) [.ref q] H Q :=
  ⟨a, q, _, _, rfl, rfl, h1, h2, szle' (by rw [List.length_map, List.length_map]; exact hz), by rw [← List.map_append]; exact k⟩
/-- [m] * k -/
theorem w_rep1 {k m : Int} (h : H a = some (.lst [.int m])) (k1 : -(2 ^ 63) ≤ k) (k2 : k ≤ 16777216) (q : ∀ r, H r = none → Q (.ref r) (upd H r (.lst ((List.replicate k.toNat m).map V.int)))) : rRep (.ref a) (.int k) H Q := by
  refine ⟨a, k, _, rfl, rfl, h, k1, Int.lt_of_le_of_lt k2 (by decide), szle' (by simp; omega), fun r hr => ?_⟩
  have e : (List.replicate k.toNat [V.int m]).flatten = (List.replicate k.toNat m).map V.int := by
    rw [List.map_replicate]
    generalize k.toNat = j
    induction j with
    | zero => rfl
    | succ j ih => rw [List.replicate_succ, List.flatten_cons, ih, List.replicate_succ]; rfl
  rw [e]
  exact q r hr
end
section
variable {σ : L2.St} {H : Hp} {c : TT} {tb : TS} {D : Ends}
def WhT (W : Nat → L2.St → Hp → Prop) (m : Nat) (tb : TS) (D : Ends) (σ : L2.St) (H1 : Hp) : Prop := ∃ N : L2.St → Hp → Prop, (∀ σ' H', N σ' H' → ∃ m', m' < m ∧ W m' σ' H') ∧ tb { D with nx := N, ct := N, bk := D.nx } σ H1
theorem w_while (W : Nat → L2.St → Hp → Prop) (m0 : Nat) (h0 : W m0 σ H) (hs : ∀ m σ H, W m σ H → c σ H fun b H1 => if b = true then WhT W m tb D σ H1 else D.nx σ H1) : tWhile c tb D σ H := ⟨W, ⟨m0, h0⟩, hs⟩
theorem w_whT {W : Nat → L2.St → Hp → Prop} {m : Nat} (q : tb { D with nx := fun σ' H' => ∃ m', m' < m ∧ W m' σ' H', ct := fun σ' H' => ∃ m', m' < m ∧ W m' σ' H', bk := D.nx } σ H) : WhT W m tb D σ H := ⟨_, fun _ _ h => h, q⟩
end
end Pg

open PySem PySem.Spec PyProof.Rows L2 Pg
/-! ### steps -/
local macro_rules | `(tactic| walk_at "h") => `(tactic| with_reducible first
  | assumption
  | exact upd_same
  | (refine' at_make ?e3 ?n1 ?n2; (case n1 => assumption); (case n2 => assumption); (case e3 => walk_at "h"))
  | (refine' at_upd ?e3 ?n1; (case n1 => assumption); (case e3 => walk_at "h"))
  | (refine' Fr.at0 ?n1 ?e3; (case n1 => assumption); (case e3 => walk_at "h"))
  | (refine' Fr.at ?e1 (nn2 ?e2) ?e3; (case e1 => assumption); (case e2 => walk_at "n"); (case e3 => walk_at "h"))
  | (refine' Eq.trans (upd_ne ?e2) ?e3; (case e2 => walk_at "n"); (case e3 => walk_at "h")))
local macro_rules | `(tactic| walk_at "n") => `(tactic| with_reducible first
  | assumption
  | exact Ne.symm (by assumption)
  | (refine' Ne.symm (ne_of_none ?e1 ?e2); (case e2 => assumption); (case e1 => walk_at "h"))
  | (refine' ne_of_none ?e1 ?e2; (case e2 => assumption); (case e1 => walk_at "h"))
  | (refine' ne_of ?e1 ?e2 ?e3; (case e1 => assumption); (case e2 => walk_at "h"); (case e3 => (first | exact ho_lst_tup | exact ho_lst_own | exact ho_lst_xd | exact ho_lst_dK | exact ho_lst_ins | exact ho_tup_lst | exact ho_tup_own | exact ho_tup_xd | exact ho_tup_dK | exact ho_tup_ins | exact ho_own_lst | exact ho_own_tup | exact ho_own_xd | exact ho_own_dK | exact ho_own_ins | exact ho_xd_lst | exact ho_xd_tup | exact ho_xd_own | exact ho_xd_dK | exact ho_xd_ins | exact ho_dK_lst | exact ho_dK_tup | exact ho_dK_own | exact ho_dK_xd | exact ho_dK_ins | exact ho_ins_lst | exact ho_ins_tup | exact ho_ins_own | exact ho_ins_xd | exact ho_ins_dK))))
local macro_rules | `(tactic| walk_at "f") => `(tactic| with_reducible first
  | assumption
  | exact Fr.refl
  | exact Fr.nil (by assumption)
  | (refine' Fr.make ?e1 ?e2 ?e3; (case e2 => assumption); (case e3 => assumption); (case e1 => walk_at "f"))
  | (refine' Fr.new ?e1 ?e2; (case e2 => assumption); (case e1 => walk_at "f"))
  | (refine' Fr.put ?e1 (Or.inr ?e2); (case e2 => exact List.mem_singleton_self _); (case e1 => walk_at "f"))
  | (refine' Fr.put ?e1 (Or.inl ?e2); (case e2 => walk_at "z"); (case e1 => walk_at "f"))
  | (refine' Fr.trans ?e1 ?e2; (case e2 => assumption); (case e1 => walk_at "f"))
  | (refine' Fr.then ?e1 ?e2; (case e2 => assumption); (case e1 => walk_at "f"))
  | (refine' Fr.loc ?e1 ?e2 ?e3; (case e3 => assumption); (case e2 => walk_at "z"); (case e1 => walk_at "f")))
local macro_rules | `(tactic| walk_at "z") => `(tactic| with_reducible first
  | assumption
  | (refine' Fr.free ?e1 (nn2 ?e2) ?e3; (case e3 => assumption); (case e1 => walk_at "f"); (case e2 => walk_at "n"))
  | (refine' Fr.free (S := []) ?e1 List.not_mem_nil ?e3; (case e3 => assumption); (case e1 => walk_at "f")))
local macro_rules | `(tactic| walk_at "k") => `(tactic| first
  | with_reducible assumption
  | ((with_reducible refine' hx_of ?a1 ?a0); (case a1 => walk_at "h"); (case a0 => with_reducible exact rfl)))
local macro_rules | `(tactic| walk_at "1") => `(tactic| first
  | with_reducible refine w_seq ?_
  | with_reducible refine w_asg ?_
  | with_reducible refine w_gname ?_
  | with_reducible refine w_ret ?_
  | with_reducible refine w_drop ?_
  | with_reducible refine w_ifS ?_
  | with_reducible refine w_c ?_
  | ((with_reducible refine' w_var ?e1 ?_); (case e1 => exact rfl))
  | with_reducible refine w_op ?_
  | with_reducible refine w_I0 ?_
  | with_reducible refine w_eqI ?_
  | with_reducible refine w_neI ?_
  | with_reducible refine w_nil ?_
  | with_reducible refine w_cons ?_
  | with_reducible refine w_call ?_
  | with_reducible refine w_CB ?_
  | with_reducible refine w_test ?_
  | with_reducible refine w_tB ?_
  | with_reducible refine w_exbl ?_
  | with_reducible refine w_not ?_
  | with_reducible refine w_and ?_
  | with_reducible refine w_or ?_
  | with_reducible refine w_if ?_
  | with_reducible refine w_next ?_
  | with_reducible refine w_retN ?_
  | with_reducible refine w_iteF ?_
  | with_reducible refine w_iteT ?_
  | with_reducible refine w_iteNT ?_
  | with_reducible refine w_iteNF ?_
  | ((with_reducible refine w_iteP ?e1 ?_); (case e1 => with_reducible first | exact rfl | assumption))
  | ((with_reducible refine w_iteNP ?e1 ?_); (case e1 => with_reducible first | exact rfl | assumption))
  | ((with_reducible refine w_iteQ ?e1 ?_); (case e1 => with_reducible assumption))
  | ((with_reducible refine w_iteNQ ?e1 ?_); (case e1 => with_reducible assumption))
  | with_reducible refine w_lst ?_
  | with_reducible refine w_tup ?_
  | with_reducible refine w_bm ?_
  | with_reducible refine w_bm0 ?_
  | with_reducible refine w_chain ?_
  | with_reducible refine w_sub ?_
  | with_reducible refine w_un ?_
  | with_reducible refine w_U ?_
  | with_reducible refine w_par ?_
  | with_reducible refine w_parE ?_
  | ((with_reducible refine' w_aug ?e1 ?_); (case e1 => exact rfl))
  | with_reducible refine w_ipI ?_
  | with_reducible refine w_fld ?_
  | with_reducible refine w_tfld ?_
  | ((with_reducible refine' w_powW ?e1 ?_); (case e1 => walk_at "c"); (try dsimp only [Int.reduceToNat, Int.reducePow]))
  | ((with_reducible refine' w_I ?e1 ?_); (case e1 => walk_at "c"))
  | ((with_reducible refine' w_ixL (SqL.of ?e1) ?e2 ?_); (case e1 => walk_at "k"); (case e2 => exact rfl))
  | ((with_reducible refine' w_ixT (SqT.of ?e1) ?e2 ?_); (case e1 => walk_at "k"); (case e2 => exact rfl))
  | ((with_reducible refine' w_setL ?e1 ?e2 ?_); (case e1 => walk_at "k"); (case e2 => exact rfl))
  | ((with_reducible refine' w_ixLi (SqL.of ?e1) ?e2 ?e3 ?e4 ?_); (case e1 => walk_at "k"); (case e2 => exact rfl); (case e3 => omega); (case e4 => (simp only [unV, List.length_cons, List.length_nil]; omega)); intro n hn; simp only [unV, List.mem_cons, List.not_mem_nil, or_false] at hn)
  | ((with_reducible refine' w_ixTi (SqT.of ?e1) ?e2 ?e3 ?e4 ?_); (case e1 => walk_at "k"); (case e2 => exact rfl); (case e3 => omega); (case e4 => (simp only [unV, List.length_cons, List.length_nil]; omega)); intro n hn; simp only [unV, List.mem_cons, List.not_mem_nil, or_false] at hn)
  | ((with_reducible refine' w_ixLast (SqL.of ?e1) ?e3 ?_); (case e1 => walk_at "k"); (case e3 => assumption); intro ini n hn)
  | ((with_reducible refine' w_ixLm (SqL.of ?e1) ?e3 ?e4 ?_); (case e1 => walk_at "k"); (case e3 => omega); (case e4 => omega); intro n hn)
  | ((with_reducible refine' w_lenI (SqL.of ?e1) ?_); (case e1 => walk_at "k"))
  | ((with_reducible refine' w_len (SqL.of ?e1) ?_); (case e1 => walk_at "k"))
  | ((with_reducible refine' w_tyL ?e1 ?_); (case e1 => walk_at "k"))
  | ((with_reducible refine' w_appendI ?e1 ?e2 ?_); (case e1 => walk_at "k"); (case e2 => omega))
  | with_reducible refine w_max2 ?_
  | with_reducible refine w_min2 ?_
  | with_reducible refine w_abs ?_
  | with_reducible refine w_intI ?_
  | with_reducible refine w_intB ?_
  | ((with_reducible refine' w_sum (SqL.of ?e1) ?_); (case e1 => walk_at "k"))
  | ((with_reducible refine' w_neNil (SqL.of ?e1) (SqL.of ?e2) ?_); (case e2 => walk_at "k"); (case e1 => walk_at "k"))
  | ((with_reducible refine' w_eqNil (SqL.of ?e1) (SqL.of ?e2) ?_); (case e2 => walk_at "k"); (case e1 => walk_at "k"))
  | ((with_reducible refine' w_eqLI (SqL.of ?e1) (SqL.of ?e2) ?_); (case e1 => walk_at "k"); (case e2 => walk_at "k"))
  | ((with_reducible refine' w_neLI (SqL.of ?e1) (SqL.of ?e2) ?_); (case e1 => walk_at "k"); (case e2 => walk_at "k"))
  | with_reducible refine w_for ?_
  | with_reducible refine w_lc ?_
  | with_reducible refine w_iList ?_
  | with_reducible refine w_rng1 ?_
  | with_reducible refine w_rng2 ?_
  | ((with_reducible refine' w_iListE (SqL.of ?e1) ?_); (case e1 => walk_at "k"))
  | ((with_reducible refine w_rng1E ?_ ?_ ?_); omega; omega)
  | ((with_reducible refine w_rng2E ?_ ?_); omega)
  | with_reducible refine w_fldaug ?_
  | ((with_reducible refine' w_fldP ?e1 ?e2 ?e3 ?e4 ?e5 ?_); (case e1 => walk_at "k"); (case e2 => assumption); (case e3 => assumption); (case e4 => exact Nat.le_of_ble_eq_true rfl); (case e5 => walk_at "fl"))
  | ((with_reducible refine' w_fldA ?e1 ?e2 ?e3 ?e5 ?_); (case e1 => walk_at "k"); (case e2 => assumption); (case e3 => assumption); (case e5 => walk_at "fl"))
  | ((with_reducible refine' w_fldQ ?e1 ?e4 ?e5 ?_); (case e1 => walk_at "k"); (case e4 => exact Nat.le_of_ble_eq_true rfl); (case e5 => walk_at "fl"))
  | ((with_reducible refine' w_fldG ?e1 ?e2 ?e3 ?e5 ?_); (case e1 => walk_at "k"); (case e2 => assumption); (case e3 => assumption); (case e5 => walk_at "fl"))
  | with_reducible refine w_meth ?_
  | ((with_reducible refine' w_methE ?e1 ?e5 ?_); (case e1 => walk_at "k"); (case e5 => walk_at "fl"))
  | with_reducible refine w_prop ?_
  | ((with_reducible refine' w_propE ?e1 ?_); (case e1 => walk_at "k"))
  | with_reducible refine w_make ?_
  | with_reducible refine w_rAdd ?_
  | with_reducible refine w_rSub ?_
  | ((with_reducible refine' w_listof (SqL.of ?e1) ?_); (case e1 => walk_at "k"); intro p np)
  | with_reducible refine w_tYes ?_
  | ((with_reducible refine' w_appEI ?e1 ?e2 ?_); (case e1 => walk_at "k"); (case e2 => omega))
  | ((with_reducible refine' w_appEB ?e1 ?e2 ?_); (case e1 => walk_at "k"); (case e2 => omega))
  | with_reducible refine w_whT ?_
  | with_reducible refine w_lenSet ?_
  | ((with_reducible refine' w_lenSE (SqL.of ?e1) ?e2 ?_); (case e1 => walk_at "k"); (case e2 => omega))
  | ((with_reducible refine' w_isi ?e1 ?e2 ?_); (case e1 => (first | exact .base (.int _) | exact .base .non | exact .base (.bl _) | exact .base (.str _) | (refine' tyx_lst ?f1; (case f1 => walk_at "k")) | (refine' tyx_tup ?f1; (case f1 => walk_at "k")))); (case e2 => (first | exact kit_ty (r := true) (by decide +kernel) | exact kit_ty (r := false) (by decide +kernel))))
  | with_reducible refine w_sortKw ?_
  | ((with_reducible refine' w_sortedKw (SqL.of ?e1) ?_); (case e1 => walk_at "k"); intro ns' p hperm hord np)
  | ((with_reducible refine' w_sortedI (SqL.of ?e1) ?_); (case e1 => walk_at "k"); intro ns' p hperm hord np)
  | ((with_reducible refine' w_extendI ?e1 ?e2 ?e3 ?_); (case e1 => walk_at "k"); (case e2 => walk_at "k"); (case e3 => (first | omega | (simp only [List.length_replicate]; omega))))
  | ((with_reducible refine' w_rep1 ?e1 ?e2 ?e3 ?_); (case e1 => walk_at "k"); (case e2 => omega); (case e3 => omega); intro p np)
  | ((with_reducible refine' w_maxL (SqL.of ?e1) ?e2 ?_); (case e1 => walk_at "k"); (case e2 => (first | omega | (simp; done))); intro m hm hle)
  | ((with_reducible refine' w_minL (SqL.of ?e1) ?e2 ?_); (case e1 => walk_at "k"); (case e2 => (first | omega | (simp; done))); intro m hm hle)
  | ((with_reducible refine' w_catI ?e1 ?e2 ?e3 ?_); (case e1 => walk_at "k"); (case e2 => walk_at "k"); (case e3 => omega); intro p np)
  | ((with_reducible refine' w_catIL ?e1 ?e2 ?e3 ?e4 ?_); (case e1 => walk_at "k"); (case e2 => walk_at "k"); (case e3 => exact rfl); (case e4 => (simp only [unV, List.length_cons, List.length_nil]; omega)); intro p np; dsimp only [unV])
  | ((with_reducible refine' w_catLI ?e1 ?e2 ?e3 ?e4 ?_); (case e1 => walk_at "k"); (case e2 => walk_at "k"); (case e3 => exact rfl); (case e4 => (simp only [unV, List.length_cons, List.length_nil]; omega)); intro p np; dsimp only [unV])
  | with_reducible refine w_callK0 ?_
  | ((with_reducible refine w_kwE ?e1 ?_); (case e1 => exact rfl))
  | with_reducible refine w_makeK ?_
  | ((with_reducible refine w_mkE ?e1 ?_); (case e1 => exact rfl))
  | with_reducible refine w_methK ?_
  | ((with_reducible refine' w_methKE ?e1 ?e5 ?_); (case e1 => walk_at "k"); (case e5 => walk_at "fl"))
  | ((with_reducible refine w_mkwE ?e1 ?_); (case e1 => exact rfl))
  | with_reducible refine w_enum ?_
  | with_reducible refine w_zip ?_
  | with_reducible refine w_gNil ?_
  | with_reducible refine w_gCons ?_
  | ((with_reducible refine' w_gTup (SqT.of ?e1) ?e2 ?_); (case e1 => walk_at "k"); (case e2 => exact rfl))
  | ((with_reducible refine' w_gLst (SqL.of ?e1) ?e2 ?_); (case e1 => walk_at "k"); (case e2 => exact rfl))
  | ((with_reducible refine' w_enumE (SqL.of ?e1) ?_); (case e1 => walk_at "k"))
  | ((with_reducible refine' w_zipE (SqL.of ?e1) (SqL.of ?e2) ?_); (case e1 => walk_at "k"); (case e2 => walk_at "k"))
  | refine ⟨szle rfl, fun p np => ?_⟩)
local macro_rules | `(tactic| walk_at "g") => `(tactic| repeat walk_at "1")
local macro_rules | `(tactic| walk_at "H") => `(tactic| first | walk_at "k" | fail "heap")
local macro_rules | `(tactic| walk_at "F") => `(tactic| first | walk_at "f" | fail "frame")
local macro_rules | `(tactic| walk_at "Z") => `(tactic| first | walk_at "z" | fail "free")
local macro_rules | `(tactic| walk_at "N") => `(tactic| first | walk_at "n" | fail "differ")
local macro_rules | `(tactic| walk_at "P") => `(tactic| first | walk_at "p" | fail "pool")
local macro_rules | `(tactic| walk_at "G") => `(tactic| first | walk_at "1" | fail "step")
local macro_rules | `(tactic| walk_at "c") => `(tactic| first
  | assumption
  | ((with_reducible refine wide_div (b := 400) ?_ ?_ (by decide) (by decide)) <;> omega)
  | ((with_reducible refine wide_mul (a := 400) (b := 400) ?_ ?_ (by decide) (by decide) (by decide)) <;> omega)
  | ((with_reducible refine CPowW.of 400 (by decide) ?_ (by decide) (by decide)); omega)
  | (show (0 : Int) < _; first | decide | omega))
namespace K21
open PySem PySem.Spec PyProof.Rows L2 Pg
def top (i : Nat) : Stmt := PySem.Challenge.pw_pagecounts_k21_hidden_books_found.main.body.getD i (.Pass ⟨0, 0, 0, 0⟩)
abbrev s_law_draw : Stmt := (top 16)
abbrev sc_law_draw_N : List Str := ["pool", "many", "drawn", "mixed"]
theorem sc_law_draw : FnScope sc_law_draw_N ["pool", "many"] (defScope s_law_draw) := ⟨rfl, rfl, rfl, by decide +kernel, rfl, by decide +kernel, by decide +kernel⟩
abbrev s_law_length : Stmt := (top 17)
abbrev sc_law_length_N : List Str := ["pool", "far"]
theorem sc_law_length : FnScope sc_law_length_N ["pool", "far"] (defScope s_law_length) := ⟨rfl, rfl, rfl, by decide +kernel, rfl, by decide +kernel, by decide +kernel⟩
abbrev s_law_book : Stmt := (top 18)
abbrev sc_law_book_N : List Str := ["pool", "most", "far", "found", "turn"]
theorem sc_law_book : FnScope sc_law_book_N ["pool", "most", "far"] (defScope s_law_book) := ⟨rfl, rfl, rfl, by decide +kernel, rfl, by decide +kernel, by decide +kernel⟩
abbrev s_law_pages : Stmt := (top 19)
abbrev sc_law_pages_N : List Str := ["lengths", "lines_here", "one"]
theorem sc_law_pages : FnScope sc_law_pages_N ["lengths", "lines_here"] (defScope s_law_pages) := ⟨rfl, rfl, rfl, by decide +kernel, rfl, by decide +kernel, by decide +kernel⟩
abbrev s_chapter_pages : Stmt := (top 7)
abbrev sc_chapter_pages_N : List Str := ["length", "size"]
theorem sc_chapter_pages : FnScope sc_chapter_pages_N ["length", "size"] (defScope s_chapter_pages) := ⟨rfl, rfl, rfl, by decide +kernel, rfl, by decide +kernel, by decide +kernel⟩
abbrev s_count_pages : Stmt := (top 8)
abbrev sc_count_pages_N : List Str := ["book", "size", "length"]
theorem sc_count_pages : FnScope sc_count_pages_N ["book", "size"] (defScope s_count_pages) := ⟨rfl, rfl, rfl, by decide +kernel, rfl, by decide +kernel, by decide +kernel⟩
abbrev s_check_book : Stmt := (top 5)
abbrev sc_check_book_N : List Str := ["book", "index", "length"]
theorem sc_check_book : FnScope sc_check_book_N ["book"] (defScope s_check_book) := ⟨rfl, rfl, rfl, by decide +kernel, rfl, by decide +kernel, by decide +kernel⟩
abbrev s_check_size : Stmt := (top 6)
abbrev sc_check_size_N : List Str := ["size"]
theorem sc_check_size : FnScope sc_check_size_N ["size"] (defScope s_check_size) := ⟨rfl, rfl, rfl, by decide +kernel, rfl, by decide +kernel, by decide +kernel⟩
abbrev s_HiddenBook___init__ : Stmt := (inClass (top 10) 0)
abbrev sc_HiddenBook___init___N : List Str := ["self", "book"]
theorem sc_HiddenBook___init__ : FnScope sc_HiddenBook___init___N ["self", "book"] (defScope s_HiddenBook___init__) := ⟨rfl, rfl, rfl, by decide +kernel, rfl, by decide +kernel, by decide +kernel⟩
abbrev s_HiddenBook_questions : Stmt := (inClass (top 10) 1)
abbrev sc_HiddenBook_questions_N : List Str := ["self"]
theorem sc_HiddenBook_questions : FnScope sc_HiddenBook_questions_N ["self"] (defScope s_HiddenBook_questions) := ⟨rfl, rfl, rfl, by decide +kernel, rfl, by decide +kernel, by decide +kernel⟩
abbrev s_HiddenBook_ask : Stmt := (inClass (top 10) 2)
abbrev sc_HiddenBook_ask_N : List Str := ["self", "size"]
theorem sc_HiddenBook_ask : FnScope sc_HiddenBook_ask_N ["self", "size"] (defScope s_HiddenBook_ask) := ⟨rfl, rfl, rfl, by decide +kernel, rfl, by decide +kernel, by decide +kernel⟩
abbrev s_are_greatest : Stmt := (top 11)
abbrev sc_are_greatest_N : List Str := ["hidden", "found", "chapters", "size"]
theorem sc_are_greatest : FnScope sc_are_greatest_N ["hidden", "found", "chapters", "size"] (defScope s_are_greatest) := ⟨rfl, rfl, rfl, by decide +kernel, rfl, by decide +kernel, by decide +kernel⟩
abbrev s_next_length : Stmt := (top 12)
abbrev sc_next_length_N : List Str := ["hidden", "found", "chapters", "most", "low", "high", "middle"]
theorem sc_next_length : FnScope sc_next_length_N ["hidden", "found", "chapters", "most"] (defScope s_next_length) := ⟨rfl, rfl, rfl, by decide +kernel, rfl, by decide +kernel, by decide +kernel⟩
abbrev s_find : Stmt := (top 13)
abbrev sc_find_N : List Str := ["hidden", "longest", "chapters", "found", "length", "many"]
theorem sc_find : FnScope sc_find_N ["hidden", "longest"] (defScope s_find) := ⟨rfl, rfl, rfl, by decide +kernel, rfl, by decide +kernel, by decide +kernel⟩
abbrev s_law_pool : Stmt := (top 15)
abbrev sc_law_pool_N : List Str := ["script", "at", "cell"]
theorem sc_law_pool : FnScope sc_law_pool_N ["script", "at"] (defScope s_law_pool) := ⟨rfl, rfl, rfl, by decide +kernel, rfl, by decide +kernel, by decide +kernel⟩
abbrev s_law_near_book : Stmt := (top 20)
abbrev sc_law_near_book_N : List Str := ["pool", "most", "start", "step", "turn"]
theorem sc_law_near_book : FnScope sc_law_near_book_N ["pool", "most"] (defScope s_law_near_book) := ⟨rfl, rfl, rfl, by decide +kernel, rfl, by decide +kernel, by decide +kernel⟩
abbrev s_law_right : Stmt := (top 21)
abbrev sc_law_right_N : List Str := ["pool", "few", "far", "lengths", "least", "bound", "secret", "turn", "before", "due", "told", "many", "lines_here"]
theorem sc_law_right : FnScope sc_law_right_N ["pool"] (defScope s_law_right) := ⟨rfl, rfl, rfl, by decide +kernel, rfl, by decide +kernel, by decide +kernel⟩
abbrev s_law : Stmt := (top 22)
abbrev sc_law_N : List Str := ["script", "at", "pool", "turn"]
theorem sc_law : FnScope sc_law_N ["script"] (defScope s_law) := ⟨rfl, rfl, rfl, by decide +kernel, rfl, by decide +kernel, by decide +kernel⟩
theorem HiddenBook_get_hidden (a0 a1 : V) : List.lookup ("hidden" : Str) ([("hidden", a0), ("asked", a1)] : List (Str × V)) = some a0 := by
  exact lk_eq
theorem HiddenBook_put_hidden (v : V) (a0 a1 : V) : putF ("hidden" : Str) v ([("hidden", a0), ("asked", a1)] : List (Str × V)) = ([("hidden", v), ("asked", a1)] : List (Str × V)) := by
  rw [putF_eq]
theorem HiddenBook_ini_hidden (v : V)  : putF ("hidden" : Str) v ([] : List (Str × V)) = ([("hidden", v)] : List (Str × V)) := by
  rfl
theorem HiddenBook_get_asked (a0 a1 : V) : List.lookup ("asked" : Str) ([("hidden", a0), ("asked", a1)] : List (Str × V)) = some a1 := by
  rw [lk_ne (by decide +kernel)]
  exact lk_eq
theorem HiddenBook_put_asked (v : V) (a0 a1 : V) : putF ("asked" : Str) v ([("hidden", a0), ("asked", a1)] : List (Str × V)) = ([("hidden", a0), ("asked", v)] : List (Str × V)) := by
  rw [putF_ne (by decide +kernel)]
  rw [putF_eq]
theorem HiddenBook_ini_asked (v : V) (a0 : V) : putF ("asked" : Str) v ([("hidden", a0)] : List (Str × V)) = ([("hidden", a0), ("asked", v)] : List (Str × V)) := by
  rw [putF_ne (by decide +kernel)]
  rfl
theorem HiddenBook_no_ask (a0 a1 : V) : List.lookup ("ask" : Str) ([("hidden", a0), ("asked", a1)] : List (Str × V)) = none := by
  rw [lk_ne (by decide +kernel)]
  rw [lk_ne (by decide +kernel)]
  rfl
local macro_rules | `(tactic| walk_at "fl") => `(tactic| first
  | exact HiddenBook_get_hidden _ _
  | exact HiddenBook_put_hidden _ _ _
  | exact HiddenBook_ini_hidden _ 
  | exact HiddenBook_get_asked _ _
  | exact HiddenBook_put_asked _ _ _
  | exact HiddenBook_ini_asked _ _
  | exact HiddenBook_no_ask _ _)
/-- where the classes stand -/
structure Cs where
  HiddenBook : Addr
  nil_ : Unit
/-- what the top has written -/
structure Txt (K : PySem.W.Frag) (mg : Str → Option Value) (c : Cs) : Prop where
  triv_ : True
  n_abs : mg "abs" = none
  n_enumerate : mg "enumerate" = none
  n_isinstance : mg "isinstance" = none
  n_len : mg "len" = none
  n_list : mg "list" = none
  n_max : mg "max" = none
  n_min : mg "min" = none
  n_range : mg "range" = none
  n_set : mg "set" = none
  n_sorted : mg "sorted" = none
  n_sum : mg "sum" = none
  k_HiddenBook : ClsAt K mg "HiddenBook" c.HiddenBook
  na_HiddenBook_asked : NoAttr K c.HiddenBook "asked"
  na_HiddenBook_hidden : NoAttr K c.HiddenBook "hidden"
  f_law_draw : FunAt K mg "_law_draw" s_law_draw
  f_law_length : FunAt K mg "_law_length" s_law_length
  f_law_book : FunAt K mg "_law_book" s_law_book
  f_law_pages : FunAt K mg "_law_pages" s_law_pages
  f_chapter_pages : FunAt K mg "chapter_pages" s_chapter_pages
  f_count_pages : FunAt K mg "count_pages" s_count_pages
  f_check_book : FunAt K mg "check_book" s_check_book
  f_check_size : FunAt K mg "check_size" s_check_size
  f_HiddenBook___init__ : MethAt K c.HiddenBook "__init__" "HiddenBook.__init__" s_HiddenBook___init__
  f_HiddenBook_questions : PropAt K c.HiddenBook "questions" "HiddenBook.questions" s_HiddenBook_questions
  f_HiddenBook_ask : MethAt K c.HiddenBook "ask" "HiddenBook.ask" s_HiddenBook_ask
  f_are_greatest : FunAt K mg "are_greatest" s_are_greatest
  f_next_length : FunAt K mg "next_length" s_next_length
  f_find : FunAt K mg "find" s_find
  f_law_pool : FunAt K mg "_law_pool" s_law_pool
  f_law_near_book : FunAt K mg "_law_near_book" s_law_near_book
  f_law_right : FunAt K mg "_law_right" s_law_right
  f_law : FunAt K mg "law" s_law
def spLaw (K : PySem.W.Frag) : Sp := fun vs H Q _ => ∃ (a : Addr) (ns : List Int), vs = [.ref a] ∧ SqL K H a (ns.map V.int) ∧ ns.length ≤ 63 ∧ ∀ H', Q (.bl true) H'
section
variable {P : Program} {w : World} {K : PySem.W.Frag} {mg : Str → Option Value} {base : Heap} {c : Cs}
/-- a pool at a: what is left of the cell, the mixing number, how many numbers were mixed -/
def Pool (H : Hp) (a : Addr) (n : Int) : Prop := ∃ d m : Int, H a = some (.lst [.int d, .int m, .int n]) ∧ 0 ≤ m ∧ m < 2 ^ 64 ∧ 0 ≤ n
theorem Pool.new {H : Hp} {a p : Addr} {n : Int} {o : HO} (h : Pool H a n) (np : H p = none) : Pool (upd H p o) a n := by
  obtain ⟨d, m, h1, h2⟩ := h
  exact ⟨d, m, at_upd h1 np, h2⟩
theorem Pool.make {H : Hp} {a p dx : Addr} {n : Int} {o u : HO} (h : Pool H a n) (n1 : H dx = none) (n2 : H p = none) : Pool (upd (upd H dx u) p o) a n := by
  obtain ⟨d, m, h1, h2⟩ := h
  exact ⟨d, m, at_make h1 n1 n2, h2⟩
theorem Pool.ne {H : Hp} {a p : Addr} {n : Int} (h : Pool H a n) (np : H p = none) : p ≠ a := by
  obtain ⟨d, m, h1, h2⟩ := h
  exact (ne_of_none h1 np).symm
theorem Pool.fr {H H' : Hp} {a : Addr} {n : Int} {S : List Addr} (h : Pool H a n) (f : Fr S H H') (ns : a ∉ S) : Pool H' a n := by
  obtain ⟨d, m, h1, h2⟩ := h
  exact ⟨d, m, f.at ns h1, h2⟩
def spDraw : Sp := fun vs H Q _ => ∃ (a : Addr) (k n : Int), vs = [.ref a, .int n] ∧ Pool H a k ∧ 0 < n ∧ n < 2 ^ 300 ∧ k < 2 ^ 40 ∧
  ∀ (r k' : Int) (H' : Hp), 0 ≤ r → r < n → k' ≤ k + 1 → Pool H' a k' → Fr [a] H H' → Q (.int r) H'
theorem spDraw.go {H : Hp} {a : Addr} {k n : Int} {Q : VK} {E : XK} (p : Pool H a k) (n0 : 0 < n) (n1 : n < 2 ^ 300) (k1 : k < 2 ^ 40)
    (h : ∀ (r k' : Int) (H' : Hp), 0 ≤ r → r < n → k' ≤ k + 1 → Pool H' a k' → Fr [a] H H' → Q (.int r) H') : spDraw ([.ref a, .int n] ++ []) H Q E := ⟨a, k, n, rfl, p, n0, n1, k1, h⟩
theorem Pool.put {H : Hp} {a p : Addr} {n : Int} {o : HO} (h : Pool H a n) (np : p ≠ a) : Pool (upd H p o) a n := by
  obtain ⟨d, m, h1, h2⟩ := h
  exact ⟨d, m, by rw [upd_ne np.symm]; exact h1, h2⟩
/-- a drawn length -/
def spLength : Sp := fun vs H Q _ => ∃ (a : Addr) (k n : Int), vs = [.ref a, .int n] ∧ Pool H a k ∧ 0 < n ∧ n < 2 ^ 300 ∧ k < 2 ^ 39 ∧
  ∀ (r k' : Int) (H' : Hp), 1 ≤ r → (r ≤ n ∨ r ≤ 200) → k' ≤ k + 2 → Pool H' a k' → Fr [a] H H' → Q (.int r) H'
local macro_rules | `(tactic| walk_at "p") => `(tactic| first
  | assumption
  | (refine' Pool.make ?e2 ?e1 ?e3; (case e1 => assumption); (case e3 => assumption); (case e2 => walk_at "p"))
  | (refine' Pool.new ?e2 ?e1; (case e1 => assumption); (case e2 => walk_at "p"))
  | (refine' Pool.put ?e2 ?e1; (case e1 => walk_at "n"); (case e2 => walk_at "p"))
  | (refine' Pool.fr ?e2 ?e1 ?e3; (case e1 => assumption); (case e3 => exact List.not_mem_nil); (case e2 => walk_at "p"))
  | (refine' Pool.fr ?e2 ?e1 (nn2 ?e3); (case e1 => assumption); (case e3 => walk_at "n"); (case e2 => walk_at "p")))
local macro_rules | `(tactic| walk_at "n") => `(tactic| first
  | assumption
  | exact Ne.symm (by assumption)
  | (refine' Pool.ne ?e2 ?e1; (case e1 => assumption); (case e2 => walk_at "p"))
  | (refine' Ne.symm (Pool.ne ?e2 ?e1); (case e1 => assumption); (case e2 => walk_at "p")))
local macro_rules | `(tactic| walk_at "1") => `(tactic| ((with_reducible refine' spDraw.go ?e1 ?e2 ?e3 ?e4 ?_); (case e1 => walk_at "p"); (case e2 => omega); (case e3 => omega); (case e4 => omega); intro r k' H' r0 r1 rk rp rf))
/-- a drawn book -/
def spBook : Sp := fun vs H Q _ => ∃ (a : Addr) (k m n : Int), vs = [.ref a, .int m, .int n] ∧ Pool H a k ∧ 0 ≤ m ∧ m ≤ 100 ∧ 0 < n ∧ n < 2 ^ 300 ∧ k < 2 ^ 38 ∧
  ∀ (p : Addr) (xs : List Int) (k' : Int) (H' : Hp), xs.length ≤ m.toNat → (∀ x ∈ xs, 1 ≤ x ∧ (x ≤ n ∨ x ≤ 200)) → k' ≤ k + 401 → Pool H' a k' → Fr [a] H H' → H p = none → H' p = some (.lst (xs.map V.int)) → Q (.ref p) H'
set_option maxHeartbeats 4000000 in
theorem ok_law_draw (T : Txt K mg c) : DefAt P w K mg base "_law_draw" s_law_draw 1 ["pool", "many"] spDraw := by
  have cls_HiddenBook := T.k_HiddenBook.c
  have na_HiddenBook_asked := T.na_HiddenBook_asked
  have na_HiddenBook_hidden := T.na_HiddenBook_hidden
  refine T.f_law_draw.ok sc_law_draw (fun vs H Q E h => ?_) (fun _ _ _ _ _ _ us hl => match us, hl with | [_, _], _ => rfl) (fun f cdv A outer s H vs Q E hr h => ?_)
  · obtain ⟨a, k, n, rfl, ⟨d, m, ha, m0, m1, c0⟩, n0, n1, c1, q⟩ := h
    rfl
  · obtain ⟨a, k, n, rfl, ⟨d, m, ha, m0, m1, c0⟩, n0, n1, c1, q⟩ := h
    refine ⟨_, (pss_cons (ps_if (pt_cmpR op_gt (pe_ix ix_list (pv 0) pe_int (fun _ _ => rfl)) pe_int (nomark _)) (pss_cons (ps_set (i := 2) sc_law_draw.nd rfl (Or.inl rfl) (pe_op op_mod (pe_ix ix_list (pv 0) pe_int (fun _ _ => rfl)) (pv 1)))
    (pss_cons (ps_asg (pe_op op_fdivW (pe_ix ix_list (pv 0) pe_int (fun _ _ => rfl)) (pv 1)) (pg_sub (pv 0) pe_int set_list))
    (pss_one (ps_ret (pv 2))))) pss_nil)
    (pss_cons (ps_asg (pe_op op_add (pe_ix ix_list (pv 0) pe_int (fun _ _ => rfl)) pe_int) (pg_sub (pv 0) pe_int set_list))
    (pss_cons (ps_set (i := 3) sc_law_draw.nd rfl (Or.inl rfl) (pe_op op_mod (pe_op op_powW (pe_op op_add (pe_ix ix_list (pv 0) pe_int (fun _ _ => rfl)) (pe_op op_mulW pe_int (pe_ix ix_list (pv 0) pe_int (fun _ _ => rfl)))) pe_int) pe_int))
    (pss_cons (ps_set (i := 3) sc_law_draw.nd rfl (Or.inl rfl) (pe_op op_mod (pe_op op_powW (pe_op op_add (pv 3) (pe_op op_mulW pe_int (pe_ix ix_list (pv 0) pe_int (fun _ _ => rfl)))) pe_int) pe_int))
    (pss_one (ps_ret (pe_op op_mod (pe_op op_fdivW (pv 3) pe_int) (pv 1)))))))), ?_⟩
    refine w_start (σ' := [some (.ref a), some (.int n), none, none]) rfl ?_
    walk_at "g"
    refine w_ite (fun hd => ?_) (fun hd => ?_)
    · walk_at "g"
      exact q _ k _ (Int.emod_nonneg _ (by omega)) (Int.emod_lt_of_pos _ n0) (by omega) ⟨_, _, upd_same, m0, m1, c0⟩ (Fr.refl.put (.inr (by simp)))
    · walk_at "g"
      exact q _ (k + 1) _ (Int.emod_nonneg _ (by omega)) (Int.emod_lt_of_pos _ n0) (by omega) ⟨_, _, upd_same, m0, m1, by omega⟩ (Fr.refl.put (.inr (by simp)))
set_option maxHeartbeats 4000000 in
theorem ok_law_length (T : Txt K mg c) : DefAt P w K mg base "_law_length" s_law_length 2 ["pool", "far"] spLength := by
  have D_law_draw := ok_law_draw (P := P) (w := w) (base := base) T
  have cls_HiddenBook := T.k_HiddenBook.c
  have na_HiddenBook_asked := T.na_HiddenBook_asked
  have na_HiddenBook_hidden := T.na_HiddenBook_hidden
  refine T.f_law_length.ok sc_law_length (fun vs H Q E h => ?_) (fun _ _ _ _ _ _ us hl => match us, hl with | [_, _], _ => rfl) (fun f cdv A outer s H vs Q E hr h => ?_)
  · obtain ⟨a, k, n, rfl, hp, n0, n1, k1, q⟩ := h
    rfl
  · obtain ⟨a, k, n, rfl, hp, n0, n1, k1, q⟩ := h
    refine ⟨_, (pss_one (ps_ret (pe_op op_add pe_int (pe_callD D_law_draw (hr.mono (by decide)) (pa_cons (pv 0) (pa_cons (pe_ix ix_list (pe_lst (pa_cons pe_int (pa_cons pe_int (pa_cons pe_int (pa_cons (pv 1) pa_nil))))) (pe_callD D_law_draw (hr.mono (by decide)) (pa_cons (pv 0) (pa_cons pe_int pa_nil))) (fun _ _ => rfl)) pa_nil)))))), ?_⟩
    refine w_start (σ' := [some (.ref a), some (.int n)]) rfl ?_
    walk_at "g"
    rename_i p np r2 k2 H2 ra rb rk2 rp2 rf2 z hz r k3 H3 r0 r1 rk rp rf
    exact q _ k3 _ (by omega) (by omega) (by omega) rp (by walk_at "F")
set_option maxHeartbeats 4000000 in
theorem ok_law_book (T : Txt K mg c) : DefAt P w K mg base "_law_book" s_law_book 3 ["pool", "most", "far"] spBook := by
  have D_law_draw := ok_law_draw (P := P) (w := w) (base := base) T
  have D_law_length := ok_law_length (P := P) (w := w) (base := base) T
  have cls_HiddenBook := T.k_HiddenBook.c
  have na_HiddenBook_asked := T.na_HiddenBook_asked
  have na_HiddenBook_hidden := T.na_HiddenBook_hidden
  refine T.f_law_book.ok sc_law_book (fun vs H Q E h => ?_) (fun _ _ _ _ _ _ us hl => match us, hl with | [_, _, _], _ => rfl) (fun f cdv A outer s H vs Q E hr h => ?_)
  · obtain ⟨a, k, m, n, rfl, hp, m0, m1, n0, n1, k1, q⟩ := h
    rfl
  · obtain ⟨a, k, m, n, rfl, hp, m0, m1, n0, n1, k1, q⟩ := h
    refine ⟨_, (pss_cons (ps_set (i := 3) sc_law_book.nd rfl (Or.inl rfl) (pe_lst pa_nil))
    (pss_cons (ps_for PassesOwn.never rfl (pi_range1 (by rfl) T.n_range (pa_cons (pe_callD D_law_draw (hr.mono (by decide)) (pa_cons (pv 0) (pa_cons (pe_op op_add (pv 1) pe_int) pa_nil))) pa_nil)) (pg_name (i := 4) sc_law_book.nd rfl (Or.inl rfl)) (pss_one (ps_if (PW.pt (pw_and (pt_cmpR (op_neD hr.units) (pv 3) (pe_lst pa_nil) (nomark _)) (pw_and1 (pt_cmpR op_eq (pe_callD D_law_draw (hr.mono (by decide)) (pa_cons (pv 0) (pa_cons pe_int pa_nil))) pe_int (nomark _))))) (pss_one (ps_expr (pe_bm PySem.F.plainAttrs_list PySem.F.slot_list_append PySem.F.type_list_append mt_append (pv 3) (pa_cons (pe_ix ix_list (pv 3) (pe_callD D_law_draw (hr.mono (by decide)) (pa_cons (pv 0) (pa_cons (pe_callB call_lenN (by rfl) T.n_len (by decide +kernel) (pa_cons (pv 3) pa_nil)) pa_nil))) (fun _ _ => rfl)) pa_nil)))) (pss_one (ps_expr (pe_bm PySem.F.plainAttrs_list PySem.F.slot_list_append PySem.F.type_list_append mt_append (pv 3) (pa_cons (pe_callD D_law_length (hr.mono (by decide)) (pa_cons (pv 0) (pa_cons (pv 2) pa_nil))) pa_nil)))))))
    (pss_one (ps_ret (pv 3))))), ?_⟩
    refine w_start (σ' := [some (.ref a), some (.int m), some (.int n), none, none]) rfl ?_
    walk_at "g"
    rename_i p np r k2 H2 r0 r1 rk rp rf
    refine f_range (fun i σ' H3 => ∃ (v : Option V) (xs : List Int) (k3 : Int), σ' = [some (.ref a), some (.int m), some (.int n), some (.ref p), v] ∧ Pool H3 a k3 ∧ k3 ≤ k + 1 + 4 * i ∧ Fr [a] H H3 ∧ H3 p = some (.lst (xs.map V.int)) ∧ xs.length = i ∧ ∀ x ∈ xs, 1 ≤ x ∧ (x ≤ n ∨ x ≤ 200)) ?_ ?_ ?_
    · exact ⟨none, [], k2, rfl, rp, by omega, by walk_at "F", (by walk_at "H" : H2 p = some (.lst [])), rfl, by simp⟩
    · rintro i σ' H3 hi ⟨v, xs, k3, rfl, hp3, hk3, hf3, h3, hl, hx⟩
      walk_at "g"
      refine w_iteN (fun hne => ?_) (fun he => ?_)
      · have hpos := List.length_pos_iff.mpr hne
        walk_at "g"
        refine w_ite (fun h0 => ?_) (fun h0 => ?_)
        · walk_at "g"
          rename_i x hx'
          exact ⟨_, xs ++ [x], _, rfl, by walk_at "P", by omega, by walk_at "F", upd_same, len_snoc hl, mem_snoc hx (hx x (List.mem_of_getElem? hx'))⟩
        · walk_at "g"
          refine ⟨a, _, n, rfl, by walk_at "P", n0, n1, by omega, fun x k4 H4 x0 x1 kk pp ff => ?_⟩
          walk_at "g"
          exact ⟨_, xs ++ [x], _, rfl, by walk_at "P", by omega, by walk_at "F", upd_same, len_snoc hl, mem_snoc hx ⟨x0, x1⟩⟩
      · walk_at "g"
        refine ⟨a, _, n, rfl, by walk_at "P", n0, n1, by omega, fun x k4 H4 x0 x1 kk pp ff => ?_⟩
        walk_at "g"
        exact ⟨_, xs ++ [x], _, rfl, by walk_at "P", by omega, by walk_at "F", upd_same, len_snoc hl, mem_snoc hx ⟨x0, x1⟩⟩
    · rintro σ' H3 ⟨v, xs, k3, rfl, hp3, hk3, hf3, h3, hl, hx⟩
      walk_at "g"
      exact q p xs k3 H3 (by omega) hx (by omega) hp3 hf3 np h3
/-- pages of a chapter, of a book -/
def cp (l s : Int) : Int := (l + s - 1) / s
def pg (ns : List Int) (s : Int) : Int := (ns.map fun l => cp l s).sum
def spPages (K : PySem.W.Frag) : Sp := fun vs H Q _ => ∃ (p : Addr) (ns : List Int) (s : Int), vs = [.ref p, .int s] ∧ H p = some (.lst (ns.map V.int)) ∧ ns.length ≤ 1000000 ∧ 0 < s ∧ s < 2 ^ 390 ∧ ∀ H', Fr [] H H' → Q (.int (pg ns s)) H'
def spCp : Sp := fun vs H Q _ => ∃ (l s : Int), vs = [.int l, .int s] ∧ 0 < s ∧ s < 2 ^ 390 ∧ Q (.int (cp l s)) H
def spCheckBook (K : PySem.W.Frag) : Sp := fun vs H Q _ => ∃ (p : Addr) (ns : List Int), vs = [.ref p] ∧ H p = some (.lst (ns.map V.int)) ∧ ns.length ≤ 1000000 ∧ (∀ n ∈ ns, 1 ≤ n) ∧ ∀ H', Fr [] H H' → Q .non H'
def spCheckSize : Sp := fun vs H Q _ => ∃ (s : Int), vs = [.int s] ∧ 1 ≤ s ∧ Q .non H
set_option maxHeartbeats 4000000 in
theorem ok_law_pages (T : Txt K mg c) : DefAt P w K mg base "_law_pages" s_law_pages 1 ["lengths", "lines_here"] (spPages K) := by
  have cls_HiddenBook := T.k_HiddenBook.c
  have na_HiddenBook_asked := T.na_HiddenBook_asked
  have na_HiddenBook_hidden := T.na_HiddenBook_hidden
  refine T.f_law_pages.ok sc_law_pages (fun vs H Q E h => ?_) (fun _ _ _ _ _ _ us hl => match us, hl with | [_, _], _ => rfl) (fun f cdv A outer s H vs Q E hr h => ?_)
  · obtain ⟨p, ns, n, rfl, hp, hl, n0, n1, q⟩ := h
    rfl
  · obtain ⟨p, ns, n, rfl, hp, hl, n0, n1, q⟩ := h
    refine ⟨_, (pss_one (ps_ret (pe_callB (cr_sum rfl) (by rfl) T.n_sum (by decide +kernel) (pa_cons (pe_lc (own := [("one", 2)]) (tt := tYes) rfl sc_law_pages.nd (pi_list (pv 0)) (blkOk_by (N := sc_law_pages_N) (sc := defScope s_law_pages) (by decide +kernel)) (fun _ _ _ _ _ => (pg_name (i := 2) sc_law_pages.nd rfl (Or.inl rfl))) (fun _ _ _ _ _ => pts_nil) (fun _ _ _ _ _ => (pe_op op_fdivW (pe_op op_sub (pe_op op_add (pv 2) (pv 1)) pe_int) (pv 1)))) pa_nil)))), ?_⟩
    refine w_start (σ' := [some (.ref p), some (.int n), none]) rfl ?_
    walk_at "g"
    refine l_map ns (fun l => cp l n) (SqL.of hp) (fun _ => rfl) (by omega) (fun i l H2 hi f2 Q2 k2 => ?_) (fun L H2 hL f2 h2 => ?_)
    · walk_at "g"
      exact k2 _ Fr.refl
    · walk_at "g"
      exact q _ f2
set_option maxHeartbeats 4000000 in
theorem ok_chapter_pages (T : Txt K mg c) : DefAt P w K mg base "chapter_pages" s_chapter_pages 1 ["length", "size"] spCp := by
  have cls_HiddenBook := T.k_HiddenBook.c
  have na_HiddenBook_asked := T.na_HiddenBook_asked
  have na_HiddenBook_hidden := T.na_HiddenBook_hidden
  refine T.f_chapter_pages.ok sc_chapter_pages (fun vs H Q E h => ?_) (fun _ _ _ _ _ _ us hl => match us, hl with | [_, _], _ => rfl) (fun f cdv A outer s H vs Q E hr h => ?_)
  · obtain ⟨l, n, rfl, n0, n1, q⟩ := h
    rfl
  · obtain ⟨l, n, rfl, n0, n1, q⟩ := h
    refine ⟨_, (pss_one (ps_ret (pe_op op_fdivW (pe_op op_sub (pe_op op_add (pv 0) (pv 1)) pe_int) (pv 1)))), ?_⟩
    refine w_start (σ' := [some (.int l), some (.int n)]) rfl ?_
    walk_at "g"
    exact q
set_option maxHeartbeats 4000000 in
theorem ok_count_pages (T : Txt K mg c) : DefAt P w K mg base "count_pages" s_count_pages 2 ["book", "size"] (spPages K) := by
  have D_chapter_pages := ok_chapter_pages (P := P) (w := w) (base := base) T
  have cls_HiddenBook := T.k_HiddenBook.c
  have na_HiddenBook_asked := T.na_HiddenBook_asked
  have na_HiddenBook_hidden := T.na_HiddenBook_hidden
  refine T.f_count_pages.ok sc_count_pages (fun vs H Q E h => ?_) (fun _ _ _ _ _ _ us hl => match us, hl with | [_, _], _ => rfl) (fun f cdv A outer s H vs Q E hr h => ?_)
  · obtain ⟨p, ns, n, rfl, hp, hl, n0, n1, q⟩ := h
    rfl
  · obtain ⟨p, ns, n, rfl, hp, hl, n0, n1, q⟩ := h
    refine ⟨_, (pss_one (ps_ret (pe_callB (cr_sum rfl) (by rfl) T.n_sum (by decide +kernel) (pa_cons (pe_lc (own := [("length", 2)]) (tt := tYes) rfl sc_count_pages.nd (pi_list (pv 0)) (blkOk_by (N := sc_count_pages_N) (sc := defScope s_count_pages) (by decide +kernel)) (fun _ _ _ _ _ => (pg_name (i := 2) sc_count_pages.nd rfl (Or.inl rfl))) (fun _ _ _ _ _ => pts_nil) (fun _ _ _ _ _ => (pe_callD D_chapter_pages (hr.mono (by decide)) (pa_cons (pv 2) (pa_cons (pv 1) pa_nil))))) pa_nil)))), ?_⟩
    refine w_start (σ' := [some (.ref p), some (.int n), none]) rfl ?_
    walk_at "g"
    refine l_map ns (fun l => cp l n) (SqL.of hp) (fun _ => rfl) (by omega) (fun i l H2 hi f2 Q2 k2 => ?_) (fun L H2 hL f2 h2 => ?_)
    · walk_at "g"
      exact ⟨l, n, rfl, n0, n1, k2 _ Fr.refl⟩
    · walk_at "g"
      exact q _ f2
set_option maxHeartbeats 4000000 in
theorem ok_check_book (T : Txt K mg c) : DefAt P w K mg base "check_book" s_check_book 1 ["book"] (spCheckBook K) := by
  have cls_HiddenBook := T.k_HiddenBook.c
  have na_HiddenBook_asked := T.na_HiddenBook_asked
  have na_HiddenBook_hidden := T.na_HiddenBook_hidden
  refine T.f_check_book.ok sc_check_book (fun vs H Q E h => ?_) (fun _ _ _ _ _ _ us hl => match us, hl with | [_], _ => rfl) (fun f cdv A outer s H vs Q E hr h => ?_)
  · obtain ⟨p, ns, rfl, hp, hl, h1, q⟩ := h
    rfl
  · obtain ⟨p, ns, rfl, hp, hl, h1, q⟩ := h
    refine ⟨_, (pss_one (ps_for PassesOwn.never rfl (pi_enum (by rfl) T.n_enumerate (pa_cons (pv 0) pa_nil)) (pg_tup rfl (pgs_cons (pg_name (i := 1) sc_check_book.nd rfl (Or.inl rfl)) (pgs_cons (pg_name (i := 2) sc_check_book.nd rfl (Or.inl rfl)) pgs_nil))) (pss_one (ps_if (pt_cmpR op_lt (pv 2) pe_int (nomark _)) (pss_one ps_never) pss_nil)))), ?_⟩
    refine w_start (σ' := [some (.ref p), none, none]) rfl ?_
    walk_at "g"
    refine f_enum (ns.map V.int) (fun i σ' H2 => ∃ v w : Option V, σ' = [some (.ref p), v, w] ∧ Fr [] H H2) ⟨none, none, rfl, Fr.refl⟩ ?_ ?_ ?_
    · rintro i σ' H2 _ ⟨v, w, rfl, f2⟩
      exact SqL.of (f2.at0 hp)
    · rintro i x T σ' H2 hx ⟨v, w, rfl, f2⟩ hT
      obtain ⟨n, hn, rfl⟩ := map_at hx
      walk_at "g"
      refine w_ite (fun h => ?_) (fun h => ?_)
      · have := h1 n (List.mem_of_getElem? hn)
        omega
      · walk_at "g"
        exact ⟨_, _, rfl, by walk_at "F"⟩
    · rintro σ' H2 ⟨v, w, rfl, f2⟩
      exact q _ f2
set_option maxHeartbeats 4000000 in
theorem ok_check_size (T : Txt K mg c) : DefAt P w K mg base "check_size" s_check_size 1 ["size"] spCheckSize := by
  have cls_HiddenBook := T.k_HiddenBook.c
  have na_HiddenBook_asked := T.na_HiddenBook_asked
  have na_HiddenBook_hidden := T.na_HiddenBook_hidden
  refine T.f_check_size.ok sc_check_size (fun vs H Q E h => ?_) (fun _ _ _ _ _ _ us hl => match us, hl with | [_], _ => rfl) (fun f cdv A outer s H vs Q E hr h => ?_)
  · obtain ⟨n, rfl, n0, q⟩ := h
    rfl
  · obtain ⟨n, rfl, n0, q⟩ := h
    refine ⟨_, (pss_one (ps_if (pt_cmpR op_lt (pv 0) pe_int (nomark _)) (pss_one ps_never) pss_nil)), ?_⟩
    refine w_start (σ' := [some (.int n)]) rfl ?_
    walk_at "g"
    refine w_ite (fun h => ?_) (fun h => ?_)
    · omega
    · walk_at "g"
      exact q
/-- a hidden book at h: its lengths, the number of answers -/
def Hid (c : Cs) (H : Hp) (h l dx : Addr) (ns : List Int) (k : Int) : Prop := H h = some (.ins c.HiddenBook dx [("hidden", .ref l), ("asked", .int k)]) ∧ H l = some (.lst (ns.map V.int))
theorem Hid.fr {c : Cs} {H H' : Hp} {h l dx : Addr} {ns : List Int} {k : Int} (x : Hid c H h l dx ns k) (f : Fr [] H H') : Hid c H' h l dx ns k := ⟨f.at0 x.1, f.at0 x.2⟩
theorem Hid.fr1 {c : Cs} {H H' : Hp} {h l dx a : Addr} {ns : List Int} {k : Int} (x : Hid c H h l dx ns k) (f : Fr [a] H H') (h1 : h ≠ a) (h2 : l ≠ a) : Hid c H' h l dx ns k := ⟨f.at (nn2 h1) x.1, f.at (nn2 h2) x.2⟩
def spHInit (K : PySem.W.Frag) (c : Cs) : Sp := fun vs H Q _ => ∃ (h dx p : Addr) (ns : List Int), vs = [.ref h, .ref p] ∧ H h = some (.ins c.HiddenBook dx []) ∧ H p = some (.lst (ns.map V.int)) ∧ ns.length ≤ 1000000 ∧ (∀ n ∈ ns, 1 ≤ n) ∧
  ∀ l H', Hid c H' h l dx ns 0 → H l = none → Fr [h] H H' → Q .non H'
def spAsk (c : Cs) : Sp := fun vs H Q _ => ∃ (h l dx : Addr) (ns : List Int) (k s : Int), vs = [.ref h, .int s] ∧ Hid c H h l dx ns k ∧ ns.length ≤ 1000000 ∧ 1 ≤ s ∧ s < 2 ^ 390 ∧ ∀ H', Hid c H' h l dx ns (k + 1) → Fr [h] H H' → Q (.int (pg ns s)) H'
def spQuestions (c : Cs) : Sp := fun vs H Q _ => ∃ (h l dx : Addr) (ns : List Int) (k : Int), vs = [.ref h] ∧ Hid c H h l dx ns k ∧ Q (.int k) H
def spGreatest (c : Cs) : Sp := fun vs H Q _ => ∃ (h l dx f : Addr) (ns fs : List Int) (k ch s : Int), vs = [.ref h, .ref f, .int ch, .int s] ∧ Hid c H h l dx ns k ∧ H f = some (.lst (fs.map V.int)) ∧ ns.length ≤ 1000000 ∧ fs.length ≤ 1000000 ∧ 1 ≤ s ∧ s < 2 ^ 390 ∧
  ∀ H', Hid c H' h l dx ns (k + 1) → Fr [h] H H' → Q (.bl (decide (pg ns s = pg fs s + ch - fs.length))) H'
set_option maxHeartbeats 4000000 in
theorem ok_HiddenBook___init__ (T : Txt K mg c) : MDefAt P w K mg base c.HiddenBook "__init__" "HiddenBook.__init__" s_HiddenBook___init__ 2 ["self", "book"] (spHInit K c) := by
  have D_check_book := ok_check_book (P := P) (w := w) (base := base) T
  have cls_HiddenBook := T.k_HiddenBook.c
  have na_HiddenBook_asked := T.na_HiddenBook_asked
  have na_HiddenBook_hidden := T.na_HiddenBook_hidden
  refine T.f_HiddenBook___init__.ok sc_HiddenBook___init__ (fun vs H Q E h => ?_) (fun _ _ _ _ _ _ us hl => match us, hl with | [_, _], _ => rfl) (fun f cdv A outer s H vs Q E hr h => ?_)
  · obtain ⟨h, dx, p, ns, rfl, hh, hp, hl, h1, q⟩ := h
    rfl
  · obtain ⟨h, dx, p, ns, rfl, hh, hp, hl, h1, q⟩ := h
    refine ⟨_, (pss_cons (ps_expr (pe_callD D_check_book (hr.mono (by decide)) (pa_cons (pv 1) pa_nil)))
    (pss_cons (ps_fld (pv 0) (pe_callTy call_listN (by rfl) T.n_list (by decide +kernel) (pa_cons (pv 1) pa_nil)) rfl)
    (pss_one (ps_fld (pv 0) pe_int rfl)))), ?_⟩
    refine w_start (σ' := [some (.ref h), some (.ref p)]) rfl ?_
    walk_at "g"
    refine ⟨p, ns, rfl, hp, hl, h1, fun H2 f2 => ?_⟩
    walk_at "g"
    rename_i l nl
    exact q l _ ⟨upd_same, by walk_at "H"⟩ (by walk_at "Z") (by walk_at "F")
set_option maxHeartbeats 4000000 in
theorem ok_HiddenBook_questions (T : Txt K mg c) : PDefAt P w K mg base c.HiddenBook "questions" "HiddenBook.questions" s_HiddenBook_questions 1 (spQuestions c) := by
  have cls_HiddenBook := T.k_HiddenBook.c
  have na_HiddenBook_asked := T.na_HiddenBook_asked
  have na_HiddenBook_hidden := T.na_HiddenBook_hidden
  refine T.f_HiddenBook_questions.ok sc_HiddenBook_questions (fun vs H Q E h => ?_) (fun _ _ _ _ _ _ us hl => match us, hl with | [_], _ => rfl) (fun f cdv A outer s H vs Q E hr h => ?_)
  · obtain ⟨h, l, dx, ns, k, rfl, ⟨hh, hl⟩, q⟩ := h
    rfl
  · obtain ⟨h, l, dx, ns, k, rfl, ⟨hh, hl⟩, q⟩ := h
    refine ⟨_, (pss_one (ps_ret (pe_fld (pv 0) rfl))), ?_⟩
    refine w_start (σ' := [some (.ref h)]) rfl ?_
    walk_at "g"
    exact q
set_option maxHeartbeats 4000000 in
theorem ok_HiddenBook_ask (T : Txt K mg c) : MDefAt P w K mg base c.HiddenBook "ask" "HiddenBook.ask" s_HiddenBook_ask 3 ["self", "size"] (spAsk c) := by
  have D_check_size := ok_check_size (P := P) (w := w) (base := base) T
  have D_count_pages := ok_count_pages (P := P) (w := w) (base := base) T
  have cls_HiddenBook := T.k_HiddenBook.c
  have na_HiddenBook_asked := T.na_HiddenBook_asked
  have na_HiddenBook_hidden := T.na_HiddenBook_hidden
  refine T.f_HiddenBook_ask.ok sc_HiddenBook_ask (fun vs H Q E h => ?_) (fun _ _ _ _ _ _ us hl => match us, hl with | [_, _], _ => rfl) (fun f cdv A outer s H vs Q E hr h => ?_)
  · obtain ⟨h, l, dx, ns, k, s, rfl, ⟨hh, hl⟩, hz, s0, s1, q⟩ := h
    rfl
  · obtain ⟨h, l, dx, ns, k, s, rfl, ⟨hh, hl⟩, hz, s0, s1, q⟩ := h
    refine ⟨_, (pss_cons (ps_expr (pe_callD D_check_size (hr.mono (by decide)) (pa_cons (pv 1) pa_nil)))
    (pss_cons (ps_fldaug (pv 0) pe_int in_add)
    (pss_one (ps_ret (pe_callD D_count_pages (hr.mono (by decide)) (pa_cons (pe_fld (pv 0) rfl) (pa_cons (pv 1) pa_nil))))))), ?_⟩
    refine w_start (σ' := [some (.ref h), some (.int s)]) rfl ?_
    walk_at "g"
    refine ⟨s, rfl, s0, ?_⟩
    walk_at "g"
    have z1 : l ≠ h := by walk_at "N"
    refine ⟨l, ns, s, rfl, by walk_at "H", hz, by omega, s1, fun H2 f2 => ?_⟩
    exact q _ ⟨by walk_at "H", by walk_at "H"⟩ (by walk_at "F")
set_option maxHeartbeats 4000000 in
theorem ok_are_greatest (T : Txt K mg c) : DefAt P w K mg base "are_greatest" s_are_greatest 4 ["hidden", "found", "chapters", "size"] (spGreatest c) := by
  have D_HiddenBook_ask := ok_HiddenBook_ask (P := P) (w := w) (base := base) T
  have D_count_pages := ok_count_pages (P := P) (w := w) (base := base) T
  have cls_HiddenBook := T.k_HiddenBook.c
  have na_HiddenBook_asked := T.na_HiddenBook_asked
  have na_HiddenBook_hidden := T.na_HiddenBook_hidden
  refine T.f_are_greatest.ok sc_are_greatest (fun vs H Q E h => ?_) (fun _ _ _ _ _ _ us hl => match us, hl with | [_, _, _, _], _ => rfl) (fun f cdv A outer s H vs Q E hr h => ?_)
  · obtain ⟨h, l, dx, f', ns, fs, k, ch, s, rfl, hh, hf, hz, hz2, s0, s1, q⟩ := h
    rfl
  · obtain ⟨h, l, dx, f', ns, fs, k, ch, s, rfl, hh, hf, hz, hz2, s0, s1, q⟩ := h
    refine ⟨_, (pss_one (ps_ret (pe_cmpR op_eq (pe_methD (pv 0) T.k_HiddenBook.c D_HiddenBook_ask (hr.mono (by decide)) (pa_cons (pv 3) pa_nil)) (pe_op op_sub (pe_op op_add (pe_callD D_count_pages (hr.mono (by decide)) (pa_cons (pv 1) (pa_cons (pv 3) pa_nil))) (pv 2)) (pe_callB call_lenN (by rfl) T.n_len (by decide +kernel) (pa_cons (pv 1) pa_nil))) (nomark _)))), ?_⟩
    refine w_start (σ' := [some (.ref h), some (.ref f'), some (.int ch), some (.int s)]) rfl ?_
    walk_at "g"
    obtain ⟨hh1, hh2⟩ := id hh
    walk_at "g"
    refine ⟨h, l, dx, ns, k, s, rfl, hh, hz, s0, s1, fun H2 hh2 f2 => ?_⟩
    walk_at "g"
    have hf2 : H2 f' = some (.lst (fs.map V.int)) := f2.at (nn2 (ne_of hf hh1 (by intro z; cases z))) hf
    refine ⟨f', fs, s, rfl, hf2, hz2, by omega, s1, fun H3 f3 => ?_⟩
    walk_at "g"
    exact q H3 (hh2.fr f3) (f2.then f3)
/-! ### the mathematics of page counts -/
theorem cp_one {l s : Int} (h : 1 ≤ l) (h2 : l ≤ s) : cp l s = 1 := by
  unfold cp
  rw [Int.ediv_eq_iff_of_pos (by omega)]
  omega
theorem cp_two {l s : Int} (h : s < l) (h2 : l ≤ 2 * s) : cp l s = 2 := by
  unfold cp
  rw [Int.ediv_eq_iff_of_pos (by omega)]
  omega
theorem cp_ge2 {l s : Int} (h : 1 ≤ s) (h2 : s < l) : 2 ≤ cp l s := by
  unfold cp
  rw [Int.le_ediv_iff_mul_le (by omega)]
  omega
theorem cp_pos {l s : Int} (h : 1 ≤ s) (h2 : 1 ≤ l) : 1 ≤ cp l s := by
  unfold cp
  rw [Int.le_ediv_iff_mul_le (by omega)]
  omega
theorem pg_cons (x : Int) (ns : List Int) (s : Int) : pg (x :: ns) s = cp x s + pg ns s := by simp [pg]
theorem pg_nil (s : Int) : pg [] s = 0 := rfl
theorem pg_append (ns ms : List Int) (s : Int) : pg (ns ++ ms) s = pg ns s + pg ms s := by simp [pg, List.sum_append]
theorem pg_perm {ns ms : List Int} (h : ns.Perm ms) (s : Int) : pg ns s = pg ms s := by
  unfold pg
  exact perm_sum (h.map _)
theorem pg_ge : ∀ {ns : List Int} {s : Int}, (∀ x ∈ ns, 1 ≤ x) → 1 ≤ s → (ns.length : Int) ≤ pg ns s
  | [], s, _, _ => by simp [pg]
  | x :: ns, s, h, hs => by
    have ih := pg_ge (ns := ns) (s := s) (fun y hy => h y (List.mem_cons_of_mem _ hy)) hs
    have := cp_pos hs (h x List.mem_cons_self)
    rw [pg_cons]
    simp only [List.length_cons]
    omega
theorem pg_eq_iff : ∀ {ns : List Int} {s : Int}, (∀ x ∈ ns, 1 ≤ x) → 1 ≤ s → (pg ns s = ns.length ↔ ∀ x ∈ ns, x ≤ s)
  | [], s, _, _ => by simp [pg]
  | x :: ns, s, h, hs => by
    have hn : ∀ y ∈ ns, 1 ≤ y := fun y hy => h y (List.mem_cons_of_mem _ hy)
    have ih := pg_eq_iff (ns := ns) (s := s) hn hs
    have hx := h x List.mem_cons_self
    have g := pg_ge hn hs
    rw [pg_cons]
    simp only [List.length_cons, List.mem_cons, forall_eq_or_imp]
    by_cases hxs : x ≤ s
    · rw [cp_one hx hxs]
      constructor
      · intro e
        exact ⟨hxs, ih.mp (by omega)⟩
      · rintro ⟨_, e⟩
        have := ih.mpr e
        omega
    · have := cp_ge2 hs (show s < x by omega)
      constructor
      · intro e
        omega
      · rintro ⟨e, _⟩
        omega
theorem pg_count : ∀ {r : List Int} {m : Int}, 2 ≤ m → (∀ x ∈ r, 1 ≤ x ∧ x ≤ m) → pg r (m - 1) = r.length + r.count m
  | [], m, _, _ => by simp [pg]
  | x :: r, m, hm, h => by
    have ih := pg_count (r := r) hm (fun y hy => h y (List.mem_cons_of_mem _ hy))
    obtain ⟨h1, h2⟩ := h x List.mem_cons_self
    rw [pg_cons, ih]
    by_cases e : x = m
    · subst e
      rw [cp_two (by omega) (by omega), List.count_cons_self]
      simp only [List.length_cons]
      omega
    · rw [cp_one h1 (by omega), List.count_cons_of_ne e]
      simp only [List.length_cons]
      omega
theorem test_iff {ns fs r : List Int} {s ch : Int} (hp : ns.Perm (fs ++ r)) (h1 : ∀ x ∈ ns, 1 ≤ x) (hs : 1 ≤ s) (hc : ch = ns.length) : (pg ns s = pg fs s + ch - fs.length) ↔ ∀ x ∈ r, x ≤ s := by
  have hl := hp.length_eq
  rw [List.length_append] at hl
  have hr : ∀ x ∈ r, 1 ≤ x := fun x hx => h1 x (hp.mem_iff.mpr (List.mem_append_right _ hx))
  rw [pg_perm hp, pg_append, ← pg_eq_iff hr hs]
  omega
def spNext (c : Cs) : Sp := fun vs H Q _ => ∃ (h l dx f : Addr) (ns fs r : List Int) (k ch most : Int), vs = [.ref h, .ref f, .int ch, .int most] ∧ Hid c H h l dx ns k ∧ H f = some (.lst (fs.map V.int)) ∧ ns.length ≤ 1000000 ∧ (∀ x ∈ ns, 1 ≤ x) ∧ ns.Perm (fs ++ r) ∧ r ≠ [] ∧
  (∀ x ∈ r, x ≤ most) ∧ most < 2 ^ 100 ∧ ch = ns.length ∧ ∀ m k' H', m ∈ r → (∀ x ∈ r, x ≤ m) → k ≤ k' → k' ≤ k + 100 → Hid c H' h l dx ns k' → Fr [h] H H' → Q (.int m) H'
set_option maxHeartbeats 4000000 in
theorem ok_next_length (T : Txt K mg c) : DefAt P w K mg base "next_length" s_next_length 5 ["hidden", "found", "chapters", "most"] (spNext c) := by
  have D_are_greatest := ok_are_greatest (P := P) (w := w) (base := base) T
  have cls_HiddenBook := T.k_HiddenBook.c
  have na_HiddenBook_asked := T.na_HiddenBook_asked
  have na_HiddenBook_hidden := T.na_HiddenBook_hidden
  refine T.f_next_length.ok sc_next_length (fun vs H Q E h => ?_) (fun _ _ _ _ _ _ us hl => match us, hl with | [_, _, _, _], _ => rfl) (fun f cdv A outer s H vs Q E hr h => ?_)
  · obtain ⟨h, l, dx, f', ns, fs, r, k, ch, most, rfl, hh, hf, hz, h1, hp, hne, hm, hm2, hc, q⟩ := h
    rfl
  · obtain ⟨h, l, dx, f', ns, fs, r, k, ch, most, rfl, hh, hf, hz, h1, hp, hne, hm, hm2, hc, q⟩ := h
    refine ⟨_, (pss_cons (ps_par (i := 4) (j := 5) rfl sc_next_length.nd rfl rfl (by decide) rfl rfl (pa_cons pe_int (pa_cons (pv 3) pa_nil)) (by rfl))
    (pss_cons (ps_while PassesOwn.never (pt_cmpR op_lt (pv 4) (pv 5) (nomark _)) (pss_cons (ps_set (i := 6) sc_next_length.nd rfl (Or.inl rfl) (pe_op op_fdivW (pe_op op_add (pv 4) (pv 5)) pe_int))
    (pss_one (ps_if (pt_val (pe_callD D_are_greatest (hr.mono (by decide)) (pa_cons (pv 0) (pa_cons (pv 1) (pa_cons (pv 2) (pa_cons (pv 6) pa_nil)))))) (pss_one (ps_set (i := 5) sc_next_length.nd rfl (Or.inl rfl) (pv 6))) (pss_one (ps_set (i := 4) sc_next_length.nd rfl (Or.inl rfl) (pe_op op_add (pv 6) pe_int)))))))
    (pss_one (ps_ret (pv 4))))), ?_⟩
    refine w_start (σ' := [some (.ref h), some (.ref f'), some (.int ch), some (.int most), none, none, none]) rfl ?_
    walk_at "g"
    obtain ⟨hh1, hh2⟩ := id hh
    refine w_while (fun j σ' H2 => ∃ (lo hi k2 : Int) (v : Option V), σ' = [some (.ref h), some (.ref f'), some (.int ch), some (.int most), some (.int lo), some (.int hi), v] ∧ Hid c H2 h l dx ns k2 ∧ Fr [h] H H2 ∧
      1 ≤ lo ∧ lo ≤ hi ∧ hi ≤ most ∧ (∀ x ∈ r, x ≤ hi) ∧ (lo = 1 ∨ ∃ x ∈ r, lo ≤ x) ∧ hi - lo < 2 ^ j ∧ k ≤ k2 ∧ k2 + j ≤ k + 100) 100 ?_ ?_
    · refine ⟨1, most, k, none, rfl, hh, Fr.refl, by omega, ?_, by omega, hm, .inl rfl, by omega, by omega, by omega⟩
      obtain ⟨x, hx⟩ := List.exists_mem_of_ne_nil r hne
      have := hm x hx
      have := h1 x (hp.mem_iff.mpr (List.mem_append_right _ hx))
      omega
    · rintro j σ' H2 ⟨lo, hi, k2, v, rfl, hid, f2, l1, l2, l3, l4, l5, l6, l7, l8⟩
      have hfl : fs.length ≤ 1000000 := by
        have e := hp.length_eq
        rw [List.length_append] at e
        omega
      walk_at "g"
      refine w_ite (fun hlt => ?_) (fun hge => ?_)
      · walk_at "g"
        refine ⟨h, l, dx, f', ns, fs, k2, ch, _, rfl, hid, f2.at (nn2 (ne_of hf hh1 ho_lst_ins)) hf, hz, hfl, by omega, by omega, fun H3 hid3 f3 => ?_⟩
        obtain ⟨i, rfl⟩ : ∃ i, j = i + 1 := by
          cases j with
          | zero => simp at l6; omega
          | succ i => exact ⟨i, rfl⟩
        rw [Int.pow_succ] at l6
        have ti := test_iff (s := (lo + hi) / 2) hp h1 (by omega) hc
        walk_at "g"
        refine w_ite (fun ht => ?_) (fun hf' => ?_)
        · walk_at "g"
          exact ⟨i, by omega, lo, (lo + hi) / 2, k2 + 1, _, rfl, hid3, f2.trans f3, l1, by omega, by omega, ti.mp ht, l5, by omega, by omega, by omega⟩
        · walk_at "g"
          refine ⟨i, by omega, (lo + hi) / 2 + 1, hi, k2 + 1, _, rfl, hid3, f2.trans f3, by omega, by omega, by omega, l4, .inr ?_, by omega, by omega, by omega⟩
          refine Classical.byContradiction fun hn => hf' (ti.mpr fun x hx => ?_)
          refine Classical.byContradiction fun hx2 => hn ⟨x, hx, by omega⟩
      · walk_at "g"
        have e : lo = hi := by omega
        subst e
        refine q lo k2 H2 ?_ l4 l7 (by omega) hid f2
        rcases l5 with e | ⟨x, hx, h2⟩
        · obtain ⟨x, hx⟩ := List.exists_mem_of_ne_nil r hne
          have a1 := l4 x hx
          have a2 := h1 x (hp.mem_iff.mpr (List.mem_append_right _ hx))
          have a3 : x = lo := by omega
          exact a3 ▸ hx
        · have a1 := l4 x hx
          have a3 : x = lo := by omega
          exact a3 ▸ hx
theorem perm_split {ns fs r : List Int} {m : Int} (hp : ns.Perm (fs ++ r)) : ns.Perm ((fs ++ List.replicate (r.count m) m) ++ r.filter (· ≠ m)) := by
  refine hp.trans ?_
  rw [List.append_assoc]
  refine List.Perm.append_left fs ?_
  rw [List.perm_iff_count]
  intro a
  rw [List.count_append, List.count_replicate]
  by_cases e : m = a
  · subst e
    have z : (r.filter (· ≠ m)).count m = 0 := List.count_eq_zero.mpr (by simp)
    rw [z]
    simp
  · have z : (m == a) = false := by simpa using e
    rw [z, List.count_filter (by simpa using fun h => e h.symm)]
    simp
def spFind (c : Cs) : Sp := fun vs H Q _ => ∃ (h l dx : Addr) (ns : List Int) (k most : Int), vs = [.ref h, .int most] ∧ Hid c H h l dx ns k ∧ ns.length ≤ 4000 ∧ (∀ x ∈ ns, 1 ≤ x) ∧ (∀ x ∈ ns, x ≤ most) ∧ 1 ≤ most ∧ most < 2 ^ 100 ∧
  ∀ (p : Addr) (fs : List Int) (k' : Int) (H' : Hp), fs.Perm ns → fs.Pairwise (· ≥ ·) → k ≤ k' → k' ≤ k + 1 + 101 * (distinct ns).length → Hid c H' h l dx ns k' → Fr [h] H H' → H p = none → H' p = some (.lst (fs.map V.int)) → Q (.ref p) H'
theorem kb_find_longest_hidden : KB0 "find" "find" s_find ["hidden", "longest"] ["longest", "hidden"] 0 [1, 0] := fun _ _ _ _ _ _ us ws hu hw => match us, ws, hu, hw with | [], [_, _], _, _ => rfl
set_option maxHeartbeats 4000000 in
theorem ok_find (T : Txt K mg c) : DefAt P w K mg base "find" s_find 6 ["hidden", "longest"] (spFind c) := by
  have D_HiddenBook_ask := ok_HiddenBook_ask (P := P) (w := w) (base := base) T
  have D_next_length := ok_next_length (P := P) (w := w) (base := base) T
  have D_count_pages := ok_count_pages (P := P) (w := w) (base := base) T
  have cls_HiddenBook := T.k_HiddenBook.c
  have na_HiddenBook_asked := T.na_HiddenBook_asked
  have na_HiddenBook_hidden := T.na_HiddenBook_hidden
  refine T.f_find.ok sc_find (fun vs H Q E h => ?_) (fun _ _ _ _ _ _ us hl => match us, hl with | [_, _], _ => rfl) (fun f cdv A outer s H vs Q E hr h => ?_)
  · obtain ⟨h, l, dx, ns, k, most, rfl, hh, hz, h1, hm, m0, m1, q⟩ := h
    rfl
  · obtain ⟨h, l, dx, ns, k, most, rfl, hh, hz, h1, hm, m0, m1, q⟩ := h
    refine ⟨_, (pss_cons (ps_set (i := 2) sc_find.nd rfl (Or.inl rfl) (pe_methD (pv 0) T.k_HiddenBook.c D_HiddenBook_ask (hr.mono (by decide)) (pa_cons (pv 1) pa_nil)))
    (pss_cons (ps_set (i := 3) sc_find.nd rfl (Or.inl rfl) (pe_lst pa_nil))
    (pss_cons (ps_while PassesOwn.never (pt_cmpR op_lt (pe_callB call_lenN (by rfl) T.n_len (by decide +kernel) (pa_cons (pv 3) pa_nil)) (pv 2) (nomark _)) (pss_cons (ps_set (i := 4) sc_find.nd rfl (Or.inl rfl) (pe_callD D_next_length (hr.mono (by decide)) (pa_cons (pv 0) (pa_cons (pv 3) (pa_cons (pv 2) (pa_cons (pe_ifExp (pt_cmpR (op_neD hr.units) (pv 3) (pe_lst pa_nil) (nomark _)) (pe_op op_sub (pe_ix ix_list (pv 3) (pe_un un_neg pe_int) (fun _ _ => rfl)) pe_int) (pv 1)) pa_nil))))))
    (pss_cons (ps_set (i := 5) sc_find.nd rfl (Or.inl rfl) (pe_op op_sub (pv 2) (pe_callB call_lenN (by rfl) T.n_len (by decide +kernel) (pa_cons (pv 3) pa_nil))))
    (pss_cons (ps_if (pt_cmpR op_gt (pv 4) pe_int (nomark _)) (pss_one (ps_set (i := 5) sc_find.nd rfl (Or.inl rfl) (pe_op op_sub (pe_op op_sub (pe_methD (pv 0) T.k_HiddenBook.c D_HiddenBook_ask (hr.mono (by decide)) (pa_cons (pe_op op_sub (pv 4) pe_int) pa_nil)) (pe_callD D_count_pages (hr.mono (by decide)) (pa_cons (pv 3) (pa_cons (pe_op op_sub (pv 4) pe_int) pa_nil)))) (pv 5)))) pss_nil)
    (pss_one (ps_expr (pe_bm PySem.F.plainAttrs_list PySem.F.slot_list_extend PySem.F.type_list_extend mt_extend (pv 3) (pa_cons (pe_op op_rep (pe_lst (pa_cons (pv 4) pa_nil)) (pv 5)) pa_nil))))))))
    (pss_one (ps_ret (pv 3)))))), ?_⟩
    refine w_start (σ' := [some (.ref h), some (.int most), none, none, none, none]) rfl ?_
    walk_at "g"
    obtain ⟨hh1, hh2⟩ := id hh
    have hch : pg ns most = ns.length := (pg_eq_iff h1 m0).mpr hm
    walk_at "g"
    refine ⟨h, l, dx, ns, k, most, rfl, hh, by omega, m0, by omega, fun H2 hid2 f2 => ?_⟩
    obtain ⟨hid21, hid22⟩ := id hid2
    walk_at "g"
    rename_i p np
    have np0 : H p = none := by walk_at "Z"
    have hph : p ≠ h := (ne_of_none hh1 np0).symm
    let W : Nat → L2.St → Hp → Prop := fun j σ' H3 => ∃ (fs r ds : List Int) (k3 : Int) (v u : Option V), σ' = [some (.ref h), some (.int most), some (.int (pg ns most)), some (.ref p), v, u] ∧ Hid c H3 h l dx ns k3 ∧ Fr [h] H H3 ∧ H3 p = some (.lst (fs.map V.int)) ∧
      ns.Perm (fs ++ r) ∧ r.length = j ∧ fs.Pairwise (· ≥ ·) ∧ (∀ x ∈ fs, ∀ y ∈ r, y < x) ∧ ds.Nodup ∧ (∀ x ∈ ds, x ∈ fs) ∧ k + 1 ≤ k3 ∧ k3 ≤ k + 1 + 101 * ds.length
    refine w_while W ns.length ?_ ?_
    · exact ⟨[], ns, [], k + 1, none, none, rfl, ⟨by walk_at "H", by walk_at "H"⟩, by walk_at "F", upd_same, .refl _, rfl, .nil, by simp, .nil, by simp, by omega, by simp⟩
    · rintro j σ' H3 ⟨fs, r, ds, k3, v, u, rfl, hid, f3, hp3, hperm, hrl, hpw, hlt, hnd, hds, hk, hk2⟩
      have hlen := hperm.length_eq
      rw [List.length_append] at hlen
      have hr1 : ∀ x ∈ r, x ∈ ns := fun x hx => hperm.mem_iff.mpr (List.mem_append_right _ hx)
      have hf1 : ∀ x ∈ fs, x ∈ ns := fun x hx => hperm.mem_iff.mpr (List.mem_append_left _ hx)
      have hhid := hid.1
      walk_at "g"
      refine w_ite (fun hlt2 => ?_) (fun hge => ?_)
      · have hrne : r ≠ [] := by
          intro e
          rw [e] at hlen
          simp at hlen
          omega
        walk_at "g"
        rename_i q0 nq0
        refine' w_share (fun rest => w_iteN (fun hne => ?a) (fun he => ?b)) ?rest
        case a =>
          walk_at "g"
          rename_i ini x hx
          have hxf : x ∈ fs := by rw [hx]; simp
          exact ⟨h, l, dx, p, ns, fs, r, k3, _, _, rfl, ⟨by walk_at "H", at_upd hid.2 nq0⟩, by walk_at "H", by omega, h1, hperm, hrne, fun y hy => by have := hlt x hxf y hy; omega, by have := hm x (hf1 x hxf); omega, hch, rest.r⟩
        case b =>
          walk_at "g"
          exact ⟨h, l, dx, p, ns, fs, r, k3, _, _, rfl, ⟨by walk_at "H", at_upd hid.2 nq0⟩, by walk_at "H", by omega, h1, hperm, hrne, fun y hy => hm y (hr1 y hy), m1, hch, rest.r⟩
        case rest =>
          intro m k4 H4 hmr hmax hk4 hk5 hid4 f4
          have hp4 : H4 p = some (.lst (fs.map V.int)) := f4.at (nn2 hph) (at_upd hp3 nq0)
          have fin : ∀ (cnt k5 : Int) (H5 : Hp) (u : Option V), cnt = r.count m → Hid c H5 h l dx ns k5 → Fr [h] H H5 → k3 ≤ k5 → k5 ≤ k3 + 101 →
              ∃ m', m' < j ∧ W m' [some (.ref h), some (.int most), some (.int (pg ns most)), some (.ref p), some (.int m), u] (upd H5 p (.lst ((fs ++ List.replicate cnt.toNat m).map V.int))) := by
            intro cnt k5 H5 u hc hid5 f5 k51 k52
            have ec : cnt.toNat = r.count m := by omega
            rw [ec]
            have hmf : m ∉ fs := fun z => by have := hlt m z m hmr; omega
            refine ⟨(r.filter (· ≠ m)).length, ?_, fs ++ List.replicate (r.count m) m, r.filter (· ≠ m), ds ++ [m], k5, _, _, rfl, ⟨by rw [upd_ne hph.symm]; exact hid5.1, ?_⟩, f5.put (.inl np0), upd_same, perm_split hperm, rfl, ?_, ?_, ?_, ?_, by omega, ?_⟩
            · rw [← hrl]
              exact List.length_filter_lt_length_iff_exists.mpr ⟨m, hmr, by simp⟩
            · rw [upd_ne]
              · exact hid5.2
              · intro e
                subst e
                rw [np0] at hh2
                cases hh2
            · refine List.pairwise_append.mpr ⟨hpw, List.pairwise_replicate.mpr (.inr (Int.le_refl _)), fun a ha b hb => ?_⟩
              have hb2 := (List.mem_replicate.mp hb).2
              subst hb2
              have := hlt a ha b hmr
              omega
            · intro x hx y hy
              obtain ⟨y1, y2⟩ := List.mem_filter.mp hy
              have y3 : y ≠ m := by simpa using y2
              rcases List.mem_append.mp hx with z | z
              · exact hlt x z y y1
              · have e := (List.mem_replicate.mp z).2
                have := hmax y y1
                omega
            · refine List.nodup_append.mpr ⟨hnd, by simp, fun a ha b hb => ?_⟩
              rw [List.mem_singleton.mp hb]
              intro e
              exact hmf (e ▸ hds a ha)
            · intro x hx
              rcases List.mem_append.mp hx with z | z
              · exact List.mem_append_left _ (hds x z)
              · rw [List.mem_singleton.mp z]
                exact List.mem_append_right _ (List.mem_replicate.mpr ⟨by have := List.count_pos_iff.mpr hmr; omega, rfl⟩)
            · simp only [List.length_append, List.length_cons, List.length_nil]
              omega
          have hm1 := h1 m (hr1 m hmr)
          have hmm := hm m (hr1 m hmr)
          have hcl : r.count m ≤ r.length := List.count_le_length
          have f34 : Fr [h] H H4 := by walk_at "F"
          obtain ⟨hid41, hid42⟩ := id hid4
          walk_at "g"
          refine w_ite (fun h2 => ?_) (fun h2 => ?_)
          · walk_at "g"
            refine ⟨h, l, dx, ns, k4, m - 1, rfl, hid4, by omega, by omega, by omega, fun H5 hid5 f5 => ?_⟩
            have hp5 : H5 p = some (.lst (fs.map V.int)) := f5.at (nn2 hph) hp4
            obtain ⟨hid51, hid52⟩ := id hid5
            walk_at "g"
            refine ⟨p, fs, m - 1, rfl, hp5, by omega, by omega, by omega, fun H6 f6 => ?_⟩
            have hmany : pg ns (m - 1) - pg fs (m - 1) - (pg ns most - ↑fs.length) = r.count m := by
              have e := pg_count (r := r) (m := m) (by omega) (fun x hx => ⟨h1 x (hr1 x hx), hmax x hx⟩)
              rw [pg_perm hperm, pg_append, e, hch]
              omega
            walk_at "g"
            refine fin _ _ _ _ hmany ⟨by walk_at "H", by walk_at "H"⟩ (by walk_at "F") ?_ ?_
            · omega
            · omega
          · walk_at "g"
            have e : m = 1 := by omega
            have hmany : pg ns most - ↑fs.length = r.count m := by
              have e2 : r.count m = r.length := List.count_eq_length.mpr fun x hx => by
                have a1 := hmax x hx
                have a2 := h1 x (hr1 x hx)
                omega
              omega
            walk_at "g"
            refine fin _ _ _ _ hmany ⟨by walk_at "H", by walk_at "H"⟩ (by walk_at "F") ?_ ?_
            · omega
            · omega
      · walk_at "g"
        have hr0 : r = [] := List.eq_nil_of_length_eq_zero (by omega)
        subst hr0
        rw [List.append_nil] at hperm
        have hd := nodup_le hnd fun x hx => distinct_mem.mpr (hf1 x (hds x hx))
        exact q p fs k3 H3 hperm.symm hpw (by omega) (by omega) hid f3 np0 hp3
def spPoolOf (K : PySem.W.Frag) : Sp := fun vs H Q _ => ∃ (a : Addr) (ns : List Int) (n : Int), vs = [.ref a, .int n] ∧ SqL K H a (ns.map V.int) ∧ ns.length ≤ 63 ∧ 0 ≤ n ∧ n < 64 ∧ ∀ p H', Fr [] H H' → H p = none → Pool H' p 0 → Q (.ref p) H'
def spNear : Sp := fun vs H Q _ => ∃ (a : Addr) (k m : Int), vs = [.ref a, .int m] ∧ Pool H a k ∧ 0 ≤ m ∧ m ≤ 100 ∧ k < 2 ^ 38 ∧
  ∀ (p : Addr) (xs : List Int) (k' : Int) (H' : Hp), xs.length ≤ m.toNat → (∀ x ∈ xs, 1 ≤ x ∧ x ≤ 10 ^ 29) → k' ≤ k + 401 → Pool H' a k' → Fr [a] H H' → H p = none → H' p = some (.lst (xs.map V.int)) → Q (.ref p) H'
set_option maxHeartbeats 4000000 in
theorem ok_law_pool (T : Txt K mg c) : DefAt P w K mg base "_law_pool" s_law_pool 1 ["script", "at"] (spPoolOf K) := by
  have cls_HiddenBook := T.k_HiddenBook.c
  have na_HiddenBook_asked := T.na_HiddenBook_asked
  have na_HiddenBook_hidden := T.na_HiddenBook_hidden
  refine T.f_law_pool.ok sc_law_pool (fun vs H Q E h => ?_) (fun _ _ _ _ _ _ us hl => match us, hl with | [_, _], _ => rfl) (fun f cdv A outer s H vs Q E hr h => ?_)
  · obtain ⟨a, ns, n, rfl, hS, hl, n0, n1, q⟩ := h
    rfl
  · obtain ⟨a, ns, n, rfl, hS, hl, n0, n1, q⟩ := h
    refine ⟨_, (pss_cons (ps_set (i := 2) sc_law_pool.nd rfl (Or.inl rfl) pe_int)
    (pss_cons (ps_if (pt_cmpR op_lt (pv 1) (pe_callB call_lenN (by rfl) T.n_len (by decide +kernel) (pa_cons (pv 0) pa_nil)) (nomark _)) (pss_one (ps_set (i := 2) sc_law_pool.nd rfl (Or.inl rfl) (pe_ix ix_list (pv 0) (pv 1) (fun _ _ => rfl)))) pss_nil)
    (pss_one (ps_ret (pe_lst (pa_cons (pe_callB (call_max2N rfl) (by rfl) T.n_max (by decide +kernel) (pa_cons pe_int (pa_cons (pe_op op_sub (pe_callB call_absN (by rfl) T.n_abs (by decide +kernel) (pa_cons (pv 2) pa_nil)) (pe_op op_powW pe_int pe_int)) pa_nil))) (pa_cons (pe_op op_add (pe_op op_mod (pv 2) pe_int) (pe_op op_mulW pe_int (pe_op op_add (pv 1) pe_int))) (pa_cons pe_int pa_nil)))))))), ?_⟩
    refine w_start (σ' := [some (.ref a), some (.int n), none]) rfl ?_
    walk_at "g"
    refine w_lenI hS ?_
    walk_at "g"
    refine w_ite (fun h => ?_) (fun h => ?_)
    · walk_at "g"
      refine w_ixLm hS n0 h (fun cell hc => ?_)
      walk_at "g"
      exact q _ _ (by walk_at "F") (by assumption) ⟨_, _, upd_same, by omega, by omega, by omega⟩
    · walk_at "g"
      exact q _ _ (by walk_at "F") (by assumption) ⟨_, _, upd_same, by omega, by omega, by omega⟩
set_option maxHeartbeats 4000000 in
theorem ok_law_near_book (T : Txt K mg c) : DefAt P w K mg base "_law_near_book" s_law_near_book 2 ["pool", "most"] spNear := by
  have D_law_draw := ok_law_draw (P := P) (w := w) (base := base) T
  have cls_HiddenBook := T.k_HiddenBook.c
  have na_HiddenBook_asked := T.na_HiddenBook_asked
  have na_HiddenBook_hidden := T.na_HiddenBook_hidden
  refine T.f_law_near_book.ok sc_law_near_book (fun vs H Q E h => ?_) (fun _ _ _ _ _ _ us hl => match us, hl with | [_, _], _ => rfl) (fun f cdv A outer s H vs Q E hr h => ?_)
  · obtain ⟨a, k, m, rfl, hp, m0, m1, k1, q⟩ := h
    rfl
  · obtain ⟨a, k, m, rfl, hp, m0, m1, k1, q⟩ := h
    refine ⟨_, (pss_cons (ps_asg (pe_tup (pa_cons (pe_op op_add pe_int (pe_callD D_law_draw (hr.mono (by decide)) (pa_cons (pv 0) (pa_cons (pe_op op_powW pe_int pe_int) pa_nil)))) (pa_cons (pe_ix ix_list (pe_lst (pa_cons pe_int (pa_cons (pe_op op_add pe_int (pe_callD D_law_draw (hr.mono (by decide)) (pa_cons (pv 0) (pa_cons pe_int pa_nil)))) pa_nil))) (pe_callD D_law_draw (hr.mono (by decide)) (pa_cons (pv 0) (pa_cons pe_int pa_nil))) (fun _ _ => rfl)) pa_nil))) (pg_tup rfl (pgs_cons (pg_name (i := 2) sc_law_near_book.nd rfl (Or.inr rfl)) (pgs_cons (pg_name (i := 3) sc_law_near_book.nd rfl (Or.inr rfl)) pgs_nil))))
    (pss_cons (ps_set (i := 2) sc_law_near_book.nd rfl (Or.inr rfl) (pe_ix ix_list (pe_lst (pa_cons (pv 2) (pa_cons pe_int pa_nil))) (pe_callD D_law_draw (hr.mono (by decide)) (pa_cons (pv 0) (pa_cons pe_int pa_nil))) (fun _ _ => rfl)))
    (pss_one (ps_ret (pe_lc (own := [("turn", 4)]) (tt := tYes) rfl sc_law_near_book.nd (pi_range1 (by rfl) T.n_range (pa_cons (pe_callD D_law_draw (hr.mono (by decide)) (pa_cons (pv 0) (pa_cons (pe_op op_add (pv 1) pe_int) pa_nil))) pa_nil)) (blkOk_by (N := sc_law_near_book_N) (sc := defScope s_law_near_book) (by decide +kernel)) (fun _ _ _ _ _ => (pg_name (i := 4) sc_law_near_book.nd rfl (Or.inl rfl))) (fun _ _ _ _ _ => pts_nil) (fun _ _ _ _ _ => (pe_op op_add (pv 2) (pe_op op_mulW (pv 3) (pe_callD D_law_draw (hr.mono (by decide)) (pa_cons (pv 0) (pa_cons pe_int pa_nil))))))))))), ?_⟩
    refine w_start (σ' := [some (.ref a), some (.int m), none, none, none]) rfl ?_
    walk_at "g"
    rename_i n_ hn_ p1 np1 p2 np2 e1 e2 e3 e4 e5 e6 e7 e8 d1 hd1 d2 k2 H2 d20 d21 hk2 hp2 f2
    have f02 : Fr [a] H H2 := by walk_at "F"
    refine l_range (fun L i H' => ∃ (xs : List Int) (k3 : Int), Pool H' a k3 ∧ k3 ≤ k + 5 + i ∧ Fr [a] H H' ∧ H' L = some (.lst (xs.map V.int)) ∧ xs.length = i ∧ ∀ x ∈ xs, 1 ≤ x ∧ x ≤ 10 ^ 29) (fun L hL => ?_) (fun L i H' hL hi h => ?_) (fun L H' hL h => ?_)
    · exact ⟨[], k2, by walk_at "P", by omega, by walk_at "F", upd_same, rfl, by simp⟩
    · obtain ⟨xs, k3, hp3, hk3, f3, h3, hl, hx⟩ := h
      refine w_gname ⟨rfl, ?_⟩
      walk_at "g"
      rename_i r k4 H4 r0 r1 rk rp rf
      have b1 : 0 ≤ n_ * r := Int.mul_nonneg (by omega) r0
      have b2 : n_ * r ≤ 50 * 11 := Int.mul_le_mul (by omega) (by omega) r0 (by omega)
      exact ⟨_, _, by walk_at "P", by omega, by walk_at "F", upd_same, len_snoc hl, mem_snoc hx ⟨by omega, by omega⟩⟩
    · obtain ⟨xs, k3, hp3, hk3, f3, h3, hl, hx⟩ := h
      exact q L xs k3 H' (by omega) hx (by omega) hp3 f3 (by walk_at "Z") h3
theorem pw_perm_eq {xs ys : List Int} (h : xs.Perm ys) (hx : xs.Pairwise (· ≥ ·)) (hy : ys.Pairwise (· ≥ ·)) : xs = ys :=
  List.Perm.eq_of_pairwise (fun a b _ _ h1 h2 => by omega) hx hy h
def spRight : Sp := fun vs H Q _ => ∃ (a : Addr) (k : Int), vs = [.ref a] ∧ Pool H a k ∧ k < 2 ^ 37 ∧ ∀ k' H', k' ≤ k + 2000 → Pool H' a k' → Fr [a] H H' → Q (.bl true) H'
set_option maxHeartbeats 4000000 in
theorem ok_law_right (T : Txt K mg c) : DefAt P w K mg base "_law_right" s_law_right 7 ["pool"] spRight := by
  have D_law_draw := ok_law_draw (P := P) (w := w) (base := base) T
  have D_law_book := ok_law_book (P := P) (w := w) (base := base) T
  have D_law_near_book := ok_law_near_book (P := P) (w := w) (base := base) T
  have D_HiddenBook___init__ := ok_HiddenBook___init__ (P := P) (w := w) (base := base) T
  have D_HiddenBook_ask := ok_HiddenBook_ask (P := P) (w := w) (base := base) T
  have D_HiddenBook_questions := ok_HiddenBook_questions (P := P) (w := w) (base := base) T
  have D_find := ok_find (P := P) (w := w) (base := base) T
  have D_law_pages := ok_law_pages (P := P) (w := w) (base := base) T
  have cls_HiddenBook := T.k_HiddenBook.c
  have na_HiddenBook_asked := T.na_HiddenBook_asked
  have na_HiddenBook_hidden := T.na_HiddenBook_hidden
  refine T.f_law_right.ok sc_law_right (fun vs H Q E h => ?_) (fun _ _ _ _ _ _ us hl => match us, hl with | [_], _ => rfl) (fun f cdv A outer s H vs Q E hr h => ?_)
  · obtain ⟨a, k, rfl, hp, k1, q⟩ := h
    rfl
  · obtain ⟨a, k, rfl, hp, k1, q⟩ := h
    refine ⟨_, (pss_cons (ps_set (i := 1) sc_law_right.nd rfl (Or.inl rfl) (pe_ix ix_list (pe_lst (pa_cons pe_int (pa_cons pe_int pa_nil))) (pe_callD D_law_draw (hr.mono (by decide)) (pa_cons (pv 0) (pa_cons pe_int pa_nil))) (fun _ _ => rfl)))
    (pss_cons (ps_set (i := 2) sc_law_right.nd rfl (Or.inl rfl) (pe_ix ix_list (pe_lst (pa_cons pe_int (pa_cons (pe_op op_sub (pe_op op_powW pe_int pe_int) pe_int) pa_nil))) (pe_callD D_law_draw (hr.mono (by decide)) (pa_cons (pv 0) (pa_cons pe_int pa_nil))) (fun _ _ => rfl)))
    (pss_cons (ps_set (i := 3) sc_law_right.nd rfl (Or.inl rfl) (pe_ix ix_list (pe_lst (pa_cons (pe_callD D_law_book (hr.mono (by decide)) (pa_cons (pv 0) (pa_cons (pv 1) (pa_cons (pv 2) pa_nil)))) (pa_cons (pe_callD D_law_near_book (hr.mono (by decide)) (pa_cons (pv 0) (pa_cons (pv 1) pa_nil))) pa_nil))) (pe_callD D_law_draw (hr.mono (by decide)) (pa_cons (pv 0) (pa_cons pe_int pa_nil))) (fun _ _ => rfl)))
    (pss_cons (ps_set (i := 4) sc_law_right.nd rfl (Or.inl rfl) (pe_callB (cr_max rfl) (by rfl) T.n_max (by decide +kernel) (pa_cons (pe_op op_cat (pv 3) (pe_lst (pa_cons pe_int pa_nil))) pa_nil)))
    (pss_cons (ps_set (i := 5) sc_law_right.nd rfl (Or.inl rfl) (pe_ix ix_list (pe_lst (pa_cons (pv 4) (pa_cons (pe_callB (call_min2N rfl) (by rfl) T.n_min (by decide +kernel) (pa_cons (pe_op op_sub (pe_op op_powW pe_int pe_int) pe_int) (pa_cons (pe_op op_add (pv 4) (pe_callD D_law_draw (hr.mono (by decide)) (pa_cons (pv 0) (pa_cons pe_int pa_nil)))) pa_nil))) (pa_cons (pe_op op_sub (pe_op op_powW pe_int pe_int) pe_int) pa_nil)))) (pe_callD D_law_draw (hr.mono (by decide)) (pa_cons (pv 0) (pa_cons pe_int pa_nil))) (fun _ _ => rfl)))
    (pss_cons (ps_set (i := 6) sc_law_right.nd rfl (Or.inl rfl) (pe_makeD T.k_HiddenBook D_HiddenBook___init__ (hr.mono (by decide)) (pa_cons (pv 3) pa_nil)))
    (pss_cons (ps_for PassesOwn.never rfl (pi_range1 (by rfl) T.n_range (pa_cons (pe_callD D_law_draw (hr.mono (by decide)) (pa_cons (pv 0) (pa_cons pe_int pa_nil))) pa_nil)) (pg_name (i := 7) sc_law_right.nd rfl (Or.inl rfl)) (pss_one (ps_expr (pe_methD (pv 6) T.k_HiddenBook.c D_HiddenBook_ask (hr.mono (by decide)) (pa_cons (pe_op op_add pe_int (pe_callD D_law_draw (hr.mono (by decide)) (pa_cons (pv 0) (pa_cons pe_int pa_nil)))) pa_nil)))))
    (pss_cons (ps_par (i := 8) (j := 9) rfl sc_law_right.nd rfl rfl (by decide) rfl rfl (pa_cons (pe_propD (pv 6) T.k_HiddenBook.c D_HiddenBook_questions (hr.mono (by decide))) (pa_cons (pe_callBK (cr_sortedRev (b := true)) (by rfl) T.n_sorted (by decide +kernel) (pa_cons (pv 3) pa_nil) (pk_cons pe_bl pk_nil)) pa_nil)) (by rfl))
    (pss_cons (ps_set (i := 10) sc_law_right.nd rfl (Or.inl rfl) (pe_callD D_find (hr.mono (by decide)) (pa_cons (pv 6) (pa_cons (pv 5) pa_nil))))
    (pss_cons (ps_set (i := 11) sc_law_right.nd rfl (Or.inl rfl) (pe_op op_add (pe_op op_mulW pe_int (pe_lenSetJ (by rfl) T.n_len (by rfl) T.n_set (pv 3))) pe_int))
    (pss_cons (ps_if (PW.pt (pw_or (pt_not (pt_val (pe_callB call_isi (by rfl) T.n_isinstance (by decide +kernel) (pa_cons (pv 10) (pa_cons (pe_bltn (v := .ty "list") (u := .type "list") (by rfl) T.n_list (by decide +kernel) rfl) pa_nil))))) (pw_or (pt_cmpR (op_neD hr.units) (pv 10) (pv 9) (nomark _)) (pw_or1 (pt_not (pt_chain op_le op_le (pv 8) (pe_propD (pv 6) T.k_HiddenBook.c D_HiddenBook_questions (hr.mono (by decide))) (pe_op op_add (pv 8) (pv 11)))))))) (pss_one (ps_ret pe_bl)) pss_nil)
    (pss_cons (ps_expr (pe_bm PySem.F.plainAttrs_list PySem.F.slot_list_append PySem.F.type_list_append mt_append (pv 10) (pa_cons pe_int pa_nil)))
    (pss_cons (ps_set (i := 8) sc_law_right.nd rfl (Or.inl rfl) (pe_propD (pv 6) T.k_HiddenBook.c D_HiddenBook_questions (hr.mono (by decide))))
    (pss_cons (ps_if (PW.pt (pw_or (pt_cmpR (op_neD hr.units) (pe_callKD D_find (hr.mono (by decide)) (pk_cons (pv 5) (pk_cons (pv 6) pk_nil)) kb_find_longest_hidden) (pv 9) (nomark _)) (pw_or1 (pt_cmpR op_gt (pe_propD (pv 6) T.k_HiddenBook.c D_HiddenBook_questions (hr.mono (by decide))) (pe_op op_add (pv 8) (pv 11)) (nomark _))))) (pss_one (ps_ret pe_bl)) pss_nil)
    (pss_cons (ps_set (i := 12) sc_law_right.nd rfl (Or.inl rfl) (pe_op op_add pe_int (pe_callD D_law_draw (hr.mono (by decide)) (pa_cons (pv 0) (pa_cons pe_int pa_nil)))))
    (pss_one (ps_ret (pe_cmpR op_eq (pe_methD (pv 6) T.k_HiddenBook.c D_HiddenBook_ask (hr.mono (by decide)) (pa_cons (pv 12) pa_nil)) (pe_callD D_law_pages (hr.mono (by decide)) (pa_cons (pv 3) (pa_cons (pv 12) pa_nil))) (nomark _))))))))))))))))))), ?_⟩
    refine w_start (σ' := [some (.ref a), none, none, none, none, none, none, none, none, none, none, none, none]) rfl ?_
    walk_at "g"
    rename_i p1 np1 r1 k2 H2 _ _ hk2 hp2 f2 few hfew p2 np2 r3 k3 H3 _ _ hk3 hp3 f3 far hfar
    refine ⟨a, _, few, far, rfl, hp3, by omega, by omega, by omega, by omega, by omega, fun b1 xs1 k4 H4 l1 x1 hk4 hp4 f4 n4 h4 => ?_⟩
    walk_at "g"
    refine ⟨a, _, few, rfl, hp4, by omega, by omega, by omega, fun b2 xs2 k5 H5 l2 x2 hk5 hp5 f5 n5 h5 => ?_⟩
    walk_at "g"
    rename_i p3 np3 r6 k6 H6 r60 r61 hk6 hp6 f6
    refine w_ixAny (xs := [.ref b1, .ref b2]) (SqL.of (by walk_at "H")) r60 r61 (fun v hv => ?_)
    obtain ⟨b, ns, rfl, hb, hnl, hx, hba⟩ : ∃ (b : Addr) (ns : List Int), v = .ref b ∧ H6 b = some (.lst (ns.map V.int)) ∧ ns.length ≤ 40 ∧ (∀ x ∈ ns, 1 ≤ x ∧ x ≤ 10 ^ 30 - 1) ∧ H b = none := by
      simp only [List.mem_cons, List.not_mem_nil, or_false] at hv
      rcases hv with rfl | rfl
      · exact ⟨b1, xs1, rfl, by walk_at "H", by omega, fun x hx => by have := x1 x hx; omega, by walk_at "Z"⟩
      · exact ⟨b2, xs2, rfl, by walk_at "H", by omega, fun x hx => by have := x2 x hx; omega, by walk_at "Z"⟩
    have f06 : Fr [a] H H6 := by walk_at "F"
    clear hv
    walk_at "g"
    rename_i p4 np4 p5 np5 m hm hle r7 k7 H7 r70 r71 hk7 hp7 f7 p6 np6 r8 k8 H8 r80 r81 hk8 hp8 f8 bd hbd
    have hmm : 1 ≤ m ∧ m ≤ 10 ^ 30 - 1 := by
      rcases List.mem_append.mp hm with z | z
      · exact hx m z
      · rw [List.mem_singleton.mp z]
        omega
    have hbd2 : m ≤ bd ∧ bd ≤ 10 ^ 30 - 1 := by
      rcases hbd with e | e | e
      · omega
      · split at e <;> omega
      · omega
    have hle2 : ∀ x ∈ ns, x ≤ bd := fun x hx => by
      have := hle x (List.mem_append_left _ hx)
      omega
    intro x dx nx ndx nex
    refine ⟨x, dx, b, ns, rfl, upd_same, by walk_at "H", by omega, fun y hy => (hx y hy).1, fun l H9 hid nl f9 => ⟨rfl, ?_⟩⟩
    have hp9 : Pool H9 a k8 := by walk_at "P"
    have f69 : Fr [a] H6 H9 := by walk_at "F"
    have hx6 : H6 x = none := by walk_at "Z"
    have hxa : x ≠ a := Pool.ne hp8 nx
    have hdl := distinct_le ns
    have hla : l ≠ a := Pool.ne (hp8.make (u := .own x) (o := .ins c.HiddenBook dx []) ndx nx) nl
    clear hp6 hp7 hp8 f7 f8 f9 np4 np5 np6 nl
    walk_at "g"
    rename_i r10 k10 H10 _ _ hk10 hp10 f10
    have hid10 := hid.fr1 f10 hxa hla
    refine f_range (fun i σ' H' => ∃ (v : Option V) (k11 kk : Int), σ' = [some (.ref a), some (.int few), some (.int far), some (.ref b), some (.int m), some (.int bd), some (.ref x), v, none, none, none, none, none] ∧ Pool H' a k11 ∧ k11 ≤ k10 + i ∧ Hid c H' x l dx ns kk ∧ Fr [a] H6 H') ?_ ?_ ?_
    · exact ⟨none, k10, 0, rfl, hp10, by omega, hid10, by walk_at "F"⟩
    · rintro i σ' H' hi ⟨v, k11, kk, rfl, hp11, hk11, hid11, f11⟩
      obtain ⟨hid111, hid112⟩ := id hid11
      walk_at "g"
      rename_i r12 k12 H12 _ _ hk12 hp12 f12
      refine ⟨x, l, dx, ns, kk, _, rfl, hid11.fr1 f12 hxa hla, by omega, by omega, by omega, fun H13 hid13 f13 => ?_⟩
      have hp13 : Pool H13 a k12 := hp12.fr f13 (nn2 hxa.symm)
      exact ⟨_, k12, kk + 1, rfl, hp13, by omega, hid13, by walk_at "F"⟩
    · rintro σ' H' ⟨v, k11, kk, rfl, hp11, hk11, hid11, f11⟩
      obtain ⟨hid111, hid112⟩ := id hid11
      have hb' : H' b = some (.lst (ns.map V.int)) := by walk_at "H"
      walk_at "g"
      refine ⟨x, l, dx, ns, kk, rfl, hid11, ?_⟩
      walk_at "g"
      rename_i due p7 hperm hord np7
      have hb7 := at_upd (p := p7) (u := .lst (due.map V.int)) hb' np7
      refine ⟨x, l, dx, ns, kk, bd, rfl, ⟨by walk_at "H", by walk_at "H"⟩, by omega, fun y hy => (hx y hy).1, hle2, by omega, by omega, fun p8 fs k14 H14 fperm fpw fk1 fk2 hid14 f14 np8 h14 => ?_⟩
      have hfd : fs = due := pw_perm_eq (fperm.trans hperm.symm) fpw hord
      subst hfd
      obtain ⟨hid141, hid142⟩ := id hid14
      walk_at "g"
      have hfl := fperm.length_eq
      have hq1 : k14 ≤ kk + (110 * ↑(distinct ns).length + 10) := by omega
      refine ⟨x, l, dx, ns, k14, rfl, hid14, ?_⟩
      walk_at "g"
      refine ⟨x, l, dx, ns, k14, rfl, ⟨by walk_at "H", by walk_at "H"⟩, ?_⟩
      walk_at "g"
      have hid15 : Hid c (upd H14 p8 (.lst ((fs ++ [1]).map V.int))) x l dx ns k14 := ⟨by walk_at "H", by walk_at "H"⟩
      have hp7 : H14 p7 = some (.lst (fs.map V.int)) := by walk_at "H"
      have hp78 : p7 ≠ p8 := by walk_at "N"
      refine ⟨x, l, dx, ns, k14, bd, rfl, hid15, by omega, fun y hy => (hx y hy).1, hle2, by omega, by omega, fun p9 gs k16 H16 gperm gpw gk1 gk2 hid16 f16 np9 h16 => ?_⟩
      have hgd : gs = fs := pw_perm_eq (gperm.trans hperm.symm) gpw hord
      subst hgd
      have hp7x : p7 ≠ x := by walk_at "N"
      have h167 : H16 p7 = some (.lst (gs.map V.int)) := f16.at (nn2 hp7x) (by rw [upd_ne hp78]; exact hp7)
      obtain ⟨hid161, hid162⟩ := id hid16
      have hq2 : ¬ k16 > k14 + (110 * ↑(distinct ns).length + 10) := by omega
      walk_at "g"
      refine ⟨x, l, dx, ns, k16, rfl, hid16, ?_⟩
      walk_at "g"
      rename_i r17 k17 H17 _ _ hk17 hp17 f17
      have hbna : b ≠ a := Pool.ne hp hba
      refine ⟨x, l, dx, ns, k16, _, rfl, hid16.fr1 f17 hxa hla, by omega, by omega, by omega, fun H18 hid18 f18 => ?_⟩
      have hp18 : Pool H18 a k17 := hp17.fr f18 (nn2 hxa.symm)
      have f618 : Fr [a] H6 H18 := by walk_at "F"
      walk_at "g"
      refine ⟨b, ns, _, rfl, f618.at (nn2 hbna) hb, by omega, by omega, by omega, fun H19 f19 => ?_⟩
      walk_at "g"
      show Q (V.bl (decide (pg ns (1 + r17) = pg ns (1 + r17)))) H19
      rw [decide_eq_true rfl]
      exact q k17 H19 (by omega) (hp18.fr f19 List.not_mem_nil) ((f06.trans f618).then f19)
set_option maxHeartbeats 4000000 in
theorem ok_law (T : Txt K mg c) : DefAt P w K mg base "law" s_law 8 ["script"] (spLaw K) := by
  have D_law_pool := ok_law_pool (P := P) (w := w) (base := base) T
  have D_law_right := ok_law_right (P := P) (w := w) (base := base) T
  have D_HiddenBook___init__ := ok_HiddenBook___init__ (P := P) (w := w) (base := base) T
  have D_find := ok_find (P := P) (w := w) (base := base) T
  have cls_HiddenBook := T.k_HiddenBook.c
  have na_HiddenBook_asked := T.na_HiddenBook_asked
  have na_HiddenBook_hidden := T.na_HiddenBook_hidden
  refine T.f_law.ok sc_law (fun vs H Q E h => ?_) (fun _ _ _ _ _ _ us hl => match us, hl with | [_], _ => rfl) (fun f cdv A outer s H vs Q E hr h => ?_)
  · obtain ⟨a, ns, rfl, hS, hl, q⟩ := h
    rfl
  · obtain ⟨a, ns, rfl, hS, hl, q⟩ := h
    refine ⟨_, (pss_cons (ps_for PassesOwn.never rfl (pi_range1 (by rfl) T.n_range (pa_cons (pe_callB (call_max2N rfl) (by rfl) T.n_max (by decide +kernel) (pa_cons pe_int (pa_cons (pe_callB (call_min2N rfl) (by rfl) T.n_min (by decide +kernel) (pa_cons pe_int (pa_cons (pe_callB call_lenN (by rfl) T.n_len (by decide +kernel) (pa_cons (pv 0) pa_nil)) pa_nil))) pa_nil))) pa_nil)) (pg_name (i := 1) sc_law.nd rfl (Or.inl rfl)) (pss_cons (ps_set (i := 2) sc_law.nd rfl (Or.inl rfl) (pe_callD D_law_pool (hr.mono (by decide)) (pa_cons (pv 0) (pa_cons (pv 1) pa_nil))))
    (pss_one (ps_for PassesOwn.never rfl (pi_range1 (by rfl) T.n_range (pa_cons pe_int pa_nil)) (pg_name (i := 3) sc_law.nd rfl (Or.inl rfl)) (pss_one (ps_if (pt_not (pt_val (pe_callD D_law_right (hr.mono (by decide)) (pa_cons (pv 2) pa_nil)))) (pss_one (ps_ret pe_bl)) pss_nil))))))
    (pss_cons (ps_if (PW.pt (pw_or (pt_cmpR (op_neD hr.units) (pe_callD D_find (hr.mono (by decide)) (pa_cons (pe_makeD T.k_HiddenBook D_HiddenBook___init__ (hr.mono (by decide)) (pa_cons (pe_lst pa_nil) pa_nil)) (pa_cons pe_int pa_nil))) (pe_lst pa_nil) (nomark _)) (pw_or1 (pt_cmpR (op_neD hr.units) (pe_callD D_find (hr.mono (by decide)) (pa_cons (pe_makeD T.k_HiddenBook D_HiddenBook___init__ (hr.mono (by decide)) (pa_cons (pe_lst (pa_cons pe_int (pa_cons pe_int pa_nil))) pa_nil)) (pa_cons pe_int pa_nil))) (pe_lst (pa_cons pe_int (pa_cons pe_int pa_nil))) (nomark _))))) (pss_one (ps_ret pe_bl)) pss_nil)
    (pss_one (ps_ret (pe_cmpR (op_eqD hr.units) (pe_callD D_find (hr.mono (by decide)) (pa_cons (pe_makeD T.k_HiddenBook D_HiddenBook___init__ (hr.mono (by decide)) (pa_cons (pe_lst (pa_cons pe_int (pa_cons (pe_op op_powW pe_int pe_int) (pa_cons pe_int pa_nil)))) pa_nil)) (pa_cons (pe_op op_powW pe_int pe_int) pa_nil))) (pe_lst (pa_cons (pe_op op_powW pe_int pe_int) (pa_cons pe_int (pa_cons pe_int pa_nil)))) (nomark _)))))), ?_⟩
    refine w_start (σ' := [some (.ref a), none, none, none]) rfl ?_
    walk_at "g"
    refine w_lenI hS ?_
    walk_at "g"
    refine f_range (fun i σ' H' => ∃ u v t : Option V, σ' = [some (.ref a), u, v, t] ∧ Fr [] H H') ⟨_, _, _, rfl, Fr.refl⟩ ?_ ?_
    · rintro i σ' H' hi ⟨u, v, t, rfl, f1⟩
      have hi2 : i < 64 := by split at hi <;> split at hi <;> omega
      walk_at "g"
      refine ⟨a, ns, _, rfl, f1.seqL (by simp) hS, hl, by omega, by omega, fun p H2 f2 np hp => ?_⟩
      walk_at "g"
      refine f_range (fun j σ' H3 => ∃ (u : Option V) (k : Int), σ' = [some (.ref a), some (.int (0 + ↑i)), some (.ref p), u] ∧ Pool H3 p k ∧ k ≤ 2000 * j ∧ Fr [] H H3) ⟨_, 0, rfl, hp, by omega, f1.trans f2⟩ ?_ ?_
      · rintro j σ' H3 hj ⟨u, k, rfl, hp3, hk, f3⟩
        have hj2 : j < 4 := by omega
        walk_at "g"
        refine ⟨p, k, rfl, hp3, by omega, fun k' H4 hk' hp4 f4 => ?_⟩
        walk_at "g"
        exact ⟨_, k', rfl, hp4, by omega, f3.loc (f1.free (by simp) np) f4⟩
      · rintro σ' H3 ⟨u, k, rfl, _, _, f3⟩
        exact ⟨_, _, _, rfl, f3⟩
    · rintro σ' H' ⟨u, v, t, rfl, f1⟩
      walk_at "g"
      rename_i p0 np0
      intro x dx nx ndx nex
      refine ⟨x, dx, p0, [], rfl, upd_same, at_make (o := .lst []) upd_same ndx nx, by simp, by simp, fun l H3 hid nl f3 => ⟨rfl, ?_⟩⟩
      walk_at "g"
      refine ⟨x, l, dx, [], 0, 1, rfl, hid, by simp, by simp, by simp, by omega, by omega, fun p1 fs k4 H4 hp hpw _ _ hid4 f4 np1 h4 => ?_⟩
      have e := pw_perm_eq hp hpw .nil
      subst e
      clear hid hid4 f3 f4 nl
      walk_at "g"
      rename_i p2 np2 p3 np3
      intro x dx nx ndx nex
      refine ⟨x, dx, p3, [1, 1], rfl, upd_same, at_make (o := .lst ([1, 1].map V.int)) upd_same ndx nx, by simp, by simp, fun l H5 hid nl f5 => ⟨rfl, ?_⟩⟩
      walk_at "g"
      refine ⟨x, l, dx, [1, 1], 0, 1, rfl, hid, by simp, by simp, by simp, by omega, by omega, fun p1 fs k4 H6 hp hpw _ _ hid4 f4 np1 h4 => ?_⟩
      have e := pw_perm_eq hp hpw (ys := [1, 1]) (by simp)
      subst e
      clear hid hid4 f5 f4 nl
      walk_at "g"
      rename_i p5 np5
      refine w_neLI (ns := [1, 1]) (ms := [1, 1]) (SqL.of (at_upd h4 np5)) (SqL.of upd_same) ?_
      walk_at "g"
      rename_i p6 np6
      intro x dx nx ndx nex
      refine ⟨x, dx, p6, [3, 10 ^ 20, 3], rfl, upd_same, at_make (o := .lst ([3, 10 ^ 20, 3].map V.int)) upd_same ndx nx, by simp, by simp, fun l H5 hid nl f5 => ⟨rfl, ?_⟩⟩
      walk_at "g"
      refine ⟨x, l, dx, [3, 10 ^ 20, 3], 0, 10 ^ 25, rfl, hid, by simp, by simp, by simp, by omega, by omega, fun p1 fs k4 H6 hp hpw _ _ hid4 f4 np1 h4 => ?_⟩
      have e := pw_perm_eq (hp.trans (.swap _ _ _)) hpw (ys := [10 ^ 20, 3, 3]) (by simp)
      subst e
      clear hid hid4 f5 f4 nl
      walk_at "g"
      rename_i p7 np7
      refine w_eqLI (ns := [10 ^ 20, 3, 3]) (ms := [10 ^ 20, 3, 3]) (SqL.of (at_upd h4 np7)) (SqL.of upd_same) ?_
      exact q _
end
/-! ### the end -/
theorem all_mk {l : PySem.W.OpenLaw} {w : World} {K : PySem.W.Frag} {h : Heap} {mg : Str → Option Value} {fa : Addr} (X : K.In h) (G : h.Ns mainGlobals mg) (hfa : mg "law" = some (.ref fa))
    {C_HiddenBook : Addr}
    {f1 : Addr} {od1 an1 : Option Addr} {sl1 : Array (Option Value)} {oc1 kV1 dc1 pm1 cd1 ct1 : Value}
    {f2 : Addr} {od2 an2 : Option Addr} {sl2 : Array (Option Value)} {oc2 kV2 dc2 pm2 cd2 ct2 : Value}
    {f3 : Addr} {od3 an3 : Option Addr} {sl3 : Array (Option Value)} {oc3 kV3 dc3 pm3 cd3 ct3 : Value}
    {f4 : Addr} {od4 an4 : Option Addr} {sl4 : Array (Option Value)} {oc4 kV4 dc4 pm4 cd4 ct4 : Value}
    {f5 : Addr} {od5 an5 : Option Addr} {sl5 : Array (Option Value)} {oc5 kV5 dc5 pm5 cd5 ct5 : Value}
    {f6 : Addr} {od6 an6 : Option Addr} {sl6 : Array (Option Value)} {oc6 kV6 dc6 pm6 cd6 ct6 : Value}
    {f7 : Addr} {od7 an7 : Option Addr} {sl7 : Array (Option Value)} {oc7 kV7 dc7 pm7 cd7 ct7 : Value}
    {f8 : Addr} {od8 an8 : Option Addr} {sl8 : Array (Option Value)} {oc8 kV8 dc8 pm8 cd8 ct8 : Value}
    {f9 : Addr} {od9 an9 : Option Addr} {sl9 : Array (Option Value)} {oc9 kV9 dc9 pm9 cd9 ct9 : Value}
    {f10 : Addr} {od10 an10 : Option Addr} {sl10 : Array (Option Value)} {oc10 kV10 dc10 pm10 cd10 ct10 : Value}
    {q10 : Addr} {r10 : List Value}
    {f11 : Addr} {od11 an11 : Option Addr} {sl11 : Array (Option Value)} {oc11 kV11 dc11 pm11 cd11 ct11 : Value}
    {f12 : Addr} {od12 an12 : Option Addr} {sl12 : Array (Option Value)} {oc12 kV12 dc12 pm12 cd12 ct12 : Value}
    {f13 : Addr} {od13 an13 : Option Addr} {sl13 : Array (Option Value)} {oc13 kV13 dc13 pm13 cd13 ct13 : Value}
    {f14 : Addr} {od14 an14 : Option Addr} {sl14 : Array (Option Value)} {oc14 kV14 dc14 pm14 cd14 ct14 : Value}
    {f15 : Addr} {od15 an15 : Option Addr} {sl15 : Array (Option Value)} {oc15 kV15 dc15 pm15 cd15 ct15 : Value}
    {f16 : Addr} {od16 an16 : Option Addr} {sl16 : Array (Option Value)} {oc16 kV16 dc16 pm16 cd16 ct16 : Value}
    {f17 : Addr} {od17 an17 : Option Addr} {sl17 : Array (Option Value)} {oc17 kV17 dc17 pm17 cd17 ct17 : Value}
    {f18 : Addr} {od18 an18 : Option Addr} {sl18 : Array (Option Value)} {oc18 kV18 dc18 pm18 cd18 ct18 : Value}
    (aC_HiddenBook : PySem.W.nsIn K mainGlobals "HiddenBook" = some (some (.ref C_HiddenBook)))
    (a1 : PySem.W.nsIn K mainGlobals "_law_draw" = some (some (.ref f1)))
    (l1 : K.lookup f1 = some ⟨oc1, od1, .func (PySem.W.fnOf "_law_draw" "_law_draw" (defArgs s_law_draw) (defBody s_law_draw) (defScope s_law_draw) .none kV1 dc1 pm1 an1 cd1 ct1), sl1⟩)
    (c1 : PySem.W.codeIn K cd1 "_law_draw" = true)
    (k1 : PySem.W.keepIn K (.ref f1) = true)
    (a2 : PySem.W.nsIn K mainGlobals "_law_length" = some (some (.ref f2)))
    (l2 : K.lookup f2 = some ⟨oc2, od2, .func (PySem.W.fnOf "_law_length" "_law_length" (defArgs s_law_length) (defBody s_law_length) (defScope s_law_length) .none kV2 dc2 pm2 an2 cd2 ct2), sl2⟩)
    (c2 : PySem.W.codeIn K cd2 "_law_length" = true)
    (k2 : PySem.W.keepIn K (.ref f2) = true)
    (a3 : PySem.W.nsIn K mainGlobals "_law_book" = some (some (.ref f3)))
    (l3 : K.lookup f3 = some ⟨oc3, od3, .func (PySem.W.fnOf "_law_book" "_law_book" (defArgs s_law_book) (defBody s_law_book) (defScope s_law_book) .none kV3 dc3 pm3 an3 cd3 ct3), sl3⟩)
    (c3 : PySem.W.codeIn K cd3 "_law_book" = true)
    (k3 : PySem.W.keepIn K (.ref f3) = true)
    (a4 : PySem.W.nsIn K mainGlobals "_law_pages" = some (some (.ref f4)))
    (l4 : K.lookup f4 = some ⟨oc4, od4, .func (PySem.W.fnOf "_law_pages" "_law_pages" (defArgs s_law_pages) (defBody s_law_pages) (defScope s_law_pages) .none kV4 dc4 pm4 an4 cd4 ct4), sl4⟩)
    (c4 : PySem.W.codeIn K cd4 "_law_pages" = true)
    (k4 : PySem.W.keepIn K (.ref f4) = true)
    (a5 : PySem.W.nsIn K mainGlobals "chapter_pages" = some (some (.ref f5)))
    (l5 : K.lookup f5 = some ⟨oc5, od5, .func (PySem.W.fnOf "chapter_pages" "chapter_pages" (defArgs s_chapter_pages) (defBody s_chapter_pages) (defScope s_chapter_pages) .none kV5 dc5 pm5 an5 cd5 ct5), sl5⟩)
    (c5 : PySem.W.codeIn K cd5 "chapter_pages" = true)
    (k5 : PySem.W.keepIn K (.ref f5) = true)
    (a6 : PySem.W.nsIn K mainGlobals "count_pages" = some (some (.ref f6)))
    (l6 : K.lookup f6 = some ⟨oc6, od6, .func (PySem.W.fnOf "count_pages" "count_pages" (defArgs s_count_pages) (defBody s_count_pages) (defScope s_count_pages) .none kV6 dc6 pm6 an6 cd6 ct6), sl6⟩)
    (c6 : PySem.W.codeIn K cd6 "count_pages" = true)
    (k6 : PySem.W.keepIn K (.ref f6) = true)
    (a7 : PySem.W.nsIn K mainGlobals "check_book" = some (some (.ref f7)))
    (l7 : K.lookup f7 = some ⟨oc7, od7, .func (PySem.W.fnOf "check_book" "check_book" (defArgs s_check_book) (defBody s_check_book) (defScope s_check_book) .none kV7 dc7 pm7 an7 cd7 ct7), sl7⟩)
    (c7 : PySem.W.codeIn K cd7 "check_book" = true)
    (k7 : PySem.W.keepIn K (.ref f7) = true)
    (a8 : PySem.W.nsIn K mainGlobals "check_size" = some (some (.ref f8)))
    (l8 : K.lookup f8 = some ⟨oc8, od8, .func (PySem.W.fnOf "check_size" "check_size" (defArgs s_check_size) (defBody s_check_size) (defScope s_check_size) .none kV8 dc8 pm8 an8 cd8 ct8), sl8⟩)
    (c8 : PySem.W.codeIn K cd8 "check_size" = true)
    (k8 : PySem.W.keepIn K (.ref f8) = true)
    (a9 : PySem.W.findIn K (.ref C_HiddenBook) "__init__" = some (some (.ref f9)))
    (i9 : PySem.W.isFn K (.ref f9) = true)
    (l9 : K.lookup f9 = some ⟨oc9, od9, .func (PySem.W.fnOf "__init__" "HiddenBook.__init__" (defArgs s_HiddenBook___init__) (defBody s_HiddenBook___init__) (defScope s_HiddenBook___init__) .none kV9 dc9 pm9 an9 cd9 ct9), sl9⟩)
    (c9 : PySem.W.codeIn K cd9 "HiddenBook.__init__" = true)
    (k9 : PySem.W.keepIn K (.ref f9) = true)
    (a10 : PySem.W.findIn K (.ref C_HiddenBook) "questions" = some (some (.ref q10)))
    (g10 : PySem.W.specialIn K (.ref q10) "__get__" = some (some (.builtin "property.__get__")))
    (t10 : PySem.W.takesIn K (.ref q10) = some true)
    (r10_ : PySem.W.recIn K q10 "property" = some (.ref f10 :: r10))
    (l10 : K.lookup f10 = some ⟨oc10, od10, .func (PySem.W.fnOf "questions" "HiddenBook.questions" (defArgs s_HiddenBook_questions) (defBody s_HiddenBook_questions) (defScope s_HiddenBook_questions) .none kV10 dc10 pm10 an10 cd10 ct10), sl10⟩)
    (c10 : PySem.W.codeIn K cd10 "HiddenBook.questions" = true)
    (k10 : PySem.W.keepIn K (.ref f10) = true)
    (a11 : PySem.W.findIn K (.ref C_HiddenBook) "ask" = some (some (.ref f11)))
    (i11 : PySem.W.isFn K (.ref f11) = true)
    (l11 : K.lookup f11 = some ⟨oc11, od11, .func (PySem.W.fnOf "ask" "HiddenBook.ask" (defArgs s_HiddenBook_ask) (defBody s_HiddenBook_ask) (defScope s_HiddenBook_ask) .none kV11 dc11 pm11 an11 cd11 ct11), sl11⟩)
    (c11 : PySem.W.codeIn K cd11 "HiddenBook.ask" = true)
    (k11 : PySem.W.keepIn K (.ref f11) = true)
    (a12 : PySem.W.nsIn K mainGlobals "are_greatest" = some (some (.ref f12)))
    (l12 : K.lookup f12 = some ⟨oc12, od12, .func (PySem.W.fnOf "are_greatest" "are_greatest" (defArgs s_are_greatest) (defBody s_are_greatest) (defScope s_are_greatest) .none kV12 dc12 pm12 an12 cd12 ct12), sl12⟩)
    (c12 : PySem.W.codeIn K cd12 "are_greatest" = true)
    (k12 : PySem.W.keepIn K (.ref f12) = true)
    (a13 : PySem.W.nsIn K mainGlobals "next_length" = some (some (.ref f13)))
    (l13 : K.lookup f13 = some ⟨oc13, od13, .func (PySem.W.fnOf "next_length" "next_length" (defArgs s_next_length) (defBody s_next_length) (defScope s_next_length) .none kV13 dc13 pm13 an13 cd13 ct13), sl13⟩)
    (c13 : PySem.W.codeIn K cd13 "next_length" = true)
    (k13 : PySem.W.keepIn K (.ref f13) = true)
    (a14 : PySem.W.nsIn K mainGlobals "find" = some (some (.ref f14)))
    (l14 : K.lookup f14 = some ⟨oc14, od14, .func (PySem.W.fnOf "find" "find" (defArgs s_find) (defBody s_find) (defScope s_find) .none kV14 dc14 pm14 an14 cd14 ct14), sl14⟩)
    (c14 : PySem.W.codeIn K cd14 "find" = true)
    (k14 : PySem.W.keepIn K (.ref f14) = true)
    (a15 : PySem.W.nsIn K mainGlobals "_law_pool" = some (some (.ref f15)))
    (l15 : K.lookup f15 = some ⟨oc15, od15, .func (PySem.W.fnOf "_law_pool" "_law_pool" (defArgs s_law_pool) (defBody s_law_pool) (defScope s_law_pool) .none kV15 dc15 pm15 an15 cd15 ct15), sl15⟩)
    (c15 : PySem.W.codeIn K cd15 "_law_pool" = true)
    (k15 : PySem.W.keepIn K (.ref f15) = true)
    (a16 : PySem.W.nsIn K mainGlobals "_law_near_book" = some (some (.ref f16)))
    (l16 : K.lookup f16 = some ⟨oc16, od16, .func (PySem.W.fnOf "_law_near_book" "_law_near_book" (defArgs s_law_near_book) (defBody s_law_near_book) (defScope s_law_near_book) .none kV16 dc16 pm16 an16 cd16 ct16), sl16⟩)
    (c16 : PySem.W.codeIn K cd16 "_law_near_book" = true)
    (k16 : PySem.W.keepIn K (.ref f16) = true)
    (a17 : PySem.W.nsIn K mainGlobals "_law_right" = some (some (.ref f17)))
    (l17 : K.lookup f17 = some ⟨oc17, od17, .func (PySem.W.fnOf "_law_right" "_law_right" (defArgs s_law_right) (defBody s_law_right) (defScope s_law_right) .none kV17 dc17 pm17 an17 cd17 ct17), sl17⟩)
    (c17 : PySem.W.codeIn K cd17 "_law_right" = true)
    (k17 : PySem.W.keepIn K (.ref f17) = true)
    (a18 : PySem.W.nsIn K mainGlobals "law" = some (some (.ref f18)))
    (l18 : K.lookup f18 = some ⟨oc18, od18, .func (PySem.W.fnOf "law" "law" (defArgs s_law) (defBody s_law) (defScope s_law) .none kV18 dc18 pm18 an18 cd18 ct18), sl18⟩)
    (c18 : PySem.W.codeIn K cd18 "law" = true)
    (k18 : PySem.W.keepIn K (.ref f18) = true)
    (z_abs : PySem.W.nsIn K mainGlobals "abs" = some none)
    (z_enumerate : PySem.W.nsIn K mainGlobals "enumerate" = some none)
    (z_isinstance : PySem.W.nsIn K mainGlobals "isinstance" = some none)
    (z_len : PySem.W.nsIn K mainGlobals "len" = some none)
    (z_list : PySem.W.nsIn K mainGlobals "list" = some none)
    (z_max : PySem.W.nsIn K mainGlobals "max" = some none)
    (z_min : PySem.W.nsIn K mainGlobals "min" = some none)
    (z_range : PySem.W.nsIn K mainGlobals "range" = some none)
    (z_set : PySem.W.nsIn K mainGlobals "set" = some none)
    (z_sorted : PySem.W.nsIn K mainGlobals "sorted" = some none)
    (z_sum : PySem.W.nsIn K mainGlobals "sum" = some none)
    (pg_HiddenBook : PySem.W.plainGet K C_HiddenBook Str.empty = true)
    (hd_HiddenBook : PySem.W.hasDictIn K C_HiddenBook = true)
    (po_HiddenBook : PySem.W.plainOver K C_HiddenBook = true)
    (sa_HiddenBook : PySem.W.findIn K (.ref C_HiddenBook) "__setattr__" = some (some (.builtin "object.__setattr__")))
    (mk_HiddenBook : PySem.W.makesIn K C_HiddenBook = true)
    (kc_HiddenBook : PySem.W.keepIn K (.ref C_HiddenBook) = true)
    (na_HiddenBook_asked : PySem.W.findIn K (.ref C_HiddenBook) "asked" = some none)
    (na_HiddenBook_hidden : PySem.W.findIn K (.ref C_HiddenBook) "hidden" = some none) :
    ∃ fd : FuncData, (∀ (s : Shared) (v : Value), BindsTo s fd ⟨[v], []⟩ [("script", v)]) ∧ ∀ base : Heap, K.In base → base.Ns mainGlobals mg → FnOk l.prog w K mg base CX0 8 fa fd ["script"] (spLaw K) := by
  have T : Txt K mg ⟨C_HiddenBook, ()⟩ := ⟨trivial,
    PySem.W.mg_none_of X G z_abs,
    PySem.W.mg_none_of X G z_enumerate,
    PySem.W.mg_none_of X G z_isinstance,
    PySem.W.mg_none_of X G z_len,
    PySem.W.mg_none_of X G z_list,
    PySem.W.mg_none_of X G z_max,
    PySem.W.mg_none_of X G z_min,
    PySem.W.mg_none_of X G z_range,
    PySem.W.mg_none_of X G z_set,
    PySem.W.mg_none_of X G z_sorted,
    PySem.W.mg_none_of X G z_sum,
    ⟨PySem.W.mg_of X G aC_HiddenBook, ⟨pg_HiddenBook, hd_HiddenBook, po_HiddenBook, sa_HiddenBook⟩, mk_HiddenBook, kc_HiddenBook⟩,
    na_HiddenBook_asked,
    na_HiddenBook_hidden,
    ⟨⟨_, _, PySem.W.mg_of X G a1, fun_mk (st := s_law_draw) l1 c1 k1⟩⟩,
    ⟨⟨_, _, PySem.W.mg_of X G a2, fun_mk (st := s_law_length) l2 c2 k2⟩⟩,
    ⟨⟨_, _, PySem.W.mg_of X G a3, fun_mk (st := s_law_book) l3 c3 k3⟩⟩,
    ⟨⟨_, _, PySem.W.mg_of X G a4, fun_mk (st := s_law_pages) l4 c4 k4⟩⟩,
    ⟨⟨_, _, PySem.W.mg_of X G a5, fun_mk (st := s_chapter_pages) l5 c5 k5⟩⟩,
    ⟨⟨_, _, PySem.W.mg_of X G a6, fun_mk (st := s_count_pages) l6 c6 k6⟩⟩,
    ⟨⟨_, _, PySem.W.mg_of X G a7, fun_mk (st := s_check_book) l7 c7 k7⟩⟩,
    ⟨⟨_, _, PySem.W.mg_of X G a8, fun_mk (st := s_check_size) l8 c8 k8⟩⟩,
    ⟨⟨_, _, ⟨a9, i9, k9⟩, fun_mk (st := s_HiddenBook___init__) l9 c9 k9⟩⟩,
    ⟨⟨_, _, _, ⟨a10, g10, t10, ⟨_, r10_⟩⟩, fun_mk (st := s_HiddenBook_questions) l10 c10 k10⟩⟩,
    ⟨⟨_, _, ⟨a11, i11, k11⟩, fun_mk (st := s_HiddenBook_ask) l11 c11 k11⟩⟩,
    ⟨⟨_, _, PySem.W.mg_of X G a12, fun_mk (st := s_are_greatest) l12 c12 k12⟩⟩,
    ⟨⟨_, _, PySem.W.mg_of X G a13, fun_mk (st := s_next_length) l13 c13 k13⟩⟩,
    ⟨⟨_, _, PySem.W.mg_of X G a14, fun_mk (st := s_find) l14 c14 k14⟩⟩,
    ⟨⟨_, _, PySem.W.mg_of X G a15, fun_mk (st := s_law_pool) l15 c15 k15⟩⟩,
    ⟨⟨_, _, PySem.W.mg_of X G a16, fun_mk (st := s_law_near_book) l16 c16 k16⟩⟩,
    ⟨⟨_, _, PySem.W.mg_of X G a17, fun_mk (st := s_law_right) l17 c17 k17⟩⟩,
    ⟨⟨_, _, PySem.W.mg_of X G a18, fun_mk (st := s_law) l18 c18 k18⟩⟩⟩
  have e := hfa.symm.trans (PySem.W.mg_of X G a18)
  cases e
  refine ⟨PySem.W.fnOf "law" "law" (defArgs s_law) (defBody s_law) (defScope s_law) .none kV18 dc18 pm18 an18 cd18 ct18, fun s v => .of_eq rfl, fun base _ _ => ?_⟩
  obtain ⟨f, fd, hm, F, O, B⟩ := (ok_law (P := l.prog) (w := w) (base := base) T).ex
  have e2 := hm.symm.trans (PySem.W.mg_of X G a18)
  cases e2
  obtain ⟨oc, od, kV, doc, pm, an, cdv, ct, osl, rfl, lk, hcd⟩ := F.ex
  have e3 := lk.symm.trans l18
  cases e3
  exact O
theorem walk {l : PySem.W.OpenLaw} {q : Program} {loose : List Str} {XP : (Str → Option Value) → Heap → Prop} {YP : World → Heap → Prop} {d : DefRec} {K : Params → PySem.W.Frag} (hn : l.most = some 63) (hdf : d.params.defaults = [])
    (hY : ∀ (w : World) (h : Heap), YP w h → (K w.params).In h)
    (F : ∀ (w : World) (mg : Str → Option Value) (fa : Addr) (h : Heap), (K w.params).In h → h.Ns mainGlobals mg → mg d.name = some (.ref fa) →
      ∃ fd : FuncData, (∀ (s : Shared) (u : Value), BindsTo s fd ⟨[u], []⟩ [("script", u)]) ∧ ∀ base : Heap, (K w.params).In base → base.Ns mainGlobals mg → FnOk l.prog w (K w.params) mg base CX0 8 fa fd ["script"] (spLaw (K w.params))) :
    PySem.W.WalkO q loose XP YP l.row.toRowW d [] (fun f vs => PySem.call f vs) :=
  L2.walk_of (n := 63) (k := 8) (x := "script") (CX := fun _ => CX0) (sp := fun w => spLaw (K w.params)) hn (by decide) hdf ⟨rfl, by decide, by decide⟩ hY F (fun _ _ a ns hl _ hS => ⟨a, ns, rfl, hS, hl, fun _ => rfl⟩) fun _ _ _ _ _ z => z
end K21
open PySem PySem.W PyProof.Rows
set_option maxRecDepth 100000 in
set_option maxHeartbeats 0 in
theorem PySem.Challenge.cw_pagecounts_k21_hidden_books_found_holds : PySem.Challenge.rw_pagecounts_k21_hidden_books_found.Holds := by
  w_on; o_law; k_head; (case hw => w_witness2)
  k_fill
  refine K21.walk (l := PySem.Challenge.rw_pagecounts_k21_hidden_books_found) rfl rfl (fun w h Y => PySem.W.kIn_of Y) ?F
  case F =>
    intro w mg fa h KX G hmg
    refine' K21.all_mk KX G hmg ?aC_HiddenBook ?a1 ?l1 ?c1 ?k1 ?a2 ?l2 ?c2 ?k2 ?a3 ?l3 ?c3 ?k3 ?a4 ?l4 ?c4 ?k4 ?a5 ?l5 ?c5 ?k5 ?a6 ?l6 ?c6 ?k6 ?a7 ?l7 ?c7 ?k7 ?a8 ?l8 ?c8 ?k8 ?a9 ?i9 ?l9 ?c9 ?k9 ?a10 ?g10 ?t10 ?r10_ ?l10 ?c10 ?k10 ?a11 ?i11 ?l11 ?c11 ?k11 ?a12 ?l12 ?c12 ?k12 ?a13 ?l13 ?c13 ?k13 ?a14 ?l14 ?c14 ?k14 ?a15 ?l15 ?c15 ?k15 ?a16 ?l16 ?c16 ?k16 ?a17 ?l17 ?c17 ?k17 ?a18 ?l18 ?c18 ?k18 ?z_abs ?z_enumerate ?z_isinstance ?z_len ?z_list ?z_max ?z_min ?z_range ?z_set ?z_sorted ?z_sum ?pg_HiddenBook ?hd_HiddenBook ?po_HiddenBook ?sa_HiddenBook ?mk_HiddenBook ?kc_HiddenBook ?na_HiddenBook_asked ?na_HiddenBook_hidden
    (case aC_HiddenBook => k_is)
    (case a1 => k_is)
    (case l1 => k_is)
    (case c1 => k_is)
    (case k1 => k_is)
    (case a2 => k_is)
    (case l2 => k_is)
    (case c2 => k_is)
    (case k2 => k_is)
    (case a3 => k_is)
    (case l3 => k_is)
    (case c3 => k_is)
    (case k3 => k_is)
    (case a4 => k_is)
    (case l4 => k_is)
    (case c4 => k_is)
    (case k4 => k_is)
    (case a5 => k_is)
    (case l5 => k_is)
    (case c5 => k_is)
    (case k5 => k_is)
    (case a6 => k_is)
    (case l6 => k_is)
    (case c6 => k_is)
    (case k6 => k_is)
    (case a7 => k_is)
    (case l7 => k_is)
    (case c7 => k_is)
    (case k7 => k_is)
    (case a8 => k_is)
    (case l8 => k_is)
    (case c8 => k_is)
    (case k8 => k_is)
    (case a9 => k_is)
    (case i9 => k_is)
    (case l9 => k_is)
    (case c9 => k_is)
    (case k9 => k_is)
    (case a10 => k_is)
    (case g10 => k_is)
    (case t10 => k_is)
    (case r10_ => k_is)
    (case l10 => k_is)
    (case c10 => k_is)
    (case k10 => k_is)
    (case a11 => k_is)
    (case i11 => k_is)
    (case l11 => k_is)
    (case c11 => k_is)
    (case k11 => k_is)
    (case a12 => k_is)
    (case l12 => k_is)
    (case c12 => k_is)
    (case k12 => k_is)
    (case a13 => k_is)
    (case l13 => k_is)
    (case c13 => k_is)
    (case k13 => k_is)
    (case a14 => k_is)
    (case l14 => k_is)
    (case c14 => k_is)
    (case k14 => k_is)
    (case a15 => k_is)
    (case l15 => k_is)
    (case c15 => k_is)
    (case k15 => k_is)
    (case a16 => k_is)
    (case l16 => k_is)
    (case c16 => k_is)
    (case k16 => k_is)
    (case a17 => k_is)
    (case l17 => k_is)
    (case c17 => k_is)
    (case k17 => k_is)
    (case a18 => k_is)
    (case l18 => k_is)
    (case c18 => k_is)
    (case k18 => k_is)
    (case z_abs => k_is)
    (case z_enumerate => k_is)
    (case z_isinstance => k_is)
    (case z_len => k_is)
    (case z_list => k_is)
    (case z_max => k_is)
    (case z_min => k_is)
    (case z_range => k_is)
    (case z_set => k_is)
    (case z_sorted => k_is)
    (case z_sum => k_is)
    (case pg_HiddenBook => k_is)
    (case hd_HiddenBook => k_is)
    (case po_HiddenBook => k_is)
    (case sa_HiddenBook => k_is)
    (case mk_HiddenBook => k_is)
    (case kc_HiddenBook => k_is)
    (case na_HiddenBook_asked => k_is)
    (case na_HiddenBook_hidden => k_is)
