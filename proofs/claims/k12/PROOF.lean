import PyProof.Rows.All
import Wide.All
import OpenK.AllK
import Wide.FinOn
import HandS.ForMost
import HandS.Wide
import HandS.SortInts
import HandS.SortKw
import HandS.Property
import HandS.IsInst
import HandS.RevRange
import HandS.Style
import HandS.Flow
import HandS.Defaults
import HandS.MakeKwOnly
import HandS.TryOnly
import HandS.Zip
import HandS.RaiseMore
import HandS.EndBits
import HandS.SetFor
import HandS.Steps
import HandS.Iter
import HandS.GenList
import HandS.Walk
import HandS.Set
import HandS.SetFor
import HandS.SortInts
import PySem.Challenge.RW_pagecounts_k12_books_of_a_table_counted
set_option Elab.async false
set_option linter.all false
set_option maxRecDepth 100000
set_option maxHeartbeats 4000000
namespace Pg
open PySem PySem.Spec PyProof.Rows L2

/-! ### powers of great ints -/
def CPowW (i j : Int) : Prop := 0 ≤ j ∧ (i.natAbs.log2 + 1 : Int) * j ≤ 1000000
theorem CPowW.of {i j : Int} (b : Nat) (h0 : 0 ≤ j) (h1 : i.natAbs < 2 ^ b) (hb : 0 < b) (h : (b : Int) * j ≤ 1000000) : CPowW i j := by
  refine ⟨h0, ?_⟩
  have x := PySem.Flt.log2_lt_of hb h1
  have y : ((i.natAbs.log2 + 1 : Nat) : Int) ≤ (b : Int) := by omega
  have z : ((i.natAbs.log2 + 1 : Nat) : Int) * j ≤ (b : Int) * j := Int.mul_le_mul_of_nonneg_right y h0
  have e : ((i.natAbs.log2 + 1 : Nat) : Int) = (i.natAbs.log2 : Int) + 1 := by omega
  rw [e] at z
  exact Int.le_trans z h
section
variable {X : Cx}
theorem op_powW : OpR X (binaryOp .Pow) (rI CPowW fun i j => .int (i ^ j.toNat)) := opI fun i j _ _ _ _ _ hc q => by
  refine pow_int hc.1 ?_ q
  have b : Builtin.Int.intBits i ≤ i.natAbs.log2 + 1 := by
    unfold Builtin.Int.intBits
    split <;> omega
  have b' : ((Builtin.Int.intBits i : Nat) : Int) ≤ (i.natAbs.log2 : Int) + 1 := by omega
  have z := Int.mul_le_mul_of_nonneg_right b' hc.1
  have h2 := hc.2
  have e : (1000000 : Int) ≤ 2 ^ 27 := by decide
  exact Int.le_trans z (Int.le_trans h2 e)
end

/-! ### a def where it stands -/
structure DefAt (P : Program) (w : World) (K : PySem.W.Frag) (mg : Str → Option Value) (base : Heap) (x : Str) (st : Stmt) (k : Nat) (ps : List Str) (sp : Sp) : Prop where
  ex : ∃ f fd, mg x = some (.ref f) ∧ Fun K x x st f fd ∧ FnOk P w K mg base CX0 k f fd ps sp ∧ Binds K fd ps []
/-- a def of the text that stands at the module's name -/
structure FunAt (K : PySem.W.Frag) (mg : Str → Option Value) (x : Str) (st : Stmt) : Prop where
  ex : ∃ f fd, mg x = some (.ref f) ∧ Fun K x x st f fd
/-- a class with its __init__ -/
structure ClsAt (K : PySem.W.Frag) (mg : Str → Option Value) (x : Str) (C : Addr) : Prop where
  g : mg x = some (.ref C)
  c : Cls K C
  mks : PySem.W.makesIn K C = true
  kp : PySem.W.keepIn K (.ref C) = true
/-- a method of a class, as the text has it -/
structure MethAt (K : PySem.W.Frag) (C : Addr) (m qual : Str) (st : Stmt) : Prop where
  ex : ∃ f fd, Meth K C m f ∧ Fun K m qual st f fd
structure MDefAt (P : Program) (w : World) (K : PySem.W.Frag) (mg : Str → Option Value) (base : Heap) (C : Addr) (m qual : Str) (st : Stmt) (k : Nat) (ps : List Str) (sp : Sp) : Prop where
  ex : ∃ f fd, Meth K C m f ∧ Fun K m qual st f fd ∧ FnOk P w K mg base CX0 k f fd ps sp ∧ Binds K fd ps []
/-- a property of a class -/
structure PropAt (K : PySem.W.Frag) (C : Addr) (m qual : Str) (st : Stmt) : Prop where
  ex : ∃ p f fd, PropOf K C m p f ∧ Fun K m qual st f fd
structure PDefAt (P : Program) (w : World) (K : PySem.W.Frag) (mg : Str → Option Value) (base : Heap) (C : Addr) (m qual : Str) (st : Stmt) (k : Nat) (sp : Sp) : Prop where
  ex : ∃ p f fd, PropOf K C m p f ∧ Fun K m qual st f fd ∧ FnOk P w K mg base CX0 k f fd ["self"] sp ∧ Binds K fd ["self"] []

section
variable {P : Program} {w : World} {K : PySem.W.Frag} {mg : Str → Option Value} {base : Heap} {x m qual : Str} {st : Stmt} {k : Nat} {ps N : List Str} {sp : Sp} {C : Addr}
theorem FunAt.ok (F : FunAt K mg x st) (S : FnScope N ps (defScope st)) (len : ∀ vs H Q E, sp vs H Q E → vs.length = ps.length)
    (hb : ∀ (kV doc pm : Value) (an : Option Addr) (cdv ct : Value) (us : List Value), us.length = ps.length → bindArgs (PySem.W.fnOf x x (defArgs st) (defBody st) (defScope st) .none kV doc pm an cdv ct) ⟨us, []⟩ = pure (ps.zip us))
    (hbody : ∀ (f : Addr) (cdv : Value) (A : Around) (outer : List Env) (s : Shared) (H : Hp) (vs : List V) (Q : VK) (E : XK), Room k (A.deeper (envOfC x (defScope st) s.heap.objs.size f cdv)) → sp vs H Q E →
      ∃ t, PSs (cxOf CX0 P w K mg base N x (defScope st) f cdv A outer s H E).nox (defBody st) t ∧ t { nx := fun _ H' => Q .non H', rt := Q } (start N vs) H) : DefAt P w K mg base x st (k + 1) ps sp := by
  obtain ⟨f, fd, hm, F⟩ := F.ex
  exact ⟨f, fd, hm, F, F.ok S len (fun cdv A outer s H vs Q E hr h => hbody f cdv A outer s H vs Q E hr h), F.binds hb⟩
theorem MethAt.ok (F : MethAt K C m qual st) (S : FnScope N ps (defScope st)) (len : ∀ vs H Q E, sp vs H Q E → vs.length = ps.length)
    (hb : ∀ (kV doc pm : Value) (an : Option Addr) (cdv ct : Value) (us : List Value), us.length = ps.length → bindArgs (PySem.W.fnOf m qual (defArgs st) (defBody st) (defScope st) .none kV doc pm an cdv ct) ⟨us, []⟩ = pure (ps.zip us))
    (hbody : ∀ (f : Addr) (cdv : Value) (A : Around) (outer : List Env) (s : Shared) (H : Hp) (vs : List V) (Q : VK) (E : XK), Room k (A.deeper (envOfC qual (defScope st) s.heap.objs.size f cdv)) → sp vs H Q E →
      ∃ t, PSs (cxOf CX0 P w K mg base N qual (defScope st) f cdv A outer s H E).nox (defBody st) t ∧ t { nx := fun _ H' => Q .non H', rt := Q } (start N vs) H) : MDefAt P w K mg base C m qual st (k + 1) ps sp := by
  obtain ⟨f, fd, hm, F⟩ := F.ex
  exact ⟨f, fd, hm, F, F.ok S len (fun cdv A outer s H vs Q E hr h => hbody f cdv A outer s H vs Q E hr h), F.binds hb⟩
theorem PropAt.ok (F : PropAt K C m qual st) (S : FnScope N ["self"] (defScope st)) (len : ∀ vs H Q E, sp vs H Q E → vs.length = 1)
    (hb : ∀ (kV doc pm : Value) (an : Option Addr) (cdv ct : Value) (us : List Value), us.length = (["self"] : List Str).length → bindArgs (PySem.W.fnOf m qual (defArgs st) (defBody st) (defScope st) .none kV doc pm an cdv ct) ⟨us, []⟩ = pure ((["self"] : List Str).zip us))
    (hbody : ∀ (f : Addr) (cdv : Value) (A : Around) (outer : List Env) (s : Shared) (H : Hp) (vs : List V) (Q : VK) (E : XK), Room k (A.deeper (envOfC qual (defScope st) s.heap.objs.size f cdv)) → sp vs H Q E →
      ∃ t, PSs (cxOf CX0 P w K mg base N qual (defScope st) f cdv A outer s H E).nox (defBody st) t ∧ t { nx := fun _ H' => Q .non H', rt := Q } (start N vs) H) : PDefAt P w K mg base C m qual st (k + 1) sp := by
  obtain ⟨p, f, fd, hm, F⟩ := F.ex
  exact ⟨p, f, fd, hm, F, F.ok S len (fun cdv A outer s H vs Q E hr h => hbody f cdv A outer s H vs Q E hr h), F.binds hb⟩
end

section
variable {X : Cx} {x m qual : Str} {st : Stmt} {k n : Nat} {ps ks : List Str} {sp : Sp} {C : Addr} {e o : Expr} {es : List Expr} {kws : List Keyword} {t tk : TA} {ta : TE} {p pos apos : Pos}
theorem pe_callD (D : DefAt X.prog X.w X.K X.mg X.base x st k ps sp) (hr : Room k X.A) (ha : PA X (e :: es) t) (hg : Gl X x := by rfl)
    (hdb : (x == ("__debug__" : Str)) = false := by decide) (he : starEach (e :: es) X.env = (false, eval e X.env) :: starEach es X.env := by rfl) (hpl : (backTo pos (starEach es X.env)).any (·.1) = false := by rfl) :
    PE X (.Call (.Name x p) (e :: es) [] pos) (tCall sp [] E0 t) := by
  obtain ⟨f, fd, hm, F, G, b⟩ := D.ex
  exact pe_call G hr hg hm F.kp b .nil pass0 ha hdb he hpl
theorem pe_methD {pl : Sem Bool} (he : PE X o ta) (T : Cls X.K C) (D : MDefAt X.prog X.w X.K X.mg X.base C m qual st k ps sp) (hr : Room k X.A) (ha : PA X (e :: es) t)
    (hst : starEach (e :: es) X.env = (false, eval e X.env) :: starEach es X.env := by rfl) (hpl : (backTo pos (starEach es X.env)).any (·.1) = false := by rfl)
    (ht : eval (.Call (.Attribute o m apos) (e :: es) [] pos) X.env = (do
      let ov ← eval o X.env
      standAt apos.atName
      let (f, first) ← holding [ov] (getMethod ov m pl)
      callWith pos f first (backTo pos (starEach (e :: es) X.env)) (backToKw pos (keywordEach [] X.env))) := by rfl) :
    PE X (.Call (.Attribute o m apos) (e :: es) [] pos) (tMeth C m sp [] E0 ta t) := by
  obtain ⟨f, fd, hm, F, G, b⟩ := D.ex
  exact pe_meth he T hm G hr b .nil pass0 ha hst hpl ht
theorem pe_methD0 {pl : Sem Bool} (he : PE X o ta) (T : Cls X.K C) (D : MDefAt X.prog X.w X.K X.mg X.base C m qual st k ps sp) (hr : Room k X.A)
    (ht : eval (.Call (.Attribute o m apos) [] [] pos) X.env = (do
      let ov ← eval o X.env
      standAt apos.atName
      let (f, first) ← holding [ov] (getMethod ov m pl)
      callWith pos f first (backTo pos (starEach [] X.env)) (backToKw pos (keywordEach [] X.env))) := by rfl) :
    PE X (.Call (.Attribute o m apos) [] [] pos) (tMeth C m sp [] E0 ta tNil) := by
  obtain ⟨f, fd, hm, F, G, b⟩ := D.ex
  exact pe_meth0 he T hm G hr b .nil pass0 ht
theorem pe_makeD (T : ClsAt X.K X.mg x C) (D : MDefAt X.prog X.w X.K X.mg X.base C "__init__" qual st k ps sp) (hr : Room (k + 1) X.A) (ha : PA X (e :: es) t) (hg : Gl X x := by rfl)
    (hdb : (x == ("__debug__" : Str)) = false := by decide) (he : starEach (e :: es) X.env = (false, eval e X.env) :: starEach es X.env := by rfl) (hpl : (backTo pos (starEach es X.env)).any (·.1) = false := by rfl) :
    PE X (.Call (.Name x p) (e :: es) [] pos) (tMake C sp [] E0 t) := by
  obtain ⟨f, fd, hm, F, G, b⟩ := D.ex
  exact pe_make ⟨T.mks, hm.at_, hm.fn, T.kp⟩ G hr hg T.g b .nil pass0 ha hdb he hpl
theorem passE0 : Passes CX0 X E0 := fun _ _ _ _ _ _ _ h => h.elim
theorem pe_propD (he : PE X e ta) (c : Cls X.K C) (D : PDefAt X.prog X.w X.K X.mg X.base C m qual st k sp) (hr : Room (k + 1) X.A)
    (hab : attributeBase e m X.env (eval e X.env) = eval e X.env := by rfl) : PE X (.Attribute e m pos) (tProp C sp [] E0 ta) := by
  obtain ⟨pp, f, fd, hm, F, G, b⟩ := D.ex
  exact pe_prop he c hm G hr b .nil passE0 hab
theorem pe_gcls {u : Addr} (hm : X.mg x = some (.ref u)) (hg : Gl X x := by rfl) (hd : (x == ("__debug__" : Str)) = false := by decide) : PE X (.Name x pos) (tC (.ref u)) := pe_glob hg hm rfl hd
end

section
variable {X : Cx} {x : Str} {p : Pos}
theorem pe_gint {i : Int} (hm : ∃ t, X.mg x = some (.int i t)) (hg : Gl X x := by rfl) (hd : (x == ("__debug__" : Str)) = false := by decide) : PE X (.Name x p) (tC (.int i)) := by
  obtain ⟨t, hm⟩ := hm
  exact pe_glob hg hm ⟨t, rfl⟩ hd
theorem pe_gstr {i : Str} (hm : ∃ t, X.mg x = some (.str i t)) (hg : Gl X x := by rfl) (hd : (x == ("__debug__" : Str)) = false := by decide) : PE X (.Name x p) (tC (.str i)) := by
  obtain ⟨t, hm⟩ := hm
  exact pe_glob hg hm ⟨t, rfl⟩ hd
end
/-! ### readings by names -/
def rLen (K : PySem.W.Frag) : List V → Hp → VK → Prop := fun xs H Q => ∃ x n, xs = [x] ∧ LenV K x H n ∧ Q (.int n) H
theorem call_lenN {X : Cx} : CallR X (.builtin "len") (rLen X.K) := call_len
def rAbs : List V → Hp → VK → Prop := fun xs H Q => ∃ i, xs = [.int i] ∧ Q (.int (if i < 0 then -i else i)) H
theorem call_absN {X : Cx} : CallR X (.builtin "abs") rAbs := call_abs
def rMax2 : List V → Hp → VK → Prop := fun xs H Q => ∃ i j, xs = [.int i, .int j] ∧ Q (.int (if j > i then j else i)) H
theorem call_max2N {X : Cx} (hc : X.calm = true) : CallR X (.builtin "max") rMax2 := call_max2 hc
def rMin2 : List V → Hp → VK → Prop := fun xs H Q => ∃ i j, xs = [.int i, .int j] ∧ Q (.int (if j < i then j else i)) H
theorem call_min2N {X : Cx} (hc : X.calm = true) : CallR X (.builtin "min") rMin2 := call_min2 hc
def rInt1 : List V → Hp → VK → Prop := fun xs H Q => (∃ i, xs = [.int i] ∧ Q (.int i) H) ∨ ∃ k, xs = [.bl k] ∧ Q (.int (if k then 1 else 0)) H
theorem call_int1N {X : Cx} : CallR X (.type "int") rInt1 := call_int1
def rStrI : List V → Hp → VK → Prop := fun xs H Q => ∃ i, xs = [.int i] ∧ i.natAbs.log2 < 1920 ∧ Q (.str (toString i)) H
theorem call_strN {X : Cx} : CallR X (.type "str") rStrI := call_str_int
def rListOf (K : PySem.W.Frag) : List V → Hp → VK → Prop := fun xs H Q => ∃ p ys, xs = [.ref p] ∧ (SqL K H p ys ∨ SqT K H p ys) ∧ ∀ l, H l = none → Q (.ref l) (upd H l (.lst ys))
theorem call_listN {X : Cx} : CallR X (.type "list") (rListOf X.K) := call_list_of

/-! ### calls by keywords alone -/
def pick {α : Type} (ix : List Nat) (l : List α) : List α := ix.filterMap fun i => l[i]?
theorem pick_vals {zs : List V} {ws : List Value} (r : Vals zs ws) : ∀ ix : List Nat, Vals (pick ix zs) (pick ix ws)
  | [] => .nil
  | i :: ix => by
    have ih := pick_vals r ix
    unfold pick at ih ⊢
    rw [List.filterMap_cons, List.filterMap_cons]
    cases e : zs[i]? with
    | none =>
      rw [Vals.none_of r e]
      exact ih
    | some v =>
      obtain ⟨u, e', rv⟩ := Vals.get r e
      rw [e']
      exact .cons rv ih
/-- how a call binds keywords alone: parameter i takes the keyword at ix[i] -/
def KB0 (x qual : Str) (st : Stmt) (ps ks : List Str) (pre : Nat) (ix : List Nat) : Prop :=
  ∀ (kV doc pm : Value) (an : Option Addr) (cdv ct : Value) (us ws : List Value), us.length = pre → ws.length = ks.length → bindArgs (PySem.W.fnOf x qual (defArgs st) (defBody st) (defScope st) .none kV doc pm an cdv ct) ⟨us, ks.zip ws⟩ = pure (ps.zip (us ++ pick ix ws))
theorem KB0.kbn {K : PySem.W.Frag} {x qual : Str} {st : Stmt} {f : Addr} {fd : FuncData} {ps ks : List Str} {pre : Nat} {ix : List Nat} (B : KB0 x qual st ps ks pre ix) (F : Fun K x qual st f fd) : KBn K fd ps pre ks (fun us ws => us ++ pick ix ws) (fun vs zs => vs ++ pick ix zs) := by
  obtain ⟨oc, od, kV, doc, pm, an, cdv, ct, osl, rfl, lk, hcd⟩ := F.ex
  exact ⟨fun s us ws _ hu hw => .of_eq (B kV doc pm an cdv ct us ws hu hw), fun r1 r2 => r1.append (pick_vals r2 ix)⟩
def tCallK0 (n : Nat) (ix : List Nat) (sp : Sp) (tk : TA) : TE := fun σ H Q => tk σ H fun zs H2 => zs.length = n ∧ sp (pick ix zs) H2 Q E0
section
variable {X : Cx} {x m qual : Str} {st : Stmt} {k n : Nat} {ps ks : List Str} {sp : Sp} {C : Addr} {e o : Expr} {es : List Expr} {kws : List Keyword} {t tk : TA} {ta : TE} {p pos apos : Pos} {ix : List Nat}
theorem pe_callKD (D : DefAt X.prog X.w X.K X.mg X.base x st k ps sp) (hr : Room k X.A) (hkw : PK X kws tk) (B : KB0 x x st ps ks 0 ix) (hg : Gl X x := by rfl)
    (hall : (backToKw pos (keywordEach kws X.env)).all (·.1.isSome) = true := by rfl) (hks : (backToKw pos (keywordEach kws X.env)).filterMap (·.1) = ks := by rfl) (hdb : (x == ("__debug__" : Str)) = false := by decide)
    (hpl : ((backTo pos (starEach [] X.env)).any (·.1) || (backToKw pos (keywordEach kws X.env)).any (·.1.isNone)) = false := by rfl) :
    PE X (.Call (.Name x p) [] kws pos) (tCallK0 ks.length ix sp tk) := by
  obtain ⟨f, fd, hm, F, G, b⟩ := D.ex
  refine ⟨fun pins s σ H Q I h => ?_⟩
  refine wpAny_Call_Name_kw (ld_glob I hg hm ?_ hdb)
  refine PySem.W.callWith_KW0 (h₀ := X.base) I.ok.mod.kin F.kp hall ?_ hpl
  refine thn (hkw.run pos pins s σ H _ I h) fun ws s2 ⟨zs, H2, I2, rz, l2, q2⟩ => ⟨I2.kIn, ?_⟩
  rw [hks]
  exact run_fnN (us := []) (vs := []) G hr (B.kbn F) pass0 I2 .nil rz rfl l2 q2
/-- o.m(k = v, ..) -/
def tMethK0 (C : Addr) (m : Str) (n : Nat) (ix : List Nat) (sp : Sp) (ta : TE) (tk : TA) : TE := fun σ H Q => ta σ H fun x H1 => ∃ a dx fs, x = .ref a ∧ H1 a = some (.ins C dx fs) ∧ fs.lookup m = none ∧
  tk σ H1 fun zs H2 => zs.length = n ∧ sp (x :: pick ix zs) H2 Q E0
theorem pe_makeKD (T : ClsAt X.K X.mg x C) (D : MDefAt X.prog X.w X.K X.mg X.base C "__init__" qual st k ps sp) (hr : Room (k + 1) X.A) (hkw : PK X kws tk) (B : KB0 "__init__" qual st ps ks 1 ix) (hg : Gl X x := by rfl)
    (hall : (backToKw pos (keywordEach kws X.env)).all (·.1.isSome) = true := by rfl) (hks : (backToKw pos (keywordEach kws X.env)).filterMap (·.1) = ks := by rfl) (hdb : (x == ("__debug__" : Str)) = false := by decide)
    (hpl : ((backTo pos (starEach [] X.env)).any (·.1) || (backToKw pos (keywordEach kws X.env)).any (·.1.isNone)) = false := by rfl) :
    PE X (.Call (.Name x p) [] kws pos) (tMakeK C 0 ks.length sp (fun vs zs => vs ++ pick ix zs) E0 tNil tk) := by
  obtain ⟨f, fd, hm, F, G, b⟩ := D.ex
  exact pe_makeK0 (p := p) (pos := pos) ⟨T.mks, hm.at_, hm.fn, T.kp⟩ G hr hg T.g (B.kbn F) pass0 hkw hall hks hdb hpl
end

/-! ### what is kept -/
/-- all that was tracked is as it was, but the addresses of S -/
def Fr (S : List Addr) (H H' : Hp) : Prop := ∀ b o, b ∉ S → H b = some o → H' b = some o
section
variable {S S' : List Addr} {H H1 H2 H' : Hp} {a b p : Addr} {o u : HO} {K : PySem.W.Frag} {xs : List V}
theorem Fr.refl : Fr S H H := fun _ _ _ h => h
theorem Fr.trans (h : Fr S H H1) (h' : Fr S H1 H2) : Fr S H H2 := fun b o n e => h' b o n (h b o n e)
theorem Fr.mono (h : Fr S H H1) (hs : ∀ b ∈ S, b ∈ S') : Fr S' H H1 := fun b o n e => h b o (fun z => n (hs b z)) e
theorem Fr.nil (h : Fr [] H H1) : Fr S H H1 := h.mono fun b z => absurd z (by simp)
theorem Fr.then (h : Fr S H H1) (h' : Fr [] H1 H2) : Fr S H H2 := h.trans h'.nil
theorem Fr.new (h : Fr S H H1) (n : H1 p = none) : Fr S H (upd H1 p o) := fun b u z e => by
  rw [upd_ne (ne_of_none (h b u z e) n)]
  exact h b u z e
/-- an object that was made behind H, or one of S, may change -/
theorem Fr.put (h : Fr S H H1) (n : H p = none ∨ p ∈ S) : Fr S H (upd H1 p o) := fun b u z e => by
  have hb : b ≠ p := by
    intro q
    subst q
    rcases n with n | n
    · rw [n] at e
      cases e
    · exact z n
  rw [upd_ne hb]
  exact h b u z e
theorem Fr.at (h : Fr S H H') (n : b ∉ S) (e : H b = some o) : H' b = some o := h b o n e
theorem Fr.at0 (h : Fr [] H H') (e : H b = some o) : H' b = some o := h b o (by simp) e
theorem Fr.rd (h : Fr S H H') (n : b ∉ S) (e : Rd H b o) : Rd H' b o := by
  rcases e with e | ⟨x, e⟩
  · exact .inl (h b _ n e)
  · exact .inr ⟨x, h b _ n e⟩
theorem Fr.seqL (h : Fr S H H') (n : b ∉ S) (e : SqL K H b xs) : SqL K H' b xs := by
  rcases e with e | e
  · exact .inl (h.rd n e)
  · exact .inr e
theorem Fr.free (h : Fr S H H') (n : p ∉ S) (e : H' p = none) : H p = none := by
  cases q : H p with
  | none => rfl
  | some o =>
    rw [h p o n q] at e
    cases e
/-- what changes one object that was made behind H -/
theorem Fr.loc (h : Fr S H H1) (n : H p = none) (h' : Fr [p] H1 H2) : Fr S H H2 := fun b o z e => by
  refine h' b o ?_ (h b o z e)
  intro q
  rw [List.mem_singleton.mp q, n] at e
  cases e
theorem same_fr (h : Same H H') : Fr S H H' := fun b o _ e => h b o e
theorem Fr.same (h : Fr [] H H') : Same H H' := fun b o e => h b o (by simp) e
theorem at_upd (h : H a = some o) (n : H p = none) : upd H p u a = some o := by
  rw [upd_ne (ne_of_none h n)]
  exact h
theorem at_make {dx : Addr} {v : HO} (h : H a = some o) (n1 : H dx = none) (n2 : H p = none) : upd (upd H dx u) p v a = some o := by
  rw [upd_ne (ne_of_none h n2), upd_ne (ne_of_none h n1)]
  exact h
theorem Fr.make {dx : Addr} {v : HO} (h : Fr S H H1) (n1 : H1 dx = none) (n2 : H1 p = none) : Fr S H (upd (upd H1 dx u) p v) := fun b w z e => at_make (h b w z e) n1 n2
theorem hx_of {v : HO} (h : H a = some o) (e : o = v) : H a = some v := e ▸ h
theorem nn2 (h1 : b ≠ a) : b ∉ [a] := by simpa using h1
end

/-! ### kinds of objects differ -/
theorem ho_lst_tup {v1 : List V} {v2 : List V} : ((.lst v1) : HO) ≠ (.tup v2) := fun z => nomatch z
theorem ho_lst_own {v1 : List V} {v2 : Addr} : ((.lst v1) : HO) ≠ (.own v2) := fun z => nomatch z
theorem ho_lst_xd {v1 : List V} {v2 : List (Str × V)} : ((.lst v1) : HO) ≠ (.xd v2) := fun z => nomatch z
theorem ho_lst_dK {v1 : List V} {v2 : List (Key × V)} : ((.lst v1) : HO) ≠ (.dK v2) := fun z => nomatch z
theorem ho_lst_ins {v1 : List V} {C2 dx2 : Addr} {fs2 : List (Str × V)} : ((.lst v1) : HO) ≠ (.ins C2 dx2 fs2) := fun z => nomatch z
theorem ho_tup_lst {v1 : List V} {v2 : List V} : ((.tup v1) : HO) ≠ (.lst v2) := fun z => nomatch z
theorem ho_tup_own {v1 : List V} {v2 : Addr} : ((.tup v1) : HO) ≠ (.own v2) := fun z => nomatch z
theorem ho_tup_xd {v1 : List V} {v2 : List (Str × V)} : ((.tup v1) : HO) ≠ (.xd v2) := fun z => nomatch z
theorem ho_tup_dK {v1 : List V} {v2 : List (Key × V)} : ((.tup v1) : HO) ≠ (.dK v2) := fun z => nomatch z
theorem ho_tup_ins {v1 : List V} {C2 dx2 : Addr} {fs2 : List (Str × V)} : ((.tup v1) : HO) ≠ (.ins C2 dx2 fs2) := fun z => nomatch z
theorem ho_own_lst {v1 : Addr} {v2 : List V} : ((.own v1) : HO) ≠ (.lst v2) := fun z => nomatch z
theorem ho_own_tup {v1 : Addr} {v2 : List V} : ((.own v1) : HO) ≠ (.tup v2) := fun z => nomatch z
theorem ho_own_xd {v1 : Addr} {v2 : List (Str × V)} : ((.own v1) : HO) ≠ (.xd v2) := fun z => nomatch z
theorem ho_own_dK {v1 : Addr} {v2 : List (Key × V)} : ((.own v1) : HO) ≠ (.dK v2) := fun z => nomatch z
theorem ho_own_ins {v1 : Addr} {C2 dx2 : Addr} {fs2 : List (Str × V)} : ((.own v1) : HO) ≠ (.ins C2 dx2 fs2) := fun z => nomatch z
theorem ho_xd_lst {v1 : List (Str × V)} {v2 : List V} : ((.xd v1) : HO) ≠ (.lst v2) := fun z => nomatch z
theorem ho_xd_tup {v1 : List (Str × V)} {v2 : List V} : ((.xd v1) : HO) ≠ (.tup v2) := fun z => nomatch z
theorem ho_xd_own {v1 : List (Str × V)} {v2 : Addr} : ((.xd v1) : HO) ≠ (.own v2) := fun z => nomatch z
theorem ho_xd_dK {v1 : List (Str × V)} {v2 : List (Key × V)} : ((.xd v1) : HO) ≠ (.dK v2) := fun z => nomatch z
theorem ho_xd_ins {v1 : List (Str × V)} {C2 dx2 : Addr} {fs2 : List (Str × V)} : ((.xd v1) : HO) ≠ (.ins C2 dx2 fs2) := fun z => nomatch z
theorem ho_dK_lst {v1 : List (Key × V)} {v2 : List V} : ((.dK v1) : HO) ≠ (.lst v2) := fun z => nomatch z
theorem ho_dK_tup {v1 : List (Key × V)} {v2 : List V} : ((.dK v1) : HO) ≠ (.tup v2) := fun z => nomatch z
theorem ho_dK_own {v1 : List (Key × V)} {v2 : Addr} : ((.dK v1) : HO) ≠ (.own v2) := fun z => nomatch z
theorem ho_dK_xd {v1 : List (Key × V)} {v2 : List (Str × V)} : ((.dK v1) : HO) ≠ (.xd v2) := fun z => nomatch z
theorem ho_dK_ins {v1 : List (Key × V)} {C2 dx2 : Addr} {fs2 : List (Str × V)} : ((.dK v1) : HO) ≠ (.ins C2 dx2 fs2) := fun z => nomatch z
theorem ho_ins_lst {C1 dx1 : Addr} {fs1 : List (Str × V)} {v2 : List V} : ((.ins C1 dx1 fs1) : HO) ≠ (.lst v2) := fun z => nomatch z
theorem ho_ins_tup {C1 dx1 : Addr} {fs1 : List (Str × V)} {v2 : List V} : ((.ins C1 dx1 fs1) : HO) ≠ (.tup v2) := fun z => nomatch z
theorem ho_ins_own {C1 dx1 : Addr} {fs1 : List (Str × V)} {v2 : Addr} : ((.ins C1 dx1 fs1) : HO) ≠ (.own v2) := fun z => nomatch z
theorem ho_ins_xd {C1 dx1 : Addr} {fs1 : List (Str × V)} {v2 : List (Str × V)} : ((.ins C1 dx1 fs1) : HO) ≠ (.xd v2) := fun z => nomatch z
theorem ho_ins_dK {C1 dx1 : Addr} {fs1 : List (Str × V)} {v2 : List (Key × V)} : ((.ins C1 dx1 fs1) : HO) ≠ (.dK v2) := fun z => nomatch z
/-! ### len(set(ints)) -/
/-- the different ints of a list -/
def distinct (ns : List Int) : List Int := PyProof.Rows.firstMet (fun i => ns.getD i 0) ns.length
theorem firstMet_mem (f : Nat → Int) : ∀ (i : Nat) (x : Int), x ∈ PyProof.Rows.firstMet f i ↔ ∃ j, j < i ∧ f j = x
  | 0, x => by simp [PyProof.Rows.firstMet_zero]
  | i + 1, x => by
    rw [PyProof.Rows.firstMet_succ]
    have ih := firstMet_mem f i
    unfold PyProof.Rows.step_dedup
    split
    · rename_i h
      obtain ⟨y, hy, e⟩ := List.any_eq_true.mp h
      have e := eq_of_beq e
      subst e
      rw [ih]
      constructor
      · rintro ⟨j, h1, h2⟩
        exact ⟨j, by omega, h2⟩
      · rintro ⟨j, h1, h2⟩
        by_cases hj : j < i
        · exact ⟨j, hj, h2⟩
        · have : j = i := by omega
          subst this
          rw [← h2]
          exact (ih _).mp hy
    · rw [List.mem_append, ih, List.mem_singleton]
      constructor
      · rintro (⟨j, h1, h2⟩ | h)
        · exact ⟨j, by omega, h2⟩
        · exact ⟨i, by omega, h.symm⟩
      · rintro ⟨j, h1, h2⟩
        by_cases hj : j < i
        · exact .inl ⟨j, hj, h2⟩
        · have : j = i := by omega
          subst this
          exact .inr h2.symm
theorem distinct_mem {ns : List Int} {x : Int} : x ∈ distinct ns ↔ x ∈ ns := by
  unfold distinct
  rw [firstMet_mem]
  constructor
  · rintro ⟨j, h1, h2⟩
    rw [List.getD_eq_getElem?_getD, List.getElem?_eq_getElem h1] at h2
    have h2 : ns[j] = x := h2
    rw [← h2]
    exact List.getElem_mem h1
  · intro h
    obtain ⟨j, h1, h2⟩ := List.getElem_of_mem h
    refine ⟨j, h1, ?_⟩
    rw [List.getD_eq_getElem?_getD, List.getElem?_eq_getElem h1]
    exact h2
theorem distinct_le (ns : List Int) : (distinct ns).length ≤ ns.length := PyProof.Rows.firstMet_length_le _ _
/-- a list without repetition within another one is no longer -/
theorem nodup_le : ∀ {ds ns : List Int}, ds.Nodup → (∀ x ∈ ds, x ∈ ns) → ds.length ≤ ns.length
  | [], _, _, _ => Nat.zero_le _
  | d :: ds, ns, h, hs => by
    obtain ⟨h1, h2⟩ := List.nodup_cons.mp h
    have hd : d ∈ ns := hs d List.mem_cons_self
    have ih := nodup_le (ds := ds) (ns := ns.erase d) h2 fun x hx => by
      have hne : x ≠ d := fun e => h1 (e ▸ hx)
      exact (List.mem_erase_of_ne hne).mpr (hs x (List.mem_cons_of_mem _ hx))
    have e := List.length_erase_of_mem hd
    have pos : 0 < ns.length := List.length_pos_of_mem hd
    simp only [List.length_cons]
    omega
def tLenSetJ (K : PySem.W.Frag) (ta : TE) : TE := fun σ H Q => ta σ H fun x H1 => ∃ (l : Addr) (ns : List Int), x = .ref l ∧ SqL K H1 l (ns.map V.int) ∧ ns.length ≤ 4000 ∧ Q (.int ((distinct ns).length : Nat)) H1
theorem pe_lenSetJ {X : Cx} {a : Expr} {ta : TE} {p p2 q pos : Pos} (hg : Gl X "len") (hm : X.mg "len" = none) (hg2 : Gl X "set") (hm2 : X.mg "set" = none) (ha : PE X a ta) (hc : X.calm = true := by rfl)
    (na : starEach [a] X.env = (false, eval a X.env) :: starEach [] X.env := by rfl) : PE X (.Call (.Name "len" p) [.Call (.Name "set" p2) [a] [] q] [] pos) (tLenSetJ X.K ta) := by
  refine ⟨fun pins s σ H Q I h => ?_⟩
  refine Call_ (ld_blt I hg hm boot_len ?_)
  refine PyProof.Rows.callWith_builtin1 (PyProof.Rows.args_cons ?_ rfl) rfl rfl
  refine Call_ (ld_blt I hg2 hm2 boot_set ?_)
  refine PyProof.Rows.callWith_type1 (PyProof.Rows.args_cons (thn (ha.run pins s σ H _ I h) fun v s1 ⟨x, H1, I1, r1, q1⟩ => PyProof.Rows.args_nil ?_) na) na rfl
  obtain ⟨l, ns, rfl, hq, hl, q1⟩ := q1
  cases r1
  obtain ⟨its, r, pl, hz⟩ := I1.list hq
  have hlen : its.toArray.size = ns.length := by rw [List.size_toArray, ← r.length, List.length_map]
  refine call_set_list (I1.ok.hd hc) pl.isList (by simpa using RZ.intsAre_vals r) (by rw [hlen]; unfold scanBound; omega) fun h' tk hS hk => ?_
  refine PyProof.Rows.args_nil ?_
  rw [hlen] at hS
  have hlt : (PyProof.Rows.firstMet (fun i => ns.getD i 0) ns.length).length ≤ ns.length := PyProof.Rows.firstMet_length_le _ _
  obtain ⟨o, es, ep, t, ho, hex, hd, _, _, _, hf, hn⟩ := hS
  have I2 : Inv X pins σ H1 { s1 with heap := h', toks := tk } := I1.kept fun b o e => hk b o (Heap.lt_size e) e
  exact call_len_set ho hex hd hf (by rw [hn] <;> omega) ⟨.int (distinct ns).length, H1, I2.tok _, ⟨_, by rw [hn]; rfl⟩, q1⟩
/-! ### the same rules at a named part K -/
section
variable {X : Cx} {K : PySem.W.Frag}
theorem kc_call {r : PySem.W.Frag → List V → Hp → VK → Prop} {v : Value} (h : CallR X v (r X.K)) (e : X.K = K) : CallR X v (r K) := e ▸ h
theorem kc_mt {r : PySem.W.Frag → V → List V → Hp → VK → Prop} {id : String} (h : MtR X id (r X.K)) (e : X.K = K) : MtR X id (r K) := e ▸ h
theorem kc_op {r : PySem.W.Frag → R2} {f : Value → Value → Sem Value} (h : OpR X f (r X.K)) (e : X.K = K) : OpR X f (r K) := e ▸ h
theorem kc_ix {r : PySem.W.Frag → R2} (h : IxR X (r X.K)) (e : X.K = K) : IxR X (r K) := e ▸ h
theorem kc_sl {r : PySem.W.Frag → V → Option Int → Option Int → Hp → VK → Prop} (h : SlR X (r X.K)) (e : X.K = K) : SlR X (r K) := e ▸ h
theorem kc_bm {e : Expr} {T : String} {r : V → List V → Hp → VK → Prop} {to : TE} {t : TA} (h : PE X e (tBM X.K T r to t)) (q : X.K = K) : PE X e (tBM K T r to t) := q ▸ h
theorem kc_bm0 {e : Expr} {T : String} {r : V → List V → Hp → VK → Prop} {to : TE} (h : PE X e (tBM0 X.K T r to)) (q : X.K = K) : PE X e (tBM0 K T r to) := q ▸ h
end
/-! ### slices with a step -/
def pickSl {α : Type} (xs : List α) (lo st : Option Int) : List α := (sliceRange (sliceBounds lo none st xs.length).1 (sliceBounds lo none st xs.length).2.1 (sliceBounds lo none st xs.length).2.2).filterMap fun i => xs[i]?
def tSlStep (K : PySem.W.Frag) (te : TE) (tl ts : TO) : TE := fun σ H Q => te σ H fun x H1 => tl σ H1 fun lo H2 => ts σ H2 fun st H3 => ∃ a xs, x = .ref a ∧ SqL K H3 a xs ∧ st ≠ some 0 ∧ (pickSl xs lo st).length ≤ sizeLine ∧ ∀ p, H3 p = none → Q (.ref p) (upd H3 p (.lst (pickSl xs lo st)))
theorem pe_slStep {X : Cx} {e st : Expr} {te : TE} {lo : Option Expr} {tl ts : TO} {p2 pos : Pos} (he : PE X e te) (hl : PO X lo tl) (hs : PO X (some st) ts) : PE X (.Subscript e (.Slice lo none (some st) p2) pos) (tSlStep X.K te tl ts) := by
  refine ⟨fun pins s σ H Q I h => ?_⟩
  refine Subscript_ (thn (he.run pins s σ H _ I h) fun v s1 ⟨x, H1, I1, r1, q1⟩ => ?_)
  refine wpAny_Slice (thn (hl.run pins s1 σ H1 _ I1 q1) fun vl s2 ⟨l, H2, I2, pl, q2⟩ => ?_)
  refine thn (po_none.run pins s2 σ H2 (fun o H3 => o = none ∧ H3 = H2) I2 ⟨rfl, rfl⟩) fun vu s3 ⟨u, H3, I3, pu, eu, e3⟩ => ?_
  subst eu e3
  refine thn (hs.run pins s3 σ H3 _ I3 q2) fun vs s4 ⟨o, H4, I4, ps, a, xs, ex, hx, h0, hz2, q4⟩ => ?_
  subst ex
  cases r1
  have I5 : Inv X pins σ H4 { s4 with heap := s4.heap.push { cls := .type "slice", data := .fields #[vl, vu, vs] } } := I4.kept (t' := s4.toks) fun b ob q => Heap.get?_push_of_some _ q
  obtain ⟨its, r, ht, hz⟩ := I5.list hx
  have hlen := r.length
  refine tail_any (ops := [.ref a, .ref s4.heap.objs.size]) ht.isList.typeIs (PySem.slot_list_getitem.lookup) ?_ (by with_unfolding_all rfl)
  refine wpAny_getItem_list_slice ht.isList (Heap.IsSliceOf.new _ vl vu vs) pl pu ps h0 ?_ (by rw [List.size_toArray]; omega)
  have hp : slicePick its.toArray l none o = (pickSl its l o).toArray := by
    unfold slicePick pickSl
    simp
  have rv : Vals (pickSl xs l o) (pickSl its l o) := by
    unfold pickSl
    rw [hlen]
    exact pick_vals r _
  rw [hp]
  refine ⟨.ref _, _, I5.laid (t' := s4.toks) (o := .lst (pickSl xs l o)) (fun b ob q => Heap.get?_push_of_some _ q) (Nat.le_refl _) ?_, rfl, q4 _ (I5.hok.fresh (Nat.le_refl _))⟩
  exact ⟨hz2, _, 0, rv, Heap.get?_push_size _ rfl⟩
end Pg

namespace Pg
open PySem PySem.Spec PyProof.Rows L2
theorem szle {n : Nat} (h : Nat.ble n 16777216 = true) : n ≤ sizeLine := by
  rw [sizeLine_eq]
  exact Nat.le_of_ble_eq_true h
theorem szle' {n : Nat} (h : n ≤ 16777216) : n ≤ sizeLine := by
  rw [sizeLine_eq]
  exact h
theorem szlt {n : Nat} (h : n < 16777216) : n < sizeLine := by
  rw [sizeLine_eq]
  exact h
def ParE (i j : Nat) (R : L2.St → Hp → Prop) (σ : L2.St) : List V → Hp → Prop := fun vs H1 => ∃ v w, vs = [v, w] ∧ R ((σ.set i (some v)).set j (some w)) H1
theorem perm_sum {ns ms : List Int} (h : ns.Perm ms) : ns.sum = ms.sum := by
  induction h with
  | nil => rfl
  | cons x _ ih => simp [ih]
  | swap x y l => simp; omega
  | trans _ _ h1 h2 => exact h1.trans h2
/-- a wish, wrapped, so that nothing else takes it -/
structure Wr (R : Prop) : Prop where
  r : R
/-- fields of instances -/
def FldP (K : PySem.W.Frag) (f : Str) (y : V) (R : Hp → Prop) : V → Hp → Prop := fun x H2 => ∃ a C dx fs, x = .ref a ∧ H2 a = some (.ins C dx fs) ∧ Cls K C ∧ NoAttr K C f ∧ fs.length < 1000 ∧ R (upd H2 a (.ins C dx (putF f y fs)))
def FldG (K : PySem.W.Frag) (f : Str) (Q : VK) : V → Hp → Prop := fun x H1 => ∃ a C dx fs v, x = .ref a ∧ H1 a = some (.ins C dx fs) ∧ Cls K C ∧ NoAttr K C f ∧ fs.lookup f = some v ∧ Q v H1
def FldQ (C a : Addr) (f : Str) (z : V) (R : Hp → Prop) : Hp → Prop := fun H3 => ∃ dx' fs', H3 a = some (.ins C dx' fs') ∧ fs'.length < 1000 ∧ R (upd H3 a (.ins C dx' (putF f z fs')))
def FldA (K : PySem.W.Frag) (tv : TE) (rd : V → V → Hp → VK → Prop) (f : Str) (R : Hp → Prop) (σ : L2.St) : V → Hp → Prop := fun x H1 => ∃ a C dx fs v, x = .ref a ∧ H1 a = some (.ins C dx fs) ∧ Cls K C ∧ NoAttr K C f ∧ fs.lookup f = some v ∧
  tv σ H1 fun y H2 => rd v y H2 fun z H3 => FldQ C a f z R H3
def MethE (C : Addr) (m : Str) (sp : Sp) (dvs : List V) (E : XK) (t : TA) (σ : L2.St) (Q : VK) : V → Hp → Prop := fun x H1 => ∃ a dx fs, x = .ref a ∧ H1 a = some (.ins C dx fs) ∧ fs.lookup m = none ∧ t σ H1 fun vs H2 => sp (x :: (vs ++ dvs)) H2 Q E
def PropE (C : Addr) (sp : Sp) (dvs : List V) (E : XK) (Q : VK) : V → Hp → Prop := fun x H1 => ∃ a dx fs, x = .ref a ∧ H1 a = some (.ins C dx fs) ∧ sp (.ref a :: dvs) H1 Q E
theorem putF_eq {f : Str} {v x : V} {r : List (Str × V)} : putF f v ((f, x) :: r) = (f, v) :: r := by
  show (if f = f then _ else _) = _
  rw [if_pos rfl]
theorem putF_ne {f g : Str} {v x : V} {r : List (Str × V)} (h : ¬ g = f) : putF f v ((g, x) :: r) = (g, x) :: putF f v r := by
  show (if g = f then _ else _) = _
  rw [if_neg h]
theorem lk_eq {f : Str} {v : V} {r : List (Str × V)} : List.lookup f ((f, v) :: r) = some v := by simp [List.lookup]
theorem lk_ne {f g : Str} {v : V} {r : List (Str × V)} (h : ¬ f = g) : List.lookup f ((g, v) :: r) = List.lookup f r := by
  have e : (f == g) = false := by simpa using h
  simp [List.lookup, e]
/-- a method's receiver is of the type, and the rest -/
def TyAnd (K : PySem.W.Frag) (T : String) (x : V) (H : Hp) (R : Prop) : Prop := tyV K T x H ∧ R
section
variable {K : PySem.W.Frag} {σ : L2.St} {H H' : Hp} {D : Ends} {i : Nat} {x y v : V} {Q : VK} {ta tb te : TE} {c t u : TT} {t1 t2 ts : TS} {r : R2} {g : TG} {tA tr : TA} {R : List V → Hp → Prop} {a p C dx : Addr} {xs : List V} {f : Str} {fs : List (Str × V)} {m n : Int} {B : Bool → Hp → Prop}
/-! statements -/
theorem w_share {R A : Prop} (h1 : Wr R → A) (h2 : R) : A := h1 ⟨h2⟩
theorem w_start {N : List Str} {vs : List V} {σ' : L2.St} (e : L2.start N vs = σ') (h : ts D σ' H) : ts D (L2.start N vs) H := e ▸ h
theorem w_seq (h : t1 { D with nx := t2 D } σ H) : tSeq t1 t2 D σ H := h
theorem w_next (h : D.nx σ H) : tNext D σ H := h
theorem w_asg (h : te σ H fun x H1 => g x σ H1 D.nx) : tAsg te g D σ H := h
theorem w_gname {Q : L2.St → Hp → Prop} (h : Q (σ.set i (some v)) H) : gName i v σ H Q := h
theorem w_ret (h : te σ H D.rt) : tRet te D σ H := h
theorem w_retN (h : D.rt .non H) : tRetN D σ H := h
theorem w_drop (h : te σ H fun _ H1 => D.nx σ H1) : tDrop te D σ H := h
theorem w_ifS (h : c σ H fun b H1 => if b = true then t1 D σ H1 else t2 D σ H1) : tIfS c t1 t2 D σ H := h
theorem w_par {j : Nat} (h : tA σ H (ParE i j (D.nx) σ)) : tPar i j tA D σ H := h
theorem w_parE {j : Nat} {R : L2.St → Hp → Prop} (q : R ((σ.set i (some x)).set j (some y)) H) : ParE i j R σ [x, y] H := ⟨x, y, rfl, q⟩
theorem w_aug {ti : TIp} (e : σ[i]? = some (some x)) (h : te σ H fun y H1 => ti x y H1 fun z H2 => D.nx (σ.set i (some z)) H2) : tAug i te ti D σ H := ⟨x, e, h⟩
theorem w_ipI {f : Int → Int → Int} (h : Q (.int (f m n)) H) : ipI f (.int m) (.int n) H Q := ⟨m, n, rfl, rfl, h⟩
theorem w_fld (h : te σ H fun y H1 => ta σ H1 (FldP K f y (D.nx σ))) : sFld K ta te f D σ H := h
theorem w_fldP {R : Hp → Prop} {fs' : List (Str × V)} (h : H a = some (.ins C dx fs)) (c : Cls K C) (n : NoAttr K C f) (hl : fs.length < 1000) (e : putF f y fs = fs') (q : R (upd H a (.ins C dx fs'))) : FldP K f y R (.ref a) H := ⟨a, C, dx, fs, rfl, h, c, n, hl, by rw [e]; exact q⟩
theorem w_fldaug {rd : V → V → Hp → VK → Prop} (h : ta σ H fun x H1 => FldA K te rd f (D.nx σ) σ x H1) : sFldAug K ta te rd f D σ H := h
theorem w_fldA {rd : V → V → Hp → VK → Prop} {R : Hp → Prop} (h : H a = some (.ins C dx fs)) (c : Cls K C) (n : NoAttr K C f) (e : fs.lookup f = some v) (q : te σ H fun y H2 => rd v y H2 fun z H3 => FldQ C a f z R H3) : FldA K te rd f R σ (.ref a) H := ⟨a, C, dx, fs, v, rfl, h, c, n, e, q⟩
theorem w_fldQ {R : Hp → Prop} {fs' : List (Str × V)} {z : V} (h : H a = some (.ins C dx fs)) (hl : fs.length < 1000) (e : putF f z fs = fs') (q : R (upd H a (.ins C dx fs'))) : FldQ C a f z R H := ⟨dx, fs, h, hl, by rw [e]; exact q⟩
theorem w_rAdd (q : Q (.int (m + n)) H) : L2.rAdd (.int m) (.int n) H Q := ⟨m, n, rfl, rfl, q⟩
theorem w_rSub (q : Q (.int (m - n)) H) : L2.rSub (.int m) (.int n) H Q := ⟨m, n, rfl, rfl, q⟩
/-! expressions -/
theorem w_var (e : σ[i]? = some (some v)) (h : Q v H) : tVar i σ H Q := ⟨v, e, h⟩
theorem w_c (h : Q v H) : tC v σ H Q := h
theorem w_op (h : ta σ H fun x H1 => tb σ H1 fun y H2 => r x y H2 Q) : tOp r ta tb σ H Q := h
theorem w_un {r : V → Hp → VK → Prop} (h : ta σ H fun x H1 => r x H1 Q) : tUn r ta σ H Q := h
theorem w_I0 {g : Int → Int → V} (h : Q (g m n) H) : rI0 g (.int m) (.int n) H Q := ⟨m, n, rfl, rfl, h⟩
theorem w_I {P : Int → Int → Prop} {g : Int → Int → V} (c : P m n) (h : Q (g m n) H) : rI P g (.int m) (.int n) H Q := ⟨m, n, rfl, rfl, c, h⟩
theorem w_powW (c : CPowW m n) (h : Q (.int (m ^ n.toNat)) H) : rI CPowW (fun i j => .int (i ^ j.toNat)) (.int m) (.int n) H Q := ⟨m, n, rfl, rfl, c, h⟩
theorem w_U {g : Int → V} (h : Q (g m) H) : rU g (.int m) H Q := ⟨m, rfl, h⟩
theorem w_eq (c : scal x y = true) (h : Q (.bl (decide (x = y))) H) : rEq x y H Q := ⟨c, h⟩
theorem w_eqI (h : Q (.bl (decide (m = n))) H) : rEq (.int m) (.int n) H Q := ⟨rfl, by
  have e : decide (V.int m = V.int n) = decide (m = n) := by
    by_cases z : m = n
    · subst z
      rw [decide_eq_true rfl, decide_eq_true rfl]
    · rw [decide_eq_false z, decide_eq_false fun q => z (V.int.inj q)]
  rw [e]
  exact h⟩
theorem w_neI (h : Q (.bl (!decide (m = n))) H) : rNe (.int m) (.int n) H Q := ⟨rfl, by
  have e : decide (V.int m = V.int n) = decide (m = n) := by
    by_cases z : m = n
    · subst z
      rw [decide_eq_true rfl, decide_eq_true rfl]
    · rw [decide_eq_false z, decide_eq_false fun q => z (V.int.inj q)]
  rw [e]
  exact h⟩
theorem w_ne (c : scal x y = true) (h : Q (.bl (!decide (x = y))) H) : rNe x y H Q := ⟨c, h⟩
theorem w_ixL (h : SqL K H p xs) (ha : atI xs m = some v) (q : Q v H) : rIxL K (.ref p) (.int m) H Q := ⟨p, xs, m, v, rfl, rfl, h, ha, q⟩
theorem w_ixT (h : SqT K H p xs) (ha : atI xs m = some v) (q : Q v H) : rIxT K (.ref p) (.int m) H Q := ⟨p, xs, m, v, rfl, rfl, h, ha, q⟩
theorem w_sub {to ti : TE} {tq : TSet} {Q : L2.St → Hp → Prop} (h : to σ H fun o H1 => ti σ H1 fun i H2 => tq o i v H2 fun H3 => Q σ H3) : gSub to ti tq v σ H Q := h
theorem w_setL {j : Nat} {Q : Hp → Prop} (h : H p = some (.lst xs)) (e : ixN xs.length m = some j) (q : Q (upd H p (.lst (xs.set j v)))) : rSetL (.ref p) (.int m) v H Q := ⟨p, xs, m, j, rfl, rfl, h, e, q⟩
theorem w_nil (h : R [] H) : tNil σ H R := h
theorem w_cons (h : te σ H fun x H1 => tr σ H1 fun xs H2 => R (x :: xs) H2) : tCons te tr σ H R := h
theorem w_call {sp : Sp} {dvs : List V} {E : XK} (h : tA σ H fun vs H1 => sp (vs ++ dvs) H1 Q E) : tCall sp dvs E tA σ H Q := h
theorem w_CB {r : List V → Hp → VK → Prop} (h : tA σ H fun vs H1 => r vs H1 Q) : tCB r tA σ H Q := h
theorem w_lst (h : tA σ H fun xs H1 => xs.length ≤ sizeLine ∧ ∀ p, H1 p = none → Q (.ref p) (upd H1 p (.lst xs))) : tLst tA σ H Q := h
theorem w_tup (h : tA σ H fun xs H1 => xs.length ≤ sizeLine ∧ ∀ p, H1 p = none → Q (.ref p) (upd H1 p (.tup xs))) : tTup tA σ H Q := h
theorem w_tfld (h : ta σ H (FldG K f Q)) : tFld K ta f σ H Q := h
theorem w_fldG (h : H a = some (.ins C dx fs)) (c : Cls K C) (n : NoAttr K C f) (e : fs.lookup f = some v) (q : Q v H) : FldG K f Q (.ref a) H := ⟨a, C, dx, fs, v, rfl, h, c, n, e, q⟩
theorem w_meth {sp : Sp} {dvs : List V} {E : XK} (h : ta σ H (MethE C f sp dvs E tA σ Q)) : tMeth C f sp dvs E ta tA σ H Q := h
theorem w_methE {sp : Sp} {dvs : List V} {E : XK} (h : H a = some (.ins C dx fs)) (e : fs.lookup f = none) (q : tA σ H fun vs H2 => sp (.ref a :: (vs ++ dvs)) H2 Q E) : MethE C f sp dvs E tA σ Q (.ref a) H := ⟨a, dx, fs, rfl, h, e, q⟩
theorem w_prop {sp : Sp} {dvs : List V} {E : XK} (h : ta σ H (PropE C sp dvs E Q)) : tProp C sp dvs E ta σ H Q := h
theorem w_propE {sp : Sp} {dvs : List V} {E : XK} (h : H a = some (.ins C dx fs)) (q : sp (.ref a :: dvs) H Q E) : PropE C sp dvs E Q (.ref a) H := ⟨a, dx, fs, rfl, h, q⟩
theorem w_make {sp : Sp} {dvs : List V} {E : XK} (h : tA σ H fun vs H1 => ∀ x dx, H1 x = none → H1 dx = none → dx ≠ x → sp (.ref x :: (vs ++ dvs)) (upd (upd H1 dx (.own x)) x (.ins C dx [])) (fun v H2 => v = .non ∧ Q (.ref x) H2) E) : tMake C sp dvs E tA σ H Q := h
theorem w_if (h : c σ H fun b H1 => if b = true then ta σ H1 Q else tb σ H1 Q) : tIf c ta tb σ H Q := h
theorem w_bm {T : String} {r : V → List V → Hp → VK → Prop} (h : ta σ H fun x H1 => TyAnd K T x H1 (tA σ H1 fun xs H2 => r x xs H2 Q)) : tBM K T r ta tA σ H Q := h
theorem w_bm0 {T : String} {r : V → List V → Hp → VK → Prop} (h : ta σ H fun x H1 => TyAnd K T x H1 (r x [] H1 Q)) : tBM0 K T r ta σ H Q := h
theorem w_chain {r r' : R2} {tc : TE} (h : ta σ H fun x H1 => tb σ H1 fun y H2 => r x y H2 fun z H3 => ∃ k, z = .bl k ∧ (if k = true then tc σ H3 fun w' H4 => r' y w' H4 Q else Q (.bl false) H3)) : tChain r r' ta tb tc σ H Q := h
/-! tests -/
theorem w_test (h : te σ H fun x H' => ∃ k, x = .bl k ∧ B k H') : tTest te σ H B := h
theorem w_tB (h : te σ H fun x H' => ∃ k, x = .bl k ∧ B k H') : tB te σ H B := h
theorem w_exbl {b : Bool} {P : Bool → Prop} (h : P b) : ∃ k, V.bl b = V.bl k ∧ P k := ⟨b, rfl, h⟩
theorem w_not (h : t σ H fun b H' => B (!b) H') : tNot t σ H B := h
theorem w_and (h : t σ H fun b H1 => if b = true then u σ H1 B else B false H1) : tAnd t u σ H B := h
theorem w_or (h : t σ H fun b H1 => if b = true then B true H1 else u σ H1 B) : tOr t u σ H B := h
theorem w_ite {c A B : Prop} [Decidable c] (h1 : c → A) (h2 : ¬ c → B) : if decide c = true then A else B := by
  by_cases h : c
  · rw [if_pos (decide_eq_true h)]
    exact h1 h
  · rw [if_neg (by rw [decide_eq_false h]; decide)]
    exact h2 h
theorem w_iteN {c A B : Prop} [Decidable c] (h1 : ¬ c → A) (h2 : c → B) : if (!decide c) = true then A else B := by
  by_cases h : c
  · rw [if_neg (by rw [decide_eq_true h]; decide)]
    exact h2 h
  · rw [if_pos (by rw [decide_eq_false h]; rfl)]
    exact h1 h
theorem w_iteT {A B : Prop} (h : A) : if true = true then A else B := by rw [if_pos rfl]; exact h
theorem w_iteF {A B : Prop} (h : B) : if false = true then A else B := by rw [if_neg Bool.false_ne_true]; exact h
theorem w_iteNT {A B : Prop} (h : B) : if (!true) = true then A else B := by rw [if_neg (by decide)]; exact h
theorem w_iteNF {A B : Prop} (h : A) : if (!false) = true then A else B := by rw [if_pos (by decide)]; exact h
theorem w_iteP {c A B : Prop} [Decidable c] (hc : c) (h : A) : if decide c = true then A else B := w_ite (fun _ => h) fun n => absurd hc n
theorem w_iteQ {c A B : Prop} [Decidable c] (hc : ¬ c) (h : B) : if decide c = true then A else B := w_ite (fun n => absurd n hc) fun _ => h
theorem w_iteNP {c A B : Prop} [Decidable c] (hc : c) (h : B) : if (!decide c) = true then A else B := w_iteN (fun n => absurd hc n) fun _ => h
theorem w_iteNQ {c A B : Prop} [Decidable c] (hc : ¬ c) (h : A) : if (!decide c) = true then A else B := w_iteN (fun _ => h) fun n => absurd n hc
theorem w_iteB {b : Bool} {A B : Prop} (h1 : b = true → A) (h2 : b = false → B) : if b = true then A else B := by
  cases b with
  | true => exact w_iteT (h1 rfl)
  | false => exact w_iteF (h2 rfl)
end

/-! ### reads of lists -/
theorem atI_lt {α : Type} {xs : List α} {r : Int} (h0 : 0 ≤ r) (h1 : r < xs.length) : ∃ v, v ∈ xs ∧ atI xs r = some v ∧ xs[r.toNat]? = some v := by
  have hl : r.toNat < xs.length := by omega
  have e : xs[r.toNat]? = some xs[r.toNat] := List.getElem?_eq_getElem hl
  refine ⟨xs[r.toNat], List.getElem_mem hl, ?_, e⟩
  have q := atI_nat e
  have z : ((r.toNat : Nat) : Int) = r := Int.toNat_of_nonneg h0
  rw [z] at q
  exact q
theorem atI_ints {ns : List Int} {r : Int} (h0 : 0 ≤ r) (h1 : r < ns.length) : ∃ n, n ∈ ns ∧ atI (ns.map V.int) r = some (.int n) ∧ ns[r.toNat]? = some n := by
  obtain ⟨v, hv, e, e2⟩ := atI_lt (xs := ns.map V.int) h0 (by rw [List.length_map]; exact h1)
  rw [List.getElem?_map] at e2
  cases q : ns[r.toNat]? with
  | none =>
    rw [q] at e2
    cases e2
  | some n =>
    rw [q] at e2
    cases e2
    exact ⟨n, List.mem_of_getElem? q, e, rfl⟩
theorem map_at {ns : List Int} {i : Nat} {x : V} (h : (ns.map V.int)[i]? = some x) : ∃ n, ns[i]? = some n ∧ x = .int n := by
  rw [List.getElem?_map] at h
  cases e : ns[i]? with
  | none =>
    rw [e] at h
    cases h
  | some n =>
    rw [e] at h
    exact ⟨n, rfl, (Option.some.inj h).symm⟩
theorem map_at' {α : Type} {f : α → V} {ns : List α} {i : Nat} {x : V} (h : (ns.map f)[i]? = some x) : ∃ n, ns[i]? = some n ∧ x = f n := by
  rw [List.getElem?_map] at h
  cases e : ns[i]? with
  | none =>
    rw [e] at h
    cases h
  | some n =>
    rw [e] at h
    exact ⟨n, rfl, (Option.some.inj h).symm⟩
theorem map_snoc (f : Int → V) (ns : List Int) (n : Int) : ns.map f ++ [f n] = (ns ++ [n]).map f := by simp

/-- the ints of written items -/
def unV : List V → List Int
  | [] => []
  | .int i :: r => i :: unV r
  | _ :: r => unV r
section
variable {K : PySem.W.Frag} {H : Hp} {p : Addr} {xs : List V} {m : Int} {Q : VK} {ns : List Int}
theorem w_ixLi (h : SqL K H p xs) (e : xs = (unV xs).map V.int) (h0 : 0 ≤ m) (h1 : m < (unV xs).length) (q : ∀ n, n ∈ unV xs → Q (.int n) H) : rIxL K (.ref p) (.int m) H Q := by
  obtain ⟨n, hn, e2, _⟩ := atI_ints h0 h1
  rw [← e] at e2
  exact w_ixL h e2 (q n hn)
theorem w_ixTi (h : SqT K H p xs) (e : xs = (unV xs).map V.int) (h0 : 0 ≤ m) (h1 : m < (unV xs).length) (q : ∀ n, n ∈ unV xs → Q (.int n) H) : rIxT K (.ref p) (.int m) H Q := by
  obtain ⟨n, hn, e2, _⟩ := atI_ints h0 h1
  rw [← e] at e2
  exact w_ixT h e2 (q n hn)
theorem w_ixLm (h : SqL K H p (ns.map V.int)) (h0 : 0 ≤ m) (h1 : m < ns.length) (q : ∀ n, ns[m.toNat]? = some n → Q (.int n) H) : rIxL K (.ref p) (.int m) H Q := by
  obtain ⟨n, hn, e2, e3⟩ := atI_ints h0 h1
  exact w_ixL h e2 (q n e3)
theorem w_ixLast (h : SqL K H p (ns.map V.int)) (hne : ns ≠ []) (q : ∀ init x, ns = init ++ [x] → Q (.int x) H) : rIxL K (.ref p) (.int (-1)) H Q := by
  obtain ⟨init, x, e⟩ : ∃ init x, ns = init ++ [x] := by
    exact ⟨ns.dropLast, ns.getLast hne, (List.dropLast_concat_getLast hne).symm⟩
  subst e
  refine w_ixL h ?_ (q _ _ rfl)
  rw [List.map_append]
  exact atI_last _ _
theorem w_len {r : List V} (h : SqL K H p r) (q : Q (.int r.length) H) : rLen K [.ref p] H Q := ⟨_, _, rfl, .inl ⟨r, h, rfl⟩, q⟩
theorem w_lenI (h : SqL K H p (ns.map V.int)) (q : Q (.int ns.length) H) : rLen K [.ref p] H Q := w_len h (by rw [List.length_map]; exact q)
theorem w_append {y : V} (h : H p = some (.lst xs)) (hz : xs.length < sizeLine) (q : Q .non (upd H p (.lst (xs ++ [y])))) : rAppend (.ref p) [y] H Q := ⟨p, xs, y, rfl, rfl, h, hz, q⟩
theorem w_appendI {y : Int} (h : H p = some (.lst (ns.map V.int))) (hz : ns.length < 16777216) (q : Q .non (upd H p (.lst ((ns ++ [y]).map V.int)))) : rAppend (.ref p) [.int y] H Q :=
  ⟨p, _, _, rfl, rfl, h, szlt (by rw [List.length_map]; exact hz), by rw [map_snoc]; exact q⟩
theorem w_tyL {R : Prop} (h : H p = some (.lst xs)) (q : R) : TyAnd K "list" (.ref p) H R := ⟨.inl ⟨rfl, _, SqL.of h⟩, q⟩
theorem w_max2 {i j : Int} (q : Q (.int (if j > i then j else i)) H) : rMax2 [.int i, .int j] H Q := ⟨i, j, rfl, q⟩
theorem w_min2 {i j : Int} (q : Q (.int (if j < i then j else i)) H) : rMin2 [.int i, .int j] H Q := ⟨i, j, rfl, q⟩
theorem w_abs {i : Int} (q : Q (.int (if i < 0 then -i else i)) H) : rAbs [.int i] H Q := ⟨i, rfl, q⟩
theorem w_sum (h : SqL K H p (ns.map V.int)) (q : Q (.int ns.sum) H) : rSum K [.ref p] H Q := ⟨p, ns, rfl, h, q⟩
theorem w_maxL (h : SqL K H p (ns.map V.int)) (h0 : 0 < ns.length) (q : ∀ m, m ∈ ns → (∀ y, y ∈ ns → y ≤ m) → Q (.int m) H) : rMax K [.ref p] H Q := ⟨p, ns, rfl, h, h0, q⟩
theorem w_minL (h : SqL K H p (ns.map V.int)) (h0 : 0 < ns.length) (q : ∀ m, m ∈ ns → (∀ y, y ∈ ns → m ≤ y) → Q (.int m) H) : rMin K [.ref p] H Q := ⟨p, ns, rfl, h, h0, q⟩
theorem w_catI {q : Addr} {ms : List Int} (h1 : H p = some (.lst (ns.map V.int))) (h2 : H q = some (.lst (ms.map V.int))) (hz : ns.length + ms.length ≤ 16777216) (k : ∀ r, H r = none → Q (.ref r) (upd H r (.lst ((ns ++ ms).map V.int)))) : rCat (.ref p) (.ref q) H Q :=
  ⟨p, q, _, _, rfl, rfl, h1, h2, szle' (by rw [List.length_map, List.length_map]; exact hz), fun r hr => by rw [← List.map_append]; exact k r hr⟩
theorem w_ixAny (h : SqL K H p xs) (h0 : 0 ≤ m) (h1 : m < xs.length) (q : ∀ v, v ∈ xs → Q v H) : rIxL K (.ref p) (.int m) H Q := by
  obtain ⟨v, hv, e, _⟩ := atI_lt h0 h1
  exact w_ixL h e (q v hv)
theorem w_catIL {q : Addr} {ys : List V} (h1 : H p = some (.lst (ns.map V.int))) (h2 : H q = some (.lst ys)) (e : ys = (unV ys).map V.int) (hz : ns.length + (unV ys).length ≤ 16777216) (k : ∀ r, H r = none → Q (.ref r) (upd H r (.lst ((ns ++ unV ys).map V.int)))) : rCat (.ref p) (.ref q) H Q :=
  w_catI h1 (by rw [← e]; exact h2) hz k
theorem w_catLI {q : Addr} {ys : List V} (h1 : H p = some (.lst ys)) (h2 : H q = some (.lst (ns.map V.int))) (e : ys = (unV ys).map V.int) (hz : (unV ys).length + ns.length ≤ 16777216) (k : ∀ r, H r = none → Q (.ref r) (upd H r (.lst ((unV ys ++ ns).map V.int)))) : rCat (.ref p) (.ref q) H Q :=
  w_catI (by rw [← e]; exact h1) h2 hz k
theorem w_repI {k : Int} (h : H p = some (.lst (ns.map V.int))) (k1 : -(2 ^ 63) ≤ k) (k2 : k < 2 ^ 63) (hz : ns.length * k.toNat ≤ 16777216) (q : ∀ r, H r = none → Q (.ref r) (upd H r (.lst ((List.replicate k.toNat (ns.map V.int)).flatten)))) : rRep (.ref p) (.int k) H Q :=
  ⟨p, k, _, rfl, rfl, h, k1, k2, szle' (by rw [List.length_map]; exact hz), fun r hr => q r hr⟩
theorem w_intI {i : Int} (q : Q (.int i) H) : rInt1 [.int i] H Q := .inl ⟨i, rfl, q⟩
theorem w_intB {k : Bool} (q : Q (.int (if k then 1 else 0)) H) : rInt1 [.bl k] H Q := .inr ⟨k, rfl, q⟩
theorem w_strI {i : Int} (h : i.natAbs.log2 < 1920) (q : Q (.str (toString i)) H) : rStrI [.int i] H Q := ⟨i, rfl, h, q⟩
theorem w_listof (h : SqL K H p xs) (q : ∀ l, H l = none → Q (.ref l) (upd H l (.lst xs))) : rListOf K [.ref p] H Q := ⟨p, xs, rfl, .inl h, q⟩
end

theorem mem_snoc {α : Type} {P : α → Prop} {xs : List α} {y : α} (h : ∀ x ∈ xs, P x) (hy : P y) : ∀ x ∈ xs ++ [y], P x := fun x hx => by
  rcases List.mem_append.mp hx with z | z
  · exact h x z
  · rw [List.mem_singleton.mp z]
    exact hy
theorem len_snoc {α : Type} {xs : List α} {y : α} {i : Nat} (h : xs.length = i) : (xs ++ [y]).length = i + 1 := by simp [h]

/-! ### data -/
section
variable {K : PySem.W.Frag} {H : Hp}
theorem dpAll_ints : ∀ ns : List Int, DpAll K H (ns.map V.int) (ns.map PyData.int)
  | [] => .nil
  | n :: ns => .cons (.int n) (dpAll_ints ns)
theorem canLay_ints : ∀ ns : List Int, PyData.canLayAll0 (ns.map PyData.int) = true
  | [] => rfl
  | n :: ns => by
    have ih := canLay_ints ns
    simp only [List.map_cons, PyData.canLayAll0, PyData.canLay0, ih, Bool.and_self]
theorem depth_ints : ∀ ns : List Int, PyData.depthAll (ns.map PyData.int) ≤ 1
  | [] => by simp [PyData.depthAll]
  | n :: ns => by
    have ih := depth_ints ns
    simp only [List.map_cons, PyData.depthAll, PyData.depth]
    omega
theorem shaped_ints (ns : List Int) : SeqAt.shaped (.list (ns.map PyData.int)) = true := by
  unfold SeqAt.shaped
  have h1 : PyData.canLay0 (.list (ns.map PyData.int)) = true := by simp only [PyData.canLay0]; exact canLay_ints ns
  have h2 : PyData.depth (.list (ns.map PyData.int)) ≤ 64 := by
    have := depth_ints ns
    simp only [PyData.depth]
    omega
  rw [h1, decide_eq_true h2]
  rfl
theorem eqvAll_ints : ∀ ns ms : List Int, PyData.eqvAll (ns.map PyData.int) (ms.map PyData.int) = decide (ns = ms)
  | [], [] => by simp [PyData.eqvAll]
  | [], m :: ms => by simp [PyData.eqvAll]
  | n :: ns, [] => by simp [PyData.eqvAll]
  | n :: ns, m :: ms => by
    simp only [List.map_cons, PyData.eqvAll, PyData.eqv, eqvAll_ints ns ms]
    by_cases h : n = m
    · subst h
      by_cases h2 : ns = ms <;> simp [h2]
    · simp [h]
theorem eqv_ints (ns ms : List Int) : PyData.eqv (.list (ns.map PyData.int)) (.list (ms.map PyData.int)) = decide (ns = ms) := by
  simp only [PyData.eqv]
  exact eqvAll_ints ns ms
theorem dp_ints {p : Addr} {ns : List Int} (h : SqL K H p (ns.map V.int)) : Dp K H (.ref p) (.list (ns.map PyData.int)) := .lst h (dpAll_ints ns)
variable {p q : Addr} {ns ms : List Int} {Q : VK}
theorem w_eqLI (h1 : SqL K H p (ns.map V.int)) (h2 : SqL K H q (ms.map V.int)) (k : Q (.bl (decide (ns = ms))) H) : rEqD K (.ref p) (.ref q) H Q :=
  ⟨_, _, dp_ints h1, dp_ints h2, shaped_ints _, shaped_ints _, by rw [eqv_ints]; exact k⟩
theorem w_neLI (h1 : SqL K H p (ns.map V.int)) (h2 : SqL K H q (ms.map V.int)) (k : Q (.bl (!decide (ns = ms))) H) : rNeD K (.ref p) (.ref q) H Q :=
  ⟨_, _, dp_ints h1, dp_ints h2, shaped_ints _, shaped_ints _, by rw [eqv_ints]; exact k⟩
theorem w_eqNil (h1 : SqL K H p (ns.map V.int)) (h2 : SqL K H q []) (k : Q (.bl (decide (ns = []))) H) : rEqD K (.ref p) (.ref q) H Q := w_eqLI (ms := []) h1 h2 k
theorem w_neNil (h1 : SqL K H p (ns.map V.int)) (h2 : SqL K H q []) (k : Q (.bl (!decide (ns = []))) H) : rNeD K (.ref p) (.ref q) H Q := w_neLI (ms := []) h1 h2 k
end

/-! ### loops -/
def ForB (g : TG) (tb : TS) (D : Ends) (σ : L2.St) : It → Hp → Prop := fun J H1 => ∃ W : Nat → Nat → L2.St → Hp → Prop, (∃ m, W 0 m σ H1) ∧ ∀ i m σ H, W i m σ H →
  (J.stop i H ∧ D.nx σ H) ∨ (J.go i H ∧ ∃ N : L2.St → Hp → Prop, (∀ σ' H', N σ' H' → ∃ m', m' < m ∧ W (i + 1) m' σ' H') ∧ ∀ x H', J.yld i H x H' → g x σ H' fun σ2 H2 => tb { D with nx := N, ct := N, bk := D.nx } σ2 H2)
/-- y is appended to the new list at L, then N -/
def AppE (L : Addr) (N : Hp → Prop) : V → Hp → Prop := fun y H4 => ∃ acc, H4 L = some (.lst acc) ∧ acc.length < sizeLine ∧ N (upd H4 L (.lst (acc ++ [y])))
def LcB (g : TG) (tt : TT) (te : TE) (vs : List Nat) (σ : L2.St) (Q : VK) : It → Hp → Prop := fun J H1 => ∀ D, H1 D = none → ∃ W : Nat → Nat → Hp → Prop, (∃ m, W 0 m (upd H1 D (.lst []))) ∧ ∀ i m H, W i m H →
  (J.stop i H ∧ Q (.ref D) H) ∨ (J.go i H ∧ ∃ Nx : Hp → Prop, (∀ H', Nx H' → ∃ m', m' < m ∧ W (i + 1) m' H') ∧ ∀ x H', J.yld i H x H' → g x (wipe σ vs) H' fun σ2 H2 => wipe σ2 vs = wipe σ vs ∧ tt σ2 H2 fun b H3 =>
    if b = true then te σ2 H3 (AppE D Nx) else Nx H3)
section
variable {K : PySem.W.Frag} {σ : L2.St} {H : Hp} {D : Ends} {wi : TI} {g : TG} {tb : TS} {tt : TT} {te tl : TE} {ta : TA} {vs : List Nat} {Q : VK} {R : It → Hp → Prop} {a : Addr} {xs : List V} {lo j : Int} {n : Nat}
theorem w_for (h : wi σ H (ForB g tb D σ)) : tFor wi g tb D σ H := h
theorem w_lc (h : wi σ H (LcB g tt te vs σ Q)) : tLc wi g tt te vs σ H Q := h
def LstE (K : PySem.W.Frag) (R : It → Hp → Prop) : V → Hp → Prop := fun x H1 => ∃ a, x = .ref a ∧ (∃ xs, SqL K H1 a xs) ∧ R (Itl K a) H1
def Rng1E (R : It → Hp → Prop) : List V → Hp → Prop := fun vs H1 => ∃ j : Int, vs = [.int j] ∧ -(2 ^ 62) ≤ j ∧ j < 2 ^ 62 ∧ R (Itr 0 j.toNat) H1
def Rng2E (R : It → Hp → Prop) : List V → Hp → Prop := fun vs H1 => ∃ i j : Int, vs = [.int i, .int j] ∧ (-(2 ^ 62) ≤ i ∧ i < 2 ^ 62 ∧ -(2 ^ 62) ≤ j ∧ j < 2 ^ 62) ∧ R (Itr i (j - i).toNat) H1
theorem w_iList (h : tl σ H (LstE K R)) : iList K tl σ H R := h
theorem w_iListE (h : SqL K H a xs) (q : R (Itl K a) H) : LstE K R (.ref a) H := ⟨a, rfl, ⟨xs, h⟩, q⟩
theorem w_rng1 (h : ta σ H (Rng1E R)) : iRng1 ta σ H R := h
theorem w_rng1E (h1 : -(2 ^ 62) ≤ j) (h2 : j < 2 ^ 62) (q : R (Itr 0 j.toNat) H) : Rng1E R [.int j] H := ⟨j, rfl, h1, h2, q⟩
theorem w_rng2 (h : ta σ H (Rng2E R)) : iRng2 ta σ H R := h
theorem w_rng2E (h1 : -(2 ^ 62) ≤ lo ∧ lo < 2 ^ 62 ∧ -(2 ^ 62) ≤ j ∧ j < 2 ^ 62) (q : R (Itr lo (j - lo).toNat) H) : Rng2E R [.int lo, .int j] H := ⟨lo, j, rfl, h1, q⟩
theorem f_range (Pv : Nat → L2.St → Hp → Prop) (h0 : Pv 0 σ H) (hs : ∀ i σ H, i < n → Pv i σ H → g (.int (lo + i)) σ H fun σ2 H2 => tb { D with nx := Pv (i + 1), ct := Pv (i + 1), bk := D.nx } σ2 H2) (hd : ∀ σ H, Pv n σ H → D.nx σ H) :
    ForB g tb D σ (Itr lo n) H := for_range Pv h0 hs hd
theorem f_list (xs : List V) (Pv : Nat → L2.St → Hp → Prop) (h0 : Pv 0 σ H) (hl : ∀ i σ H, i ≤ xs.length → Pv i σ H → SqL K H a xs) (hs : ∀ i x σ H, xs[i]? = some x → Pv i σ H → g x σ H fun σ2 H2 => tb { D with nx := Pv (i + 1), ct := Pv (i + 1), bk := D.nx } σ2 H2) (hd : ∀ σ H, Pv xs.length σ H → D.nx σ H) :
    ForB g tb D σ (Itl K a) H := for_list Pv h0 hl hs hd
theorem f_tup (xs : List V) (Pv : Nat → L2.St → Hp → Prop) (h0 : Pv 0 σ H) (hl : ∀ i σ H, i ≤ xs.length → Pv i σ H → SqT K H a xs) (hs : ∀ i x σ H, xs[i]? = some x → Pv i σ H → g x σ H fun σ2 H2 => tb { D with nx := Pv (i + 1), ct := Pv (i + 1), bk := D.nx } σ2 H2) (hd : ∀ σ H, Pv xs.length σ H → D.nx σ H) :
    ForB g tb D σ (Itt K a) H := for_tup Pv h0 hl hs hd
/-- enumerate: each turn a new pair -/
theorem f_enum (xs : List V) (Pv : Nat → L2.St → Hp → Prop) (h0 : Pv 0 σ H) (hl : ∀ i σ H, i ≤ xs.length → Pv i σ H → SqL K H a xs)
    (hs : ∀ (i : Nat) (x : V) (T : Addr) (σ : L2.St) (H : Hp), xs[i]? = some x → Pv i σ H → H T = none → g (.ref T) σ (upd H T (.tup [.int (i : Nat), x])) fun σ2 H2 => tb { D with nx := Pv (i + 1), ct := Pv (i + 1), bk := D.nx } σ2 H2) (hd : ∀ σ H, Pv xs.length σ H → D.nx σ H) :
    ForB g tb D σ (Ite K a) H := by
  refine ⟨fun i m σ H => m = xs.length - i ∧ i ≤ xs.length ∧ Pv i σ H, ⟨xs.length, by simp, Nat.zero_le _, h0⟩, ?_⟩
  rintro i m σ H ⟨rfl, hi, p⟩
  have q := hl i σ H hi p
  by_cases hlt : i < xs.length
  · refine .inr ⟨⟨xs, xs[i], q, by simp [hlt]⟩, Pv (i + 1), fun σ' H' p' => ⟨xs.length - (i + 1), by omega, rfl, hlt, p'⟩, fun x H' y => ?_⟩
    obtain ⟨T, x', rfl, hT, rfl, f1⟩ := y
    exact hs i x' T σ H (f1 xs q) p hT
  · have e : i = xs.length := by omega
    subst e
    exact .inl ⟨⟨xs, q, Nat.le_refl _⟩, hd σ H p⟩
theorem f_zip {b : Addr} (xs ys : List V) (hl : xs.length = ys.length) (Pv : Nat → L2.St → Hp → Prop) (h0 : Pv 0 σ H) (hq : ∀ i σ H, Pv i σ H → SqL K H a xs ∧ SqL K H b ys)
    (hs : ∀ (i : Nat) (x y : V) (T : Addr) (σ : L2.St) (H : Hp), xs[i]? = some x → ys[i]? = some y → Pv i σ H → H T = none → g (.ref T) σ (upd H T (.tup [x, y])) fun σ2 H2 => tb { D with nx := Pv (i + 1), ct := Pv (i + 1), bk := D.nx } σ2 H2) (hd : ∀ σ H, Pv xs.length σ H → D.nx σ H) :
    ForB g tb D σ (Itz K a b) H := by
  refine ⟨fun i m σ H => m = xs.length - i ∧ i ≤ xs.length ∧ Pv i σ H, ⟨xs.length, rfl, Nat.zero_le _, h0⟩, ?_⟩
  rintro i m σ H ⟨rfl, hi, p⟩
  obtain ⟨qx, qy⟩ := hq i σ H p
  by_cases hlt : i < xs.length
  · have hx : xs[i]? = some xs[i] := List.getElem?_eq_getElem hlt
    have hlt2 : i < ys.length := by omega
    have hy : ys[i]? = some ys[i] := List.getElem?_eq_getElem hlt2
    refine .inr ⟨⟨xs, ys, _, _, qx, qy, hx, hy⟩, Pv (i + 1), fun σ' H' p' => ⟨xs.length - (i + 1), by omega, rfl, hlt, p'⟩, fun v H' y => ?_⟩
    obtain ⟨T, x', y', rfl, hT, rfl, f1, f2⟩ := y
    exact hs i x' y' T σ H (f1 xs qx) (f2 ys qy) p hT
  · have e : i = xs.length := by omega
    subst e
    exact .inl ⟨⟨xs, ys, qx, qy, Or.inl (Nat.le_refl _)⟩, hd σ H p⟩
def EnuE (K : PySem.W.Frag) (R : It → Hp → Prop) : List V → Hp → Prop := fun vs H1 => ∃ a xs, vs = [.ref a] ∧ SqL K H1 a xs ∧ R (Ite K a) H1
theorem w_enum (h : ta σ H (EnuE K R)) : iEnum K ta σ H R := h
theorem w_enumE (h : SqL K H a xs) (q : R (Ite K a) H) : EnuE K R [.ref a] H := ⟨a, xs, rfl, h, q⟩
def ZipE (K : PySem.W.Frag) (R : It → Hp → Prop) : List V → Hp → Prop := fun vs H1 => ∃ a b xs ys, vs = [.ref a, .ref b] ∧ SqL K H1 a xs ∧ SqL K H1 b ys ∧ R (Itz K a b) H1
theorem w_zip (h : ta σ H (ZipE K R)) : iZip K ta σ H R := h
theorem w_zipE {b : Addr} {ys : List V} (h : SqL K H a xs) (h2 : SqL K H b ys) (q : R (Itz K a b) H) : ZipE K R [.ref a, .ref b] H := ⟨a, b, xs, ys, rfl, h, h2, q⟩
theorem w_gTup {k : Nat} {t : TGs} {Q : L2.St → Hp → Prop} (h : SqT K H a xs) (e : xs.length = k) (q : t xs σ H Q) : gTup K k t (.ref a) σ H Q := ⟨a, xs, rfl, h, e, q⟩
theorem w_gLst {k : Nat} {t : TGs} {Q : L2.St → Hp → Prop} (h : SqL K H a xs) (e : xs.length = k) (q : t xs σ H Q) : gLst K k t (.ref a) σ H Q := ⟨a, xs, rfl, h, e, q⟩
theorem w_gNil {Q : L2.St → Hp → Prop} (q : Q σ H) : gNil [] σ H Q := ⟨rfl, q⟩
theorem w_gCons {v : V} {r : List V} {u : TGs} {Q : L2.St → Hp → Prop} (q : g v σ H fun σ' H' => u r σ' H' Q) : gCons g u (v :: r) σ H Q := ⟨v, r, rfl, q⟩
theorem l_range (Pv : Addr → Nat → Hp → Prop) (h0 : ∀ L, H L = none → Pv L 0 (upd H L (.lst []))) (hs : ∀ L i H', H L = none → i < n → Pv L i H' → g (.int (lo + i)) (wipe σ vs) H' fun σ2 H2 => wipe σ2 vs = wipe σ vs ∧ tt σ2 H2 fun b H3 => if b = true then te σ2 H3 (AppE L (Pv L (i + 1))) else Pv L (i + 1) H3)
    (hd : ∀ L H', H L = none → Pv L n H' → Q (.ref L) H') : LcB g tt te vs σ Q (Itr lo n) H := fun L hL => lc_range (Pv L) (h0 L hL) (fun i H' => hs L i H' hL) (fun H' => hd L H' hL)
theorem l_list (xs : List V) (Pv : Addr → Nat → Hp → Prop) (h0 : ∀ L, H L = none → Pv L 0 (upd H L (.lst []))) (hl : ∀ L i H', H L = none → i ≤ xs.length → Pv L i H' → SqL K H' a xs) (hs : ∀ L i x H', H L = none → xs[i]? = some x → Pv L i H' → g x (wipe σ vs) H' fun σ2 H2 => wipe σ2 vs = wipe σ vs ∧ tt σ2 H2 fun b H3 => if b = true then te σ2 H3 (AppE L (Pv L (i + 1))) else Pv L (i + 1) H3)
    (hd : ∀ L H', H L = none → Pv L xs.length H' → Q (.ref L) H') : LcB g tt te vs σ Q (Itl K a) H := fun L hL => lc_list (Pv L) (h0 L hL) (fun i H' => hl L i H' hL) (fun i x H' => hs L i x H' hL) (fun H' => hd L H' hL)
theorem w_tYes {B : Bool → Hp → Prop} (h : B true H) : tYes σ H B := h
theorem w_appE {L : Addr} {N : Hp → Prop} {ys : List V} {y : V} (h : H L = some (.lst ys)) (hz : ys.length < 16777216) (q : N (upd H L (.lst (ys ++ [y])))) : AppE L N y H := ⟨ys, h, szlt hz, q⟩
theorem w_appEI {L : Addr} {N : Hp → Prop} {ys : List Int} {m : Int} (h : H L = some (.lst (ys.map V.int))) (hz : ys.length < 16777216) (q : N (upd H L (.lst ((ys ++ [m]).map V.int)))) : AppE L N (.int m) H := ⟨_, h, by rw [List.length_map]; exact szlt hz, by rw [map_snoc]; exact q⟩
theorem w_appEB {L : Addr} {N : Hp → Prop} {ys : List Bool} {m : Bool} (h : H L = some (.lst (ys.map V.bl))) (hz : ys.length < 16777216) (q : N (upd H L (.lst ((ys ++ [m]).map V.bl)))) : AppE L N (.bl m) H := ⟨_, h, by rw [List.length_map]; exact szlt hz, by rw [show ys.map V.bl ++ [V.bl m] = (ys ++ [m]).map V.bl by simp]; exact q⟩
/-- [f n for n in ints], the element leaving all as it is: target in slot j -/
theorem l_map (ns : List Int) (f : Int → Int) {j : Nat} (hx : SqL K H a (ns.map V.int)) (hj : ∀ v, wipe ((wipe σ vs).set j (some v)) vs = wipe σ vs) (hz : ns.length ≤ 16777216)
    (he : ∀ (i : Nat) (n : Int) (H' : Hp), ns[i]? = some n → Fr [] H H' → ∀ Q : VK, (∀ H2, Fr [] H' H2 → Q (.int (f n)) H2) → te ((wipe σ vs).set j (some (.int n))) H' Q)
    (k : ∀ L H', H L = none → Fr [] H H' → H' L = some (.lst ((ns.map f).map V.int)) → Q (.ref L) H') : LcB (gName j) tYes te vs σ Q (Itl K a) H := by
  refine l_list (ns.map V.int) (fun L i H' => Fr [] H H' ∧ H' L = some (.lst (((ns.take i).map f).map V.int))) (fun L hL => ⟨Fr.refl.new hL, upd_same⟩) (fun L i H' hL _ h => h.1.seqL (by simp) hx) (fun L i x H' hL e h => ?_) (fun L H' hL h => ?_)
  · obtain ⟨n, en, rfl⟩ := map_at e
    obtain ⟨h1, h2⟩ := h
    refine w_gname ⟨hj _, w_tYes (w_iteT ?_)⟩
    refine he i n H' en h1 _ fun H2 f2 => ⟨_, f2.at0 h2, ?_, ((h1.trans f2).put (.inl hL)), ?_⟩
    · rw [List.length_map, List.length_map, List.length_take]
      have q := (List.getElem?_eq_some_iff.mp en).1
      exact szlt (by omega)
    · rw [upd_same]
      have q := List.take_succ (l := ns) (i := i)
      rw [en] at q
      rw [q]
      simp
  · have e : ns.take (ns.map V.int).length = ns := by rw [List.length_map]; exact List.take_length ..
    obtain ⟨h1, h2⟩ := h
    rw [e] at h2
    exact k L H' hL h1 h2
end

/-- calls by keywords -/
def KwE (n : Nat) (ix : List Nat) (sp : Sp) (Q : VK) : List V → Hp → Prop := fun zs H => zs.length = n ∧ sp (pick ix zs) H Q E0
def MkE (C : Addr) (n : Nat) (ix : List Nat) (sp : Sp) (Q : VK) : List V → Hp → Prop := fun zs H2 => ([] : List V).length = 0 ∧ zs.length = n ∧ ∀ x dx, H2 x = none → H2 dx = none → dx ≠ x →
  sp ([.ref x] ++ pick ix zs) (upd (upd H2 dx (.own x)) x (.ins C dx [])) (fun v H3 => v = .non ∧ Q (.ref x) H3) E0
def MkwE (n : Nat) (ix : List Nat) (sp : Sp) (Q : VK) (x : V) : List V → Hp → Prop := fun zs H => zs.length = n ∧ sp (x :: pick ix zs) H Q E0
def MethKE (C : Addr) (m : Str) (n : Nat) (ix : List Nat) (sp : Sp) (tk : TA) (σ : L2.St) (Q : VK) : V → Hp → Prop := fun x H1 => ∃ a dx fs, x = .ref a ∧ H1 a = some (.ins C dx fs) ∧ fs.lookup m = none ∧ tk σ H1 (MkwE n ix sp Q x)
section
variable {σ : L2.St} {H : Hp} {n : Nat} {ix : List Nat} {sp : Sp} {Q : VK} {tk : TA} {ta : TE} {zs : List V} {C a dx : Addr} {m : Str} {fs : List (Str × V)} {x : V}
theorem w_callK0 (h : tk σ H (KwE n ix sp Q)) : tCallK0 n ix sp tk σ H Q := h
theorem w_kwE (e : zs.length = n) (q : sp (pick ix zs) H Q E0) : KwE n ix sp Q zs H := ⟨e, q⟩
theorem w_makeK (h : tk σ H (MkE C n ix sp Q)) : tMakeK C 0 n sp (fun vs zs => vs ++ pick ix zs) E0 tNil tk σ H Q := h
theorem w_mkE (e : zs.length = n) (q : ∀ x dx, H x = none → H dx = none → dx ≠ x → sp ([.ref x] ++ pick ix zs) (upd (upd H dx (.own x)) x (.ins C dx [])) (fun v H3 => v = .non ∧ Q (.ref x) H3) E0) : MkE C n ix sp Q zs H := ⟨rfl, e, q⟩
theorem w_methK (h : ta σ H (MethKE C m n ix sp tk σ Q)) : tMethK0 C m n ix sp ta tk σ H Q := h
theorem w_methKE (h : H a = some (.ins C dx fs)) (e : fs.lookup m = none) (q : tk σ H (MkwE n ix sp Q (.ref a))) : MethKE C m n ix sp tk σ Q (.ref a) H := ⟨a, dx, fs, rfl, h, e, q⟩
theorem w_mkwE (e : zs.length = n) (q : sp (x :: pick ix zs) H Q E0) : MkwE n ix sp Q x zs H := ⟨e, q⟩
end
def LenSE (K : PySem.W.Frag) (Q : VK) : V → Hp → Prop := fun x H1 => ∃ (l : Addr) (ns : List Int), x = .ref l ∧ SqL K H1 l (ns.map V.int) ∧ ns.length ≤ 4000 ∧ Q (.int ((distinct ns).length : Nat)) H1
section
variable {K : PySem.W.Frag} {σ : L2.St} {H : Hp} {ta : TE} {Q : VK} {a : Addr} {ns : List Int} {b : Bool}
theorem w_lenSet (h : ta σ H (LenSE K Q)) : tLenSetJ K ta σ H Q := h
theorem w_lenSE (h : SqL K H a (ns.map V.int)) (hl : ns.length ≤ 4000) (q : Q (.int ((distinct ns).length : Nat)) H) : LenSE K Q (.ref a) H := ⟨a, ns, rfl, h, hl, q⟩
/-- isinstance by built-in classes -/
theorem w_isi {x : V} {n : String} {t : Value} (h : TyX K H x t) (e : PySem.W.kitOne K t (.type n) = some b) (q : Q (.bl b) H) : rIsi K [x, .ty n] H Q := ⟨x, .ty n, t, .type n, b, rfl, .ty n, h, e, q⟩
theorem tyx_lst {xs : List V} (h : H a = some (.lst xs)) : TyX K H (.ref a) (.type "list") := .base (.lst h)
theorem tyx_tup {xs : List V} (h : H a = some (.tup xs)) : TyX K H (.ref a) (.type "tuple") := .base (.tup h)
def SrtKE (K : PySem.W.Frag) (b : Bool) (Q : VK) : List V → List V → Hp → Prop := fun vs zs H => rSortedKw K b [.bl b] vs zs H Q
theorem w_sortKw {t tk : TA} {r : List V → List V → Hp → VK → Prop} (h : t σ H fun vs H1 => tk σ H1 fun zs H2 => r vs zs H2 Q) : tCKw r t tk σ H Q := h
theorem w_sortedKw (h : SqL K H a (ns.map V.int)) (q : ∀ (ns' : List Int) (p : Addr), ns'.Perm ns → OrdB b ns' → H p = none → Q (.ref p) (upd H p (.lst (ns'.map V.int)))) : rSortedKw K b [.bl b] [.ref a] [.bl b] H Q := ⟨a, ns, rfl, rfl, h, q⟩
theorem w_sortedI (h : SqL K H a (ns.map V.int)) (q : ∀ (ns' : List Int) (p : Addr), ns'.Perm ns → ns'.Pairwise (· ≤ ·) → H p = none → Q (.ref p) (upd H p (.lst (ns'.map V.int)))) : rSortedI K [.ref a] H Q := ⟨a, ns, rfl, h, q⟩
theorem w_extendI {q : Addr} {ms : List Int} (h1 : H a = some (.lst (ns.map V.int))) (h2 : H q = some (.lst (ms.map V.int))) (hz : ns.length + ms.length ≤ 16777216) (k : Q .non (upd H a (.lst ((ns ++ ms).map V.int)))) : rExtend (.ref a) [.ref q] H Q :=
  ⟨a, q, _, _, rfl, rfl, h1, h2, szle' (by rw [List.length_map, List.length_map]; exact hz), by rw [← List.map_append]; exact k⟩
/-- [m] * k -/
theorem w_rep1 {k m : Int} (h : H a = some (.lst [.int m])) (k1 : -(2 ^ 63) ≤ k) (k2 : k ≤ 16777216) (q : ∀ r, H r = none → Q (.ref r) (upd H r (.lst ((List.replicate k.toNat m).map V.int)))) : rRep (.ref a) (.int k) H Q := by
  refine ⟨a, k, _, rfl, rfl, h, k1, Int.lt_of_le_of_lt k2 (by decide), szle' (by simp; omega), fun r hr => ?_⟩
  have e : (List.replicate k.toNat [V.int m]).flatten = (List.replicate k.toNat m).map V.int := by
    rw [List.map_replicate]
    generalize k.toNat = j
    induction j with
    | zero => rfl
    | succ j ih => rw [List.replicate_succ, List.flatten_cons, ih, List.replicate_succ]; rfl
  rw [e]
  exact q r hr
end
section
variable {σ : L2.St} {H : Hp} {c : TT} {tb : TS} {D : Ends}
def WhT (W : Nat → L2.St → Hp → Prop) (m : Nat) (tb : TS) (D : Ends) (σ : L2.St) (H1 : Hp) : Prop := ∃ N : L2.St → Hp → Prop, (∀ σ' H', N σ' H' → ∃ m', m' < m ∧ W m' σ' H') ∧ tb { D with nx := N, ct := N, bk := D.nx } σ H1
theorem w_while (W : Nat → L2.St → Hp → Prop) (m0 : Nat) (h0 : W m0 σ H) (hs : ∀ m σ H, W m σ H → c σ H fun b H1 => if b = true then WhT W m tb D σ H1 else D.nx σ H1) : tWhile c tb D σ H := ⟨W, ⟨m0, h0⟩, hs⟩
theorem w_whT {W : Nat → L2.St → Hp → Prop} {m : Nat} (q : tb { D with nx := fun σ' H' => ∃ m', m' < m ∧ W m' σ' H', ct := fun σ' H' => ∃ m', m' < m ∧ W m' σ' H', bk := D.nx } σ H) : WhT W m tb D σ H := ⟨_, fun _ _ h => h, q⟩
end
/-! ### joins, dicts -/
section
variable {K : PySem.W.Frag} {σ : L2.St} {H : Hp} {D : Ends} {c : TT} {t1 t2 : TS} {td ty tv ta tb te : TE} {Q : VK} {a g : Addr} {kvs kvs' : List (Key × V)} {k : Str} {v x y : V} {R : Hp → Prop} {S S' : List Addr} {H1 H2 : Hp}
/-- one continuation for both branches: I holds at their ends -/
theorem w_ifJ (I : L2.St → Hp → Prop) (h : ∀ N : L2.St → Hp → Prop, (∀ σ H, I σ H → N σ H) → tIfS c t1 t2 { D with nx := N } σ H) (k : ∀ σ H, I σ H → D.nx σ H) : tIfS c t1 t2 D σ H := h D.nx k
def DGE (x : V) (Q : VK) : V → Hp → Prop := fun y H2 => ∃ a v, x = .ref a ∧ DGet H2 a y (some v) ∧ Q v H2
theorem w_dget (h : td σ H fun x H1 => ty σ H1 (DGE x Q)) : tDGet td ty σ H Q := h
theorem w_dgetE (h : H a = some (.dK kvs)) (e : valV kvs (.inr k) = some v) (q : Q v H) : DGE (.ref a) Q (.str k) H := ⟨a, v, rfl, by rw [← e]; exact DGet.k (k := .inr k) h, q⟩
def DPE (x : V) (v : V) (R : Hp → Prop) : V → Hp → Prop := fun y H3 => ∃ a H4, x = .ref a ∧ DPut H3 a y v H4 ∧ R H4
theorem w_dput (h : tv σ H fun v H1 => td σ H1 fun x H2 => ty σ H2 (DPE x v (D.nx σ))) : sDPut td ty tv D σ H := h
theorem w_dputE (h : H a = some (.dK kvs)) (hl : kvs.length < 16777216) (e : putK kvs (.inr k) v = kvs') (q : R (upd H a (.dK kvs'))) : DPE (.ref a) v R (.str k) H := ⟨a, _, rfl, DPut.k (k := .inr k) h (szlt hl), by rw [e]; exact q⟩
def DAE (tv : TE) (rd : V → V → Hp → VK → Prop) (R : Hp → Prop) (σ : L2.St) (x : V) : V → Hp → Prop := fun y H2 => ∃ a v, x = .ref a ∧ DGet H2 a y (some v) ∧ tv σ H2 fun y2 H3 => rd v y2 H3 fun z H4 => ∃ H5, DPut H4 a y z H5 ∧ R H5
theorem w_daug {rd : V → V → Hp → VK → Prop} (h : td σ H fun x H1 => ty σ H1 (DAE tv rd (D.nx σ) σ x)) : sDAug td ty tv rd D σ H := h
theorem w_daugE {rd : V → V → Hp → VK → Prop} (h : H a = some (.dK kvs)) (e : valV kvs (.inr k) = some v) (q : tv σ H fun y2 H3 => rd v y2 H3 fun z H4 => DPE (.ref a) z R (.str k) H4) : DAE tv rd R σ (.ref a) (.str k) H := by
  refine ⟨a, v, rfl, by rw [← e]; exact DGet.k (k := .inr k) h, ?_⟩
  have e2 : (fun (y2 : V) (H3 : Hp) => rd v y2 H3 fun z H4 => DPE (.ref a) z R (.str k) H4) = fun y2 H3 => rd v y2 H3 fun z H4 => ∃ H5, DPut H4 a (.str k) z H5 ∧ R H5 := by
    funext y2 H3
    congr 1
    funext z H4
    exact propext ⟨fun ⟨b, H5, e, p, r⟩ => by cases e; exact ⟨H5, p, r⟩, fun ⟨H5, p, r⟩ => ⟨a, H5, rfl, p, r⟩⟩
  rw [← e2]
  exact q
def keysOf : List (V × V) → List (Key × V)
  | [] => []
  | (.str s, v) :: r => (.inr s, v) :: keysOf r
  | _ :: r => keysOf r
def DspE (p : Addr) (Q : VK) : List (V × V) → Hp → Prop := fun ps H2 => H2 p = some (.dK []) ∧ ∃ kvs : List (Key × V), ps = kvs.map (fun kv => (kV kv.1, kv.2)) ∧ kvs.length ≤ 15 ∧ Q (.ref p) (upd H2 p (.dK (mergeK [] kvs)))
theorem w_disp {trs : List (TE × TE)} (h : ∀ p, H p = none → tPairs trs σ (upd H p (.dK [])) (DspE p Q)) : tDisp trs σ H Q := h
theorem w_pairN {R : List (V × V) → Hp → Prop} (h : R [] H) : tPairs [] σ H R := h
theorem w_pairC {tk tv : TE} {trs : List (TE × TE)} {R : List (V × V) → Hp → Prop} (h : tk σ H fun x H1 => tv σ H1 fun y H2 => tPairs trs σ H2 fun ps H3 => R ((x, y) :: ps) H3) : tPairs ((tk, tv) :: trs) σ H R := h
theorem valV_ne {p : Key × V} {r : List (Key × V)} {k : Key} (e : ¬ p.1 = k) : valV (p :: r) k = valV r k := valV_neg e
theorem mergeK_go : ∀ (more acc : List (Key × V)), (acc.map (·.1) ++ more.map (·.1)).Nodup → mergeK acc more = acc ++ more
  | [], acc, _ => by simp [mergeK]
  | p :: r, acc, h => by
    have hp : valV acc p.1 = none := by
      cases e : valV acc p.1 with
      | none => rfl
      | some z =>
        have e2 := valV_any p.1 acc
        rw [e] at e2
        obtain ⟨q, hq, hq2⟩ := List.any_eq_true.mp (show (acc.any fun kv => decide (kv.1 = p.1)) = true from e2)
        have hq3 := of_decide_eq_true hq2
        have := (List.nodup_append.mp h).2.2 q.1 (List.mem_map.mpr ⟨q, hq, rfl⟩) p.1 (by simp)
        exact absurd hq3 this
    have e : mergeK acc (p :: r) = mergeK (putK acc p.1 p.2) r := rfl
    rw [e, putK_new _ hp, mergeK_go r (acc ++ [(p.1, p.2)]) (by simpa using h)]
    simp
theorem w_dspE {p : Addr} {ps : List (V × V)} (h : H p = some (.dK [])) (e : ps = (keysOf ps).map fun kv => (kV kv.1, kv.2)) (hl : (keysOf ps).length ≤ 15) (n : ((keysOf ps).map (·.1)).Nodup) (q : Q (.ref p) (upd H p (.dK (keysOf ps)))) : DspE p Q ps H := by
  refine ⟨h, keysOf ps, e, hl, ?_⟩
  rw [mergeK_go _ [] (by simpa using n)]
  exact q
theorem mem2a {a g : Addr} : a ∈ [a, g] := by simp
theorem mem2b {a g : Addr} : g ∈ [a, g] := by simp
theorem nn3 {b a g : Addr} (h1 : b ≠ a) (h2 : b ≠ g) : b ∉ [a, g] := by simp [h1, h2]
theorem _root_.Pg.Fr.loc2 {p q : Addr} (h : Fr S H H1) (n : H p = none) (m : H q = none) (h' : Fr [p, q] H1 H2) : Fr S H H2 := fun b o z e => by
  refine h' b o (nn3 ?_ ?_) (h b o z e)
  · intro q
    rw [q, n] at e
    cases e
  · intro q
    rw [q, m] at e
    cases e
/-! ### pop, repr, texts of ints -/
theorem w_pop0 {ns : List Int} {m : Int} (h : H a = some (.lst ((m :: ns).map V.int))) (q : Q (.int m) (upd H a (.lst (ns.map V.int)))) : rPopAt (.ref a) [.int 0] H Q := by
  refine ⟨a, _, 0, 0, .int m, rfl, rfl, h, by decide, by decide, ?_, rfl, q⟩
  simp [seqIndex?]
end
def rReprI : List V → Hp → VK → Prop := fun xs H Q => ∃ i, xs = [.int i] ∧ i.natAbs.log2 < 1920 ∧ Q (.str (toString i)) H
theorem call_reprI {X : Cx} : CallR X (.builtin "repr") rReprI := SkE.call_repr_int
theorem w_reprI {i : Int} {H : Hp} {Q : VK} (h : i.natAbs.log2 < 1920) (q : Q (.str (toString i)) H) : rReprI [.int i] H Q := ⟨i, rfl, h, q⟩
theorem log_lt {i : Int} (h : i.natAbs < 2 ^ 250) : i.natAbs.log2 < 1920 := Nat.lt_of_lt_of_le (PySem.Flt.log2_lt_of (by decide) h) (by decide)
theorem w_eqS {s t : Str} {H : Hp} {Q : VK} (q : Q (.bl (decide (s = t))) H) : rEq (.str s) (.str t) H Q := ⟨rfl, by
  have e : decide (V.str s = V.str t) = decide (s = t) := by
    by_cases z : s = t
    · subst z
      rw [decide_eq_true rfl, decide_eq_true rfl]
    · rw [decide_eq_false z, decide_eq_false fun q => z (V.str.inj q)]
  rw [e]
  exact q⟩
theorem w_neS {s t : Str} {H : Hp} {Q : VK} (q : Q (.bl (!decide (s = t))) H) : rNe (.str s) (.str t) H Q := ⟨rfl, by
  have e : decide (V.str s = V.str t) = decide (s = t) := by
    by_cases z : s = t
    · subst z
      rw [decide_eq_true rfl, decide_eq_true rfl]
    · rw [decide_eq_false z, decide_eq_false fun q => z (V.str.inj q)]
  rw [e]
  exact q⟩
/-! ### slices, counts, pops -/
def cutI (ns : List Int) (lo hi : Option Int) : List Int := (ns.drop (HT.sIx ns.length 0 lo)).take (HT.sIx ns.length ns.length hi - HT.sIx ns.length 0 lo)
theorem cutV_ints (ns : List Int) (lo hi : Option Int) : cutV (ns.map V.int) lo hi = (cutI ns lo hi).map V.int := by
  unfold cutV cutI
  rw [List.length_map, List.map_take, List.map_drop]
theorem cutI_mem {ns : List Int} {lo hi : Option Int} {x : Int} (h : x ∈ cutI ns lo hi) : x ∈ ns := List.mem_of_mem_drop (List.mem_of_mem_take h)
theorem cutI_len (ns : List Int) (lo hi : Option Int) : (cutI ns lo hi).length ≤ ns.length := by
  unfold cutI
  rw [List.length_take, List.length_drop]
  omega
theorem cutI_take (ns : List Int) (n : Nat) : cutI ns none (some (n : Int)) = ns.take n := by
  unfold cutI
  rw [HT.sIx_nat, HT.sIx_none, List.drop_zero, Nat.sub_zero]
  by_cases h : n ≤ ns.length
  · rw [Nat.min_eq_left h]
  · rw [Nat.min_eq_right (by omega), List.take_length, List.take_of_length_le (by omega)]
theorem cutI_drop (ns : List Int) (n : Nat) : cutI ns (some (n : Int)) none = ns.drop n := by
  unfold cutI
  rw [HT.sIx_nat, HT.sIx_none]
  by_cases h : n ≤ ns.length
  · rw [Nat.min_eq_left h, List.take_of_length_le (by rw [List.length_drop]; omega)]
  · rw [Nat.min_eq_right (by omega), List.drop_length, List.drop_of_length_le (by omega)]
    simp
def PartE (R : Option Int → Hp → Prop) : V → Hp → Prop := fun x H1 => ∃ i, x = .int i ∧ R (some i) H1
section
variable {K : PySem.W.Frag} {σ : L2.St} {H : Hp} {ta tb te : TE} {Q : VK} {a p : Addr} {ns ms : List Int} {xs ys : List V} {m n : Int} {v x y : V} {tl th : TO}
theorem w_sl {r : V → Option Int → Option Int → Hp → VK → Prop} (h : te σ H fun x H1 => tl σ H1 fun l H2 => th σ H2 fun u H3 => r x l u H3 Q) : tSl r te tl th σ H Q := h
theorem w_noPart {R : Option Int → Hp → Prop} (h : R none H) : tNoPart σ H R := h
theorem w_part {R : Option Int → Hp → Prop} (h : te σ H (PartE R)) : tPart te σ H R := h
theorem w_partE {R : Option Int → Hp → Prop} (h : R (some m) H) : PartE R (.int m) H := ⟨m, rfl, h⟩
theorem w_slI {lo hi : Option Int} (h : SqL K H a (ns.map V.int)) (q : ∀ p, H p = none → Q (.ref p) (upd H p (.lst ((cutI ns lo hi).map V.int)))) : rSlL K (.ref a) lo hi H Q := ⟨a, _, rfl, h, fun p hp => by rw [cutV_ints]; exact q p hp⟩
theorem w_lcount (h : SqL K H a (ns.map V.int)) (q : Q (.int (ns.count m : Nat)) H) : rCntI K (.ref a) [.int m] H Q := ⟨a, ns, m, rfl, rfl, h, q⟩
theorem w_popAt (h : H a = some (.lst (ns.map V.int))) (h0 : 0 ≤ m) (h1 : m < ns.length) (hz : ns.length ≤ 16777216) (q : ∀ n, ns[m.toNat]? = some n → Q (.int n) (upd H a (.lst ((ns.eraseIdx m.toNat).map V.int)))) : rPopAt (.ref a) [.int m] H Q := by
  obtain ⟨n, hn, e2, e3⟩ := atI_ints h0 h1
  refine ⟨a, _, m, m.toNat, .int n, rfl, rfl, h, by omega, by omega, ?_, by rw [List.getElem?_map, e3]; rfl, by rw [erase_mapI]; exact q n e3⟩
  have hneg : ¬ m < 0 := by omega
  simp only [seqIndex?, List.length_map, hneg, if_false]
  rw [if_pos]
  simp only [Bool.and_eq_true, decide_eq_true_eq]
  omega
theorem w_setLI {Q : Hp → Prop} (h : H p = some (.lst (ns.map V.int))) (h0 : 0 ≤ m) (h1 : m < ns.length) (q : Q (upd H p (.lst ((ns.set m.toNat n).map V.int)))) : rSetL (.ref p) (.int m) (.int n) H Q := by
  refine ⟨p, _, m, m.toNat, rfl, rfl, h, ?_, by rw [← List.map_set]; exact q⟩
  rw [List.length_map]
  have z : ((m.toNat : Nat) : Int) = m := Int.toNat_of_nonneg h0
  unfold ixN
  rw [if_pos h0, if_pos h1]
theorem w_catLL {q : Addr} (h1 : H p = some (.lst xs)) (h2 : H q = some (.lst ys)) (e : xs = (unV xs).map V.int) (e2 : ys = (unV ys).map V.int) (hz : (unV xs).length + (unV ys).length ≤ 16777216) (k : ∀ r, H r = none → Q (.ref r) (upd H r (.lst ((unV xs ++ unV ys).map V.int)))) : rCat (.ref p) (.ref q) H Q :=
  w_catI (by rw [← e]; exact h1) (by rw [← e2]; exact h2) hz k
theorem w_isN (q : Q (.bl (decide (x = .non))) H) : rIsN x .non H Q := ⟨rfl, q⟩
theorem w_notN (q : Q (.bl (!decide (x = .non))) H) : rNotN x .non H Q := ⟨rfl, q⟩
theorem w_isNN (q : Q (.bl true) H) : rIsN .non .non H Q := ⟨rfl, q⟩
theorem w_isNI (q : Q (.bl false) H) : rIsN (.int m) .non H Q := ⟨rfl, q⟩
theorem w_isNR (q : Q (.bl false) H) : rIsN (.ref a) .non H Q := ⟨rfl, q⟩
theorem w_notNN (q : Q (.bl false) H) : rNotN .non .non H Q := ⟨rfl, q⟩
theorem w_notNI (q : Q (.bl true) H) : rNotN (.int m) .non H Q := ⟨rfl, q⟩
theorem w_notNR (q : Q (.bl true) H) : rNotN (.ref a) .non H Q := ⟨rfl, q⟩
def OrE (K : PySem.W.Frag) (tb : TE) (σ : L2.St) (Q : VK) : V → Hp → Prop := fun x H1 => ∃ k, TruV K x H1 k ∧ if k = true then Q x H1 else tb σ H1 Q
theorem w_orT (h : ta σ H (OrE K tb σ Q)) : tOrT K ta tb σ H Q := h
theorem w_orN (h : tb σ H Q) : OrE K tb σ Q .non H := ⟨false, rfl, w_iteF h⟩
theorem w_orI (h0 : m ≠ 0) (h : Q (.int m) H) : OrE K tb σ Q (.int m) H := ⟨true, by show true = _; simp [h0], w_iteT h⟩
theorem w_appV (h : H p = some (.lst xs)) (hz : xs.length < 16777216) (q : Q .non (upd H p (.lst (xs ++ [y])))) : rAppend (.ref p) [y] H Q := w_append h (szlt hz) q
theorem w_rep3 (h : H a = some (.lst [v])) (q : ∀ r, H r = none → Q (.ref r) (upd H r (.lst [v, v, v]))) : rRep (.ref a) (.int 3) H Q :=
  ⟨a, 3, _, rfl, rfl, h, by decide, by decide, szle rfl, fun r hr => q r hr⟩
end
theorem cmulW {i j : Int} {a b : Nat} (ha : i.natAbs < 2 ^ a) (hb : j.natAbs < 2 ^ b) (h : a + b < 1000000) (ha0 : 0 < a) (hb0 : 0 < b) : CMulW i j := by
  have h1 := PySem.Flt.log2_lt_of ha0 ha
  have h2 := PySem.Flt.log2_lt_of hb0 hb
  show i.natAbs.log2 + j.natAbs.log2 < 1000000
  omega
section
variable {σ : L2.St} {H : Hp} {ta tb : TE} {Q : VK} {b : Bool}
theorem w_andV (h : ta σ H fun x H1 => ∃ c, x = .bl c ∧ if c = true then tb σ H1 Q else Q (.bl false) H1) : tAndV ta tb σ H Q := h
theorem w_orV (h : ta σ H fun x H1 => ∃ c, x = .bl c ∧ if c = true then Q (.bl true) H1 else tb σ H1 Q) : tOrV ta tb σ H Q := h
theorem w_notV (h : ta σ H fun x H1 => ∃ c, x = .bl c ∧ Q (.bl (!c)) H1) : tNotV ta σ H Q := h
end
/-! ### range(i, j, -1), slices with a step -/
def Rng3E (R : It → Hp → Prop) : List V → Hp → Prop := fun vs H1 => ∃ (i j c : Int) (n : Nat), vs = [.int i, .int j, .int c] ∧ RgC i j c n ∧ R (Itc i c n) H1
section
variable {K : PySem.W.Frag} {σ : L2.St} {H : Hp} {D : Ends} {ta : TA} {R : It → Hp → Prop} {g : TG} {tb : TS} {te : TE} {tl ts : TO} {Q : VK} {a : Addr} {ns : List Int} {n : Nat} {i c : Int} {lo st : Option Int} {x : V}
theorem w_rng3 (h : ta σ H (Rng3E R)) : iRng3 ta σ H R := h
theorem f_rangeC (Pv : Nat → L2.St → Hp → Prop) (h0 : Pv 0 σ H) (hs : ∀ k σ H, k < n → Pv k σ H → g (.int (i + (k : Nat) * c)) σ H fun σ2 H2 => tb { D with nx := Pv (k + 1), ct := Pv (k + 1), bk := D.nx } σ2 H2) (hd : ∀ σ H, Pv n σ H → D.nx σ H) :
    ForB g tb D σ (Itc i c n) H := for_rangeC Pv h0 hs hd
def SlsE (K : PySem.W.Frag) (Q : VK) (x : V) (lo : Option Int) : Option Int → Hp → Prop := fun st H3 => ∃ a xs, x = .ref a ∧ SqL K H3 a xs ∧ st ≠ some 0 ∧ (pickSl xs lo st).length ≤ sizeLine ∧ ∀ p, H3 p = none → Q (.ref p) (upd H3 p (.lst (pickSl xs lo st)))
theorem w_sls (h : te σ H fun x H1 => tl σ H1 fun lo H2 => ts σ H2 (SlsE K Q x lo)) : tSlStep K te tl ts σ H Q := h
theorem pickSl_map (ns : List Int) : pickSl (ns.map V.int) lo st = (pickSl ns lo st).map V.int := by
  unfold pickSl
  rw [List.length_map, List.map_filterMap]
  congr 1
  funext k
  rw [List.getElem?_map]
theorem w_slsE (h : SqL K H a (ns.map V.int)) (h0 : st ≠ some 0) (hz : (pickSl ns lo st).length ≤ 16777216) (q : ∀ p, H p = none → Q (.ref p) (upd H p (.lst ((pickSl ns lo st).map V.int)))) : SlsE K Q (.ref a) lo st H :=
  ⟨a, _, rfl, h, h0, by rw [pickSl_map, List.length_map]; exact szle' hz, fun p hp => by rw [pickSl_map]; exact q p hp⟩
end
theorem w_rng3N {H : Hp} {R : It → Hp → Prop} {i j : Int} (h : -(2 ^ 62) ≤ i ∧ i < 2 ^ 62 ∧ -(2 ^ 62) ≤ j ∧ j < 2 ^ 62) (q : R (Itc i (-1) (i - j).toNat) H) : Rng3E R [.int i, .int j, .int (-1)] H :=
  ⟨i, j, -1, _, rfl, RgC.neg h.1 h.2.1 h.2.2.1 h.2.2.2, q⟩
theorem w_appendR {H : Hp} {Q : VK} {p y : Addr} {ps : List Addr} (h : H p = some (.lst (ps.map V.ref))) (hz : ps.length < 16777216) (q : Q .non (upd H p (.lst ((ps ++ [y]).map V.ref)))) : rAppend (.ref p) [.ref y] H Q :=
  w_append h (by rw [List.length_map]; exact szlt hz) (by rw [show ps.map V.ref ++ [V.ref y] = (ps ++ [y]).map V.ref by simp]; exact q)
section
variable {K : PySem.W.Frag} {σ : L2.St} {H : Hp} {te : TE} {Q : VK} {a : Addr} {ns : List Int}
def RevE (K : PySem.W.Frag) (Q : VK) : V → Hp → Prop := fun x H1 => ∃ a xs, x = .ref a ∧ SqL K H1 a xs ∧ ∀ p, H1 p = none → Q (.ref p) (upd H1 p (.lst xs.reverse))
theorem w_revL (h : te σ H (RevE K Q)) : tRevL K te σ H Q := h
theorem w_revE (h : SqL K H a (ns.map V.int)) (q : ∀ p, H p = none → Q (.ref p) (upd H p (.lst (ns.reverse.map V.int)))) : RevE K Q (.ref a) H := ⟨a, _, rfl, h, fun p hp => by rw [← List.map_reverse]; exact q p hp⟩
end
theorem w_whileJ {c : TT} {tb : TS} {D : Ends} {σ : L2.St} {H : Hp} (I : L2.St → Hp → Prop) (h : ∀ N : L2.St → Hp → Prop, (∀ σ H, I σ H → N σ H) → tWhile c tb { D with nx := N } σ H) (k : ∀ σ H, I σ H → D.nx σ H) : tWhile c tb D σ H := h D.nx k
theorem w_appER {L R : Addr} {N : Hp → Prop} {rs : List Addr} {H : Hp} (h : H L = some (.lst (rs.map V.ref))) (hz : rs.length < 16777216) (q : N (upd H L (.lst ((rs ++ [R]).map V.ref)))) : AppE L N (.ref R) H := ⟨_, h, by rw [List.length_map]; exact szlt hz, by rw [show rs.map V.ref ++ [V.ref R] = (rs ++ [R]).map V.ref by simp]; exact q⟩
end Pg

namespace Pg
open PySem PySem.Spec PyProof.Rows L2
/-! ### defs that are run where no repr is under way -/
structure FnG (P : Program) (w : World) (K : PySem.W.Frag) (mg : Str → Option Value) (base : Heap) (k : Nat) (f : Addr) (fd : FuncData) (ps : List Str) (sp : Sp) : Prop where
  len : ∀ vs H Q E, sp vs H Q E → vs.length = ps.length
  run : ∀ (A : Around) (outer : List Env) (s : Shared) (H : Hp) (args : Args) (us : List Value) (vs : List V) (Q : VK) (E : XK), Room k A → A.guards = some [] → Env0 P w K mg base A outer s H →
    BindsTo s fd args (ps.zip us) → Vals vs us → sp vs H Q E → codeAny (model P w) A (.call (.ref f) args) (CR CX0 outer P w H s Q E) s
structure GefAt (P : Program) (w : World) (K : PySem.W.Frag) (mg : Str → Option Value) (base : Heap) (x : Str) (st : Stmt) (k : Nat) (ps : List Str) (sp : Sp) : Prop where
  ex : ∃ f fd, mg x = some (.ref f) ∧ Fun K x x st f fd ∧ FnG P w K mg base k f fd ps sp ∧ Binds K fd ps []
section
variable {P : Program} {w : World} {K : PySem.W.Frag} {mg : Str → Option Value} {base : Heap} {x : Str} {st : Stmt} {k : Nat} {ps N : List Str} {sp : Sp}
theorem CE.of_inv {qual : Str} {scope : Scope} {f : Addr} {cd : Value} {A : Around} {outer : List Env} {s s' : Shared} {H H' : Hp} {E : XK} {σ : L2.St} {v : V} {u : Value} {Q : VK}
    (J : Inv (cxOf CX0 P w K mg base N qual scope f cd A outer s H E) [] σ H' s') (r : RelV v u) (q : Q v H') : CE outer P w H s Q u s' := ⟨v, H', J.os, J.bare, J.base, J.hok, r, q⟩
/-- a def by its body, which may look at what is under way -/
theorem FunAt.okG (F : FunAt K mg x st) (S : FnScope N ps (defScope st)) (len : ∀ vs H Q E, sp vs H Q E → vs.length = ps.length)
    (hb : ∀ (kV doc pm : Value) (an : Option Addr) (cdv ct : Value) (us : List Value), us.length = ps.length → bindArgs (PySem.W.fnOf x x (defArgs st) (defBody st) (defScope st) .none kV doc pm an cdv ct) ⟨us, []⟩ = pure (ps.zip us))
    (hbody : ∀ (f : Addr) (cdv : Value) (A : Around) (outer : List Env) (s : Shared) (H : Hp) (vs : List V) (Q : VK) (E : XK), Room k (A.deeper (envOfC x (defScope st) s.heap.objs.size f cdv)) → (A.deeper (envOfC x (defScope st) s.heap.objs.size f cdv)).guards = some [] → sp vs H Q E →
      ∃ t, PSs (cxOf CX0 P w K mg base N x (defScope st) f cdv A outer s H E).nox (defBody st) t ∧ t { nx := fun _ H' => Q .non H', rt := Q } (start N vs) H) : GefAt P w K mg base x st (k + 1) ps sp := by
  obtain ⟨f, fd, hm, F⟩ := F.ex
  refine ⟨f, fd, hm, F, ⟨len, ?_⟩, F.binds hb⟩
  obtain ⟨oc, od, kV, doc, pm, an, cdv, ct, osl, rfl, lk, hcd⟩ := F.ex
  intro A outer s H args us vs Q E hr hg e0 bt rv hsp
  have there : ∀ b o, base.get? b = some o → s.heap.get? b = some o := fun b o e => (e0.bs b o e).1
  have hK := e0.mod.kin.keeps there
  have hlim := e0.mod.nolimit.keeps there
  have kinds : ∀ y ∈ ps.zip us, (defScope st).names.lookup y.1 = some .local ∨ ((defScope st).names.lookup y.1 = some .cell ∧ ((cellsFrom (s.heap.objs.size + 1) (defScope st).names []).lookup y.1).isSome = true) := by
    rintro ⟨n, v⟩ hy
    cases S.par n (List.of_mem_zip hy).1 with
    | inl q => exact .inl q
    | inr q => exact .inr ⟨q, PySem.W.cellsFrom_some _ _ _ (.inl q)⟩
  obtain ⟨t, ht, hq⟩ := hbody f cdv A outer s H vs Q E (hr.deeper _) hg hsp
  have ht := ht.nox
  apply codeAny_call_function hr.depth (hK _ _ lk) rfl S.co S.gen rfl (PySem.W.codeRec_of hK hcd)
  apply bt
  apply wpAny_newFunctionEnv_cells S.kind kinds
  rintro env rfl s1 ic
  refine ⟨hlim.keeps ic.toInCall.keep, codeAny_func ?_⟩
  have I := inv_start (CX := CX0) (P := P) (w := w) (K := K) (mg := mg) (base := base) (E := E) S hr.hd e0 (len _ _ _ _ hsp) rv ic
  refine wpAny_mono (ht.run [] s1 (start N vs) H _ I hq) ?_ (fun _ _ z => z)
  intro fl s' hs
  match fl, hs with
  | .ret u, ⟨v, σ', H', J, r, q⟩ => exact CE.of_inv J r q
  | .next, ⟨σ', H', J, q⟩ => exact CE.of_inv (v := V.non) (u := Value.none) J rfl q
  | .brk, ⟨_, _, _, q⟩ => exact q.elim
  | .cont, ⟨_, _, _, q⟩ => exact q.elim
end
section
variable {X : Cx} {x : Str} {st : Stmt} {k : Nat} {ps : List Str} {sp : Sp} {e : Expr} {es : List Expr} {t : TA} {p pos : Pos}
theorem pe_callG (D : GefAt X.prog X.w X.K X.mg X.base x st k ps sp) (hr : Room k X.A) (gu : X.A.guards = some []) (ha : PA X (e :: es) t) (hg : Gl X x := by rfl)
    (hdb : (x == ("__debug__" : Str)) = false := by decide) (he : starEach (e :: es) X.env = (false, eval e X.env) :: starEach es X.env := by rfl) (hpl : (backTo pos (starEach es X.env)).any (·.1) = false := by rfl) :
    PE X (.Call (.Name x p) (e :: es) [] pos) (tCall sp [] E0 t) := by
  obtain ⟨f, fd, hm, F, G, b⟩ := D.ex
  constructor
  intro pins s σ H Q I h
  apply wpAny_Call_Name_kw (ld_glob I hg hm ?_ hdb)
  apply PySem.W.callWith_K (h₀ := X.base) I.ok.mod.kin F.kp ?_ he hpl
  refine thn (ha.run pos pins s σ H _ I h) ?_
  rintro us s1 ⟨vs, H1, I1, r, q⟩
  refine ⟨I1.kIn, wpAny_call (codeAny_mono (G.run X.A X.stack s1 H1 ⟨us, []⟩ (us ++ []) (vs ++ []) Q E0 hr gu I1.env0 (b s1 us I1.kIn ?_) (r.append .nil) q) ?_)⟩
  · rw [← (r.append (Paired.nil : Vals [] [])).length]
    exact G.len _ _ _ _ q
  · intro rr s' hq
    match rr, hq with
    | .error e, hq => exact (pass0 (X := X) pins σ H1 s1 e s' I1 hq)
    | .ok (.ret u), hq => exact I1.after hq
    | .ok .next, hq => exact hq.elim
    | .ok .brk, hq => exact hq.elim
    | .ok .cont, hq => exact hq.elim
end
/-! ### repr of data -/
def rReprD (K : PySem.W.Frag) : List V → Hp → VK → Prop := fun xs H Q => ∃ (a : Addr) (d : PyData), xs = [.ref a] ∧ Dp K H (.ref a) d ∧ d.showable = true ∧ SeqAt.shaped d = true ∧ d.shown.length ≤ sizeLine ∧ Q (.str d.shown) H
theorem call_reprD {X : Cx} (hg : X.A.guards = some []) (hu : X.A.units + 100 < cLine) : CallR X (.builtin "repr") (rReprD X.K) := by
  intro pins s σ H xs us Q I r h
  obtain ⟨a, d, rfl, hd, hs, hsh, hz, q⟩ := h
  obtain ⟨u, rfl, ru⟩ := vals1 r
  obtain ⟨as, r1⟩ := Dp.reads I d _ u hd ru
  cases ru
  have hsh' : (PyData.canLay0 d && decide (PyData.depth d ≤ 64)) = true := hsh
  obtain ⟨c1, c2⟩ := Bool.and_eq_true_iff.mp hsh'
  have c3 := of_decide_eq_true c2
  refine repr_of_reads' r1 hs (PyData.noDict_hsm (PyData.hasDict_of_canLay d c1)) hg (by omega) (fun _ _ e => e) (fun h' u tk hk => ?_) hz
  exact ⟨.str _, H, I.kept (t' := tk) fun b o e => hk b o e, ⟨_, rfl⟩, q⟩
theorem gu_of {k : Nat} {A : Around} (r : Room k A) : A.units + 100 < cLine := by have := r.un; omega
/-! ### the end -/
def scr (K : PySem.W.Frag) (a : Addr) (ob : Obj) (xs : List V) : Hp := fun b => if b = a ∧ K.lookup a = none then some (.frz ob (.lst xs)) else none
theorem scr_cases (K : PySem.W.Frag) (a : Addr) (ob : Obj) (xs : List V) (b : Addr) : scr K a ob xs b = none ∨ (b = a ∧ K.lookup a = none ∧ scr K a ob xs b = some (.frz ob (.lst xs))) := by
  by_cases h : b = a ∧ K.lookup a = none
  · exact .inr ⟨h.1, h.2, if_pos h⟩
  · exact .inl (if_neg h)
theorem law_callG {P : Program} {w : World} {K : PySem.W.Frag} {mg mb : Str → Option Value} {k : Nat} {fa a : Addr} {fd : FuncData} {x : Str} {sp : Sp} {s₁ : Shared} {vs : List Value} {ns : List Int}
    (KX : K.In s₁.heap) (hns : s₁.heap.Ns mainGlobals mg) (hb : s₁.heap.Ns builtinsNs mb) (hbb : ∀ x : Str, x ≠ "__name__" → mb x = bootBuiltins x) (hlim : s₁.heap.NoLimit) (hg : s₁.gens = #[])
    (ha : s₁.heap.get? a = some { cls := .type "list", data := .seq vs.toArray }) (hi : IntsAre vs ns) (hl : ns.length ≤ sizeLine) (hr : Room k callerA)
    (F : ∀ base : Heap, K.In base → base.Ns mainGlobals mg → FnG P w K mg base k fa fd [x] sp) (hbind : ∀ (s : Shared) (u : Value), BindsTo s fd ⟨[u], []⟩ [(x, u)])
    (hsp : ∀ H : Hp, SqL K H a (ns.map V.int) → sp [.ref a] H (fun v _ => v = .bl true) fun _ _ _ => False) :
    codeAny (model P w) callerA (.call (.ref fa) ⟨[.ref a], []⟩) (fun r s' => r = .ok (.ret (.bool true)) ∧ OldK s₁.heap s'.heap ∧ s'.os = s₁.os ∧ AllBare s'.gens) s₁ := by
  have rv := vals_ints hi
  let ob : Obj := { cls := .type "list", data := .seq vs.toArray }
  let H : Hp := scr K a ob (ns.map V.int)
  have cs := scr_cases K a ob (ns.map V.int)
  have hok : HOk P w H s₁.heap := by
    intro b u z
    rcases cs b with q | ⟨rfl, _, q⟩
    · rw [show H b = none from q] at z
      cases z
    · rw [show H b = _ from q] at z
      cases z
      exact ⟨ha, by rw [List.length_map]; exact hl, vs, _, rv, ha⟩
  have hS : SqL K H a (ns.map V.int) := by
    cases hk : K.lookup a with
    | none => exact .inl (.inr ⟨ob, if_pos ⟨rfl, hk⟩⟩)
    | some o =>
      have e := (KX a o hk).symm.trans ha
      cases e
      exact .inr ⟨_, vs.toArray, _, hk, rfl, rfl, rfl, by rw [List.size_toArray, hi.length]; exact hl, by simpa using rv⟩
  have free : ∀ {b : Addr} {o : Obj}, s₁.heap.get? b = some o → (∀ q n, o.data ≠ .seq q n) → H b = none := by
    intro b o e n
    rcases cs b with q | ⟨rfl, _, _⟩
    · exact q
    · rw [ha] at e
      cases e
      exact absurd rfl (n _ _)
  have nsB : ∀ {b : Addr} {m : Str → Option Value}, s₁.heap.Ns b m → (hidT s₁.heap H).Ns b m := by
    rintro b m ⟨o, es, ep, e, d, r⟩
    exact ⟨o, es, ep, hidT_get e (free e fun q n z => by rw [d] at z; cases z), d, r⟩
  have kB : K.In (hidT s₁.heap H) := by
    intro b o e
    refine hidT_get (KX b o e) ?_
    rcases cs b with q | ⟨rfl, z, _⟩
    · exact q
    · rw [z] at e
      cases e
  obtain ⟨mc, l1, l2⟩ := hlim
  have e0 : Env0 P w K mg (hidT s₁.heap H) callerA [] s₁ H :=
    { frames := rfl, mod := ⟨kB, nsB hns, ⟨mb, nsB hb, hbb⟩, ⟨mc, nsB l1, l2⟩⟩, bs := fun b o e => of_hidT e, bsz := Nat.le_of_eq (hidT_size _ _), funs := trivial, frf := (fun b z => by cases z), hok := hok, bare := .of_eq hg }
  refine codeAny_mono ((F _ kB (nsB hns)).run callerA [] s₁ H ⟨[.ref a], []⟩ [.ref a] [.ref a] _ _ hr rfl e0 (hbind s₁ (.ref a)) (.cons rfl .nil) (hsp H hS)) ?_
  intro r s' h
  match r, h with
  | .error e, h => exact (show False from h).elim
  | .ok .next, h => exact h.elim
  | .ok .brk, h => exact h.elim
  | .ok .cont, h => exact h.elim
  | .ok (.ret u), ⟨v, H', os, bare, un, hok', r', q⟩ =>
    have q : v = .bl true := q
    subst q
    have r' : u = Value.bool true := r'
    subst r'
    refine ⟨rfl, OldK.of_keep ?_, os, bare⟩
    intro b o e
    rcases cs b with q | ⟨rfl, z, q⟩
    · exact un.keep b o e q (fun z => by cases z) (by simp)
    · obtain ⟨e2, _⟩ := hok' b _ (un.frzs b ob _ q)
      rw [ha] at e
      cases e
      exact e2
theorem walk_G {l : PySem.W.OpenLaw} {n k : Nat} {q : Program} {loose : List Str} {XP : (Str → Option Value) → Heap → Prop} {YP : World → Heap → Prop} {d : DefRec} {K : Params → PySem.W.Frag} {x : Str} {sp : World → Sp}
    (hn : l.most = some n) (hn2 : n ≤ sizeLine) (hdf : d.params.defaults = []) (hr : Room k callerA) (hY : ∀ (w : World) (h : Heap), YP w h → (K w.params).In h)
    (F : ∀ (w : World) (mg : Str → Option Value) (fa : Addr) (h : Heap), (K w.params).In h → h.Ns mainGlobals mg → mg d.name = some (.ref fa) →
      ∃ fd : FuncData, (∀ (s : Shared) (u : Value), BindsTo s fd ⟨[u], []⟩ [(x, u)]) ∧ ∀ base : Heap, (K w.params).In base → base.Ns mainGlobals mg → FnG l.prog w (K w.params) mg base k fa fd [x] (sp w))
    (hsp : ∀ (w : World) (H : Hp) (a : Addr) (ns : List Int), ns.length ≤ n → (∀ z ∈ ns, Builtin.Int.intBits z ≤ 1048576) → SqL (K w.params) H a (ns.map V.int) → sp w [.ref a] H (fun v _ => v = .bl true) fun _ _ _ => False) :
    PySem.W.WalkO q loose XP YP l.row.toRowW d [] (fun f vs => PySem.call f vs) := by
  refine Att.attach_callB hn hdf ?_
  intro w s₀ s₁ mg mb fa o pm cd doc a vs ns G Y ho hd hcd hmg hobj hints hlen hbits hg
  obtain ⟨fd, hb, hF⟩ := F w mg fa _ (hY w _ Y) G.T.g hmg
  exact law_callG (hY w _ Y) G.T.g G.T.b G.T.builtins G.T.nolimit hg hobj hints (Nat.le_trans hlen hn2) hr hF hb (fun H hS => hsp w H a ns hlen hbits hS)
/-! ### data that can be shown -/
structure Fine (d : PyData) : Prop where
  s : d.showable = true
  p : SeqAt.shaped d = true
  l : d.leavesShort 50 = true
  b : d.bulk ≤ 100000
theorem w_reprD {K : PySem.W.Frag} {H : Hp} {Q : VK} {a : Addr} {d : PyData} (h : Dp K H (.ref a) d) (f : Fine d) (q : Q (.str d.shown) H) : rReprD K [.ref a] H Q := by
  refine ⟨a, d, rfl, h, f.s, f.p, ?_, q⟩
  have h1 := PyData.shown_le_bulk 50 (by decide) d f.l
  have h2 := f.b
  rw [sizeLine_eq]
  omega
theorem showable_int {i : Int} (h : i.natAbs < 10 ^ 40) : (PyData.int i).showable = true := by
  have := log_lt (i := i) (Nat.lt_of_lt_of_le h (by decide))
  simp only [PyData.showable, this, decide_true]
theorem short_int {i : Int} (h : i.natAbs < 10 ^ 40) : (PyData.int i).leavesShort 50 = true := by
  have e := int_text_length_le10 (k := 40) (by decide) h
  have e2 : (PyData.shown (.int i)).length = (toString i).length := by
    simp only [PyData.shown]
    exact PySem.ofString_length (toString i)
  simp only [PyData.leavesShort, e2]
  exact decide_eq_true (by omega)
theorem showable_ints : ∀ {ns : List Int}, (∀ x ∈ ns, x.natAbs < 10 ^ 40) → PyData.showableAll (ns.map PyData.int) = true
  | [], _ => rfl
  | n :: ns, h => by
    have ih := showable_ints (ns := ns) fun x hx => h x (List.mem_cons_of_mem _ hx)
    have h1 := showable_int (h n List.mem_cons_self)
    simp only [List.map_cons, PyData.showableAll, ih, h1, Bool.and_self]
theorem short_ints : ∀ {ns : List Int}, (∀ x ∈ ns, x.natAbs < 10 ^ 40) → PyData.leavesShortAll 50 (ns.map PyData.int) = true
  | [], _ => rfl
  | n :: ns, h => by
    have ih := short_ints (ns := ns) fun x hx => h x (List.mem_cons_of_mem _ hx)
    have h1 := short_int (h n List.mem_cons_self)
    simp only [List.map_cons, PyData.leavesShortAll, ih, h1, Bool.and_self]
theorem bulk_ints : ∀ ns : List Int, PyData.bulkAll (ns.map PyData.int) = ns.length
  | [] => rfl
  | n :: ns => by
    have ih := bulk_ints ns
    simp only [List.map_cons, PyData.bulkAll, PyData.bulk, ih, List.length_cons]
    omega
def dI (ns : List Int) : PyData := .list (ns.map PyData.int)
theorem fine_ints {ns : List Int} (h : ∀ x ∈ ns, x.natAbs < 10 ^ 40) (hl : ns.length ≤ 10000) : Fine (dI ns) :=
  ⟨by simp only [dI, PyData.showable]; exact showable_ints h, shaped_ints ns, by simp only [dI, PyData.leavesShort]; exact short_ints h, by simp only [dI, PyData.bulk]; rw [bulk_ints]; omega⟩
structure FineAll (ds : List PyData) : Prop where
  s : PyData.showableAll ds = true
  c : PyData.canLayAll0 ds = true
  d : PyData.depthAll ds ≤ 40
  l : PyData.leavesShortAll 50 ds = true
theorem FineAll.nil : FineAll [] := ⟨rfl, rfl, by simp [PyData.depthAll], rfl⟩
theorem FineAll.cons {d : PyData} {ds : List PyData} (f : d.showable = true) (c : d.canLay0 = true) (dp : d.depth ≤ 40) (l : d.leavesShort 50 = true) (r : FineAll ds) : FineAll (d :: ds) :=
  ⟨by simp only [PyData.showableAll, f, r.s, Bool.and_self], by simp only [PyData.canLayAll0, c, r.c, Bool.and_self], by have := r.d; simp only [PyData.depthAll]; omega, by simp only [PyData.leavesShortAll, l, r.l, Bool.and_self]⟩
theorem FineAll.cons_ints {ns : List Int} {ds : List PyData} (h : ∀ x ∈ ns, x.natAbs < 10 ^ 40) (r : FineAll ds) : FineAll (dI ns :: ds) :=
  .cons (by simp only [dI, PyData.showable]; exact showable_ints h) (by simp only [dI, PyData.canLay0]; exact canLay_ints ns) (by have := depth_ints ns; simp only [dI, PyData.depth]; omega) (by simp only [dI, PyData.leavesShort]; exact short_ints h) r
theorem FineAll.cons_lst {xs ds : List PyData} (f : FineAll xs) (dp : PyData.depthAll xs ≤ 30) (r : FineAll ds) : FineAll (.list xs :: ds) :=
  .cons (by simp only [PyData.showable]; exact f.s) (by simp only [PyData.canLay0]; exact f.c) (by simp only [PyData.depth]; omega) (by simp only [PyData.leavesShort]; exact f.l) r
theorem FineAll.fine {ds : List PyData} (r : FineAll ds) (b : PyData.bulkAll ds ≤ 100000) : Fine (.list ds) :=
  ⟨by simp only [PyData.showable]; exact r.s, by
    unfold SeqAt.shaped
    have h1 : PyData.canLay0 (.list ds) = true := by simp only [PyData.canLay0]; exact r.c
    have h2 : PyData.depth (.list ds) ≤ 64 := by
      have := r.d
      simp only [PyData.depth]
      omega
    rw [h1, decide_eq_true h2]
    rfl, by simp only [PyData.leavesShort]; exact r.l, by simp only [PyData.bulk]; exact b⟩
/-! ### generators -/
structure GnAt (P : Program) (w : World) (K : PySem.W.Frag) (mg : Str → Option Value) (base : Heap) (x : Str) (st : Stmt) (k : Nat) (ps : List Str) (sp : SpG) : Prop where
  ex : ∃ f fd, mg x = some (.ref f) ∧ Fun K x x st f fd ∧ GFn P w K mg base k f fd ps sp ∧ Binds K fd ps []
theorem FunAt.okGn {P : Program} {w : World} {K : PySem.W.Frag} {mg : Str → Option Value} {base : Heap} {x : Str} {st : Stmt} {k : Nat} {ps N : List Str} {sp : SpG} (F : FunAt K mg x st) (S : GScope N ps (defScope st)) (len : ∀ vs H Q E, sp vs H Q E → vs.length = ps.length)
    (hb : ∀ (kV doc pm : Value) (an : Option Addr) (cdv ct : Value) (us : List Value), us.length = ps.length → bindArgs (PySem.W.fnOf x x (defArgs st) (defBody st) (defScope st) .none kV doc pm an cdv ct) ⟨us, []⟩ = pure (ps.zip us))
    (hbody : ∀ (f : Addr) (cdv : Value) (A : Around) (outer : List Env) (s : Shared) (H : Hp) (vs : List V) (Q : List V → Hp → Prop) (E : XK) (pn : List (Addr × Obj)), Room k (A.deeper (envOfC x (defScope st) s.heap.objs.size f cdv)) → sp vs H Q E →
      ∃ t, GSs (gcxOf P w K mg base N x (defScope st) f cdv A outer s H E pn) (defBody st) t ∧ t { nx := fun ys _ H' => Q ys H', rt := fun ys v H' => v = .non ∧ Q ys H' } [] (start N vs) H) : GnAt P w K mg base x st (k + 1) ps sp := by
  obtain ⟨f, fd, hm, F⟩ := F.ex
  refine ⟨f, fd, hm, F, ?_, F.binds hb⟩
  obtain ⟨oc, od, kV, doc, pm, an, cdv, ct, osl, rfl, lk, hcd⟩ := F.ex
  exact gfn_of lk hcd S len fun A outer s H vs Q E pn hr h => hbody f cdv A outer s H vs Q E pn hr h
theorem pe_listGD {X : Cx} {x : Str} {st : Stmt} {k : Nat} {ps : List Str} {sp : SpG} {e : Expr} {es : List Expr} {t : TA} {p p0 p1 pos : Pos} (D : GnAt X.prog X.w X.K X.mg X.base x st k ps sp) (hr : Room (k + 3) X.A) (hgl : Gl X "list") (hml : X.mg "list" = none) (ha : PA X (e :: es) t) (hg : Gl X x := by rfl)
    (hdb : (x == ("__debug__" : Str)) = false := by decide) (he : starEach (e :: es) X.env = (false, eval e X.env) :: starEach es X.env := by rfl) (hpl : (backTo p1 (starEach es X.env)).any (·.1) = false := by rfl)
    (he2 : starEach [.Call (.Name x p) (e :: es) [] p1] X.env = (false, eval (.Call (.Name x p) (e :: es) [] p1) X.env) :: starEach [] X.env := by rfl) :
    PE X (.Call (.Name "list" p0) [.Call (.Name x p) (e :: es) [] p1] [] pos) (tListG (tCallG sp [] E0 t)) := by
  obtain ⟨f, fd, hm, F, G, b⟩ := D.ex
  exact pe_listG (pgen_call G (hr.mono (by omega)) hg hm F.kp b .nil ha hdb he hpl) (fun _ _ _ _ _ _ _ z => by
    obtain ⟨_, _, _, _, _, _, _, _, _, _, _, _, q⟩ := z
    exact q.elim) (fun _ _ _ z => z.elim) hr hgl hml boot_list (by decide) (by decide) he2
section
variable {D : GEnds} {ys : List V} {σ : L2.St} {H : Hp} {t u : TGn} {te : TE} {c : TT} {tb : TGn} {ts : TS}
theorem w_gStart {N : List Str} {vs : List V} {σ' : L2.St} (e : L2.start N vs = σ') (h : t D ys σ' H) : t D ys (L2.start N vs) H := e ▸ h
theorem w_gThen (h : t { D with nx := fun ys' σ' H' => u D ys' σ' H' } ys σ H) : tGThen t u D ys σ H := h
theorem w_gPlain (h : ts (D.at ys) σ H) : tPlain ts D ys σ H := h
theorem w_gYield (hz : ys.length < 16777216) (h : te σ H fun x H1 => D.nx (ys ++ [x]) σ H1) : tGYield te D ys σ H := ⟨szlt hz, h⟩
theorem w_g0 (h : D.nx ys σ H) : tG0 D ys σ H := h
theorem w_at (h : D.nx ys σ H) : (D.at ys).nx σ H := h
end
section
variable {D : GEnds} {ys : List V} {σ : L2.St} {H : Hp} {c : TT} {tb : TGn}
def GWh (W : Nat → List V → L2.St → Hp → Prop) (m : Nat) (tb : TGn) (D : GEnds) (ys : List V) (σ : L2.St) (H1 : Hp) : Prop := ∃ N : List V → L2.St → Hp → Prop, (∀ ys' σ' H', N ys' σ' H' → ∃ m', m' < m ∧ W m' ys' σ' H') ∧ tb { D with nx := N, ct := N, bk := D.nx } ys σ H1
theorem w_gWhile (W : Nat → List V → L2.St → Hp → Prop) (m0 : Nat) (h0 : W m0 ys σ H) (hs : ∀ m ys σ H, W m ys σ H → c σ H fun b H1 => if b = true then GWh W m tb D ys σ H1 else D.nx ys σ H1) : tGWhile c tb D ys σ H := ⟨W, ⟨m0, h0⟩, hs⟩
theorem w_gWh {W : Nat → List V → L2.St → Hp → Prop} {m : Nat} (q : tb { D with nx := fun ys' σ' H' => ∃ m', m' < m ∧ W m' ys' σ' H', ct := fun ys' σ' H' => ∃ m', m' < m ∧ W m' ys' σ' H', bk := D.nx } ys σ H) : GWh W m tb D ys σ H := ⟨_, fun _ _ _ h => h, q⟩
def ListGE (Q : VK) : List V → Hp → Prop := fun out H2 => ∀ p, H2 p = none → Q (.ref p) (upd H2 p (.lst out))
theorem w_listG {tg : TGen} {Q : VK} (h : tg σ H (ListGE Q)) : tListG tg σ H Q := h
theorem w_callG {sp : SpG} {dvs : List V} {E : XK} {t : TA} {cont : List V → Hp → Prop} (h : t σ H fun vs H1 => sp (vs ++ dvs) H1 cont E) : tCallG sp dvs E t σ H cont := h
theorem w_listGE {Q : VK} {out : List V} (h : ∀ p, H p = none → Q (.ref p) (upd H p (.lst out))) : ListGE Q out H := h
end
end Pg

namespace Pg
open PySem PySem.Spec PyProof.Rows L2
/-! ### truths compared; None or a number compared -/
theorem dec_bl {a b : Bool} : decide (V.bl a = V.bl b) = (a == b) := by
  cases a <;> cases b <;> rfl
theorem w_eqB {a b : Bool} {H : Hp} {Q : VK} (q : Q (.bl (a == b)) H) : rEq (.bl a) (.bl b) H Q := ⟨rfl, by rw [dec_bl]; exact q⟩
theorem w_neB {a b : Bool} {H : Hp} {Q : VK} (q : Q (.bl (a != b)) H) : rNe (.bl a) (.bl b) H Q := ⟨rfl, by rw [dec_bl]; exact q⟩
theorem beq_iff {p q : Prop} [Decidable p] [Decidable q] (h : p ↔ q) : (decide p == decide q) = true := by
  by_cases z : p
  · rw [decide_eq_true z, decide_eq_true (h.mp z)]; rfl
  · rw [decide_eq_false z, decide_eq_false fun y => z (h.mpr y)]; rfl
theorem bne_iff {p q : Prop} [Decidable p] [Decidable q] (h : p ↔ q) : (decide p != decide q) = false := by
  by_cases z : p
  · rw [decide_eq_true z, decide_eq_true (h.mp z)]; rfl
  · rw [decide_eq_false z, decide_eq_false fun y => z (h.mpr y)]; rfl
theorem w_iteV {b : Bool} {A B : Prop} (e : b = true) (h : A) : if b = true then A else B := by rw [if_pos e]; exact h
theorem w_iteW {b : Bool} {A B : Prop} (e : b = false) (h : B) : if b = true then A else B := by rw [e]; exact h
/-- None or a number -/
def NonInt (v : V) : Prop := v = .non ∨ ∃ i, v = .int i
theorem NonInt.dp {K : PySem.W.Frag} {H : Hp} {v : V} (h : NonInt v) : ∃ d, Dp K H v d ∧ SeqAt.shaped d = true ∧ PyData.eqv d d = true := by
  rcases h with rfl | ⟨i, rfl⟩
  · exact ⟨.none, .non, by decide, by simp [PyData.eqv]⟩
  · exact ⟨.int i, .int i, by rfl, by simp [PyData.eqv]⟩
theorem w_eqSame {K : PySem.W.Frag} {H : Hp} {Q : VK} {v : V} (h : NonInt v) (q : Q (.bl true) H) : rEqD K v v H Q := by
  obtain ⟨d, h1, h2, h3⟩ := h.dp (K := K) (H := H)
  exact ⟨d, d, h1, h1, h2, h2, by rw [h3]; exact q⟩
theorem w_neSame {K : PySem.W.Frag} {H : Hp} {Q : VK} {v : V} (h : NonInt v) (q : Q (.bl false) H) : rNeD K v v H Q := by
  obtain ⟨d, h1, h2, h3⟩ := h.dp (K := K) (H := H)
  exact ⟨d, d, h1, h1, h2, h2, by rw [h3]; exact q⟩
/-! ### steps that go up, comprehensions over any walk -/
section
variable {σ : L2.St} {H : Hp} {g : TG} {tt : TT} {te : TE} {vs : List Nat} {Q : VK}
theorem l_it {J : It} {n : Nat} {G : Hp → Prop} {Y : Nat → Hp → V → Hp → Prop} (w : Walk J n G Y) (Pv : Addr → Nat → Hp → Prop) (h0 : ∀ L, H L = none → Pv L 0 (upd H L (.lst []))) (hG : ∀ L i H', H L = none → i ≤ n → Pv L i H' → G H')
    (hs : ∀ L i x H' H'', H L = none → i < n → Pv L i H' → Y i H' x H'' → g x (wipe σ vs) H'' fun σ2 H2 => wipe σ2 vs = wipe σ vs ∧ tt σ2 H2 fun b H3 => if b = true then te σ2 H3 (AppE L (Pv L (i + 1))) else Pv L (i + 1) H3)
    (hd : ∀ L H', H L = none → Pv L n H' → Q (.ref L) H') : LcB g tt te vs σ Q J H := fun L hL => lc_it w (Pv L) (h0 L hL) (fun i H' => hG L i H' hL) (fun i x H' H'' => hs L i x H' H'' hL) (fun H' => hd L H' hL)
theorem l_rangeC {lo c : Int} {n : Nat} (Pv : Addr → Nat → Hp → Prop) (h0 : ∀ L, H L = none → Pv L 0 (upd H L (.lst [])))
    (hs : ∀ L i H', H L = none → i < n → Pv L i H' → g (.int (lo + (i : Nat) * c)) (wipe σ vs) H' fun σ2 H2 => wipe σ2 vs = wipe σ vs ∧ tt σ2 H2 fun b H3 => if b = true then te σ2 H3 (AppE L (Pv L (i + 1))) else Pv L (i + 1) H3)
    (hd : ∀ L H', H L = none → Pv L n H' → Q (.ref L) H') : LcB g tt te vs σ Q (Itc lo c n) H :=
  l_it walk_rangeC Pv h0 (fun _ _ _ _ _ _ => trivial) (fun L i x H' H'' hL hi p y => by
    obtain ⟨e1, e2⟩ := y
    subst e1 e2
    exact hs L i _ hL hi p) hd
theorem l_enum {K : PySem.W.Frag} {a : Addr} (xs : List V) (Pv : Addr → Nat → Hp → Prop) (h0 : ∀ L, H L = none → Pv L 0 (upd H L (.lst []))) (hl : ∀ L i H', H L = none → i ≤ xs.length → Pv L i H' → SqL K H' a xs)
    (hs : ∀ L i x T H', H L = none → xs[i]? = some x → Pv L i H' → H' T = none → g (.ref T) (wipe σ vs) (upd H' T (.tup [.int (i : Nat), x])) fun σ2 H2 => wipe σ2 vs = wipe σ vs ∧ tt σ2 H2 fun b H3 => if b = true then te σ2 H3 (AppE L (Pv L (i + 1))) else Pv L (i + 1) H3)
    (hd : ∀ L H', H L = none → Pv L xs.length H' → Q (.ref L) H') : LcB g tt te vs σ Q (Ite K a) H :=
  l_it walk_enum Pv h0 hl (fun L i x H' H'' hL hi p y => by
    obtain ⟨T, u, v, h1, h2, h3, h4, h5⟩ := y
    subst h1 h3
    have h4 := Option.some.inj h4
    subst h4
    exact hs L i v T H' hL h5 p h2) hd
end
theorem RgC.pos {i j c : Int} (hi : 0 ≤ i) (hj : i ≤ j) (hj2 : j < 2 ^ 30) (hc : 1 ≤ c) (hc2 : c < 2 ^ 30) : RgC i j c ((j - i + c - 1) / c).toNat := by
  have e : Builtin.Range.rangeSize i j c = (((j - i + c - 1) / c).toNat : Int) := by
    unfold Builtin.Range.rangeSize
    rw [if_pos (by omega)]
    have h0 : 0 ≤ (j - i + c - 1) / c := Int.ediv_nonneg (by omega) (by omega)
    rw [Int.toNat_of_nonneg h0]
    by_cases h : i < j
    · rw [if_pos h, show j - i + c - 1 = (j - i - 1) + c by omega, Int.add_ediv_of_dvd_right (Int.dvd_refl c), Int.ediv_self (by omega)]
    · rw [if_neg h, show j - i + c - 1 = c - 1 by omega, Int.ediv_eq_zero_of_lt (by omega) (by omega)]
  have hb : ((j - i + c - 1) / c).toNat < 2 ^ 31 := by
    have h1 : (j - i + c - 1) / c ≤ j - i + c - 1 := Int.ediv_le_self _ (by omega)
    omega
  refine ⟨by omega, by omega, ?_, e⟩
  unfold Builtin.Range.small
  rw [e]
  simp only [Builtin.Range.rangeFitsLong, Bool.and_eq_true, Bool.or_eq_true, decide_eq_true_eq, beq_iff_eq]
  rw [if_pos (by omega)]
  simp only [Bool.and_eq_true, decide_eq_true_eq]
  omega
theorem w_rng3P {H : Hp} {R : It → Hp → Prop} {i j c : Int} (h : 0 ≤ i ∧ i ≤ j ∧ j < 2 ^ 30 ∧ 1 ≤ c ∧ c < 2 ^ 30) (q : R (Itc i c ((j - i + c - 1) / c).toNat) H) : Rng3E R [.int i, .int j, .int c] H :=
  ⟨i, j, c, _, rfl, RgC.pos h.1 h.2.1 h.2.2.1 h.2.2.2.1 h.2.2.2.2, q⟩
theorem kc_pi {X : Cx} {K : PySem.W.Frag} {tg e : Expr} {t : TE} (h : PI X tg e (iList X.K t)) (q : X.K = K) : PI X tg e (iList K t) := q ▸ h
theorem w_extendR {H : Hp} {Q : VK} {a q : Addr} {ps qs : List Addr} (h1 : H a = some (.lst (ps.map V.ref))) (h2 : H q = some (.lst (qs.map V.ref))) (hz : ps.length + qs.length ≤ 16777216) (k : Q .non (upd H a (.lst ((ps ++ qs).map V.ref)))) : rExtend (.ref a) [.ref q] H Q :=
  ⟨a, q, _, _, rfl, rfl, h1, h2, szle' (by rw [List.length_map, List.length_map]; exact hz), by rw [← List.map_append]; exact k⟩
/-! ### lists of pairs of numbers -/
def dP (l : Int × Int) : PyData := .tuple [.int l.1, .int l.2]
theorem canLay_pairs : ∀ ls : List (Int × Int), PyData.canLayAll0 (ls.map dP) = true
  | [] => rfl
  | l :: ls => by
    have ih := canLay_pairs ls
    simp only [List.map_cons, dP, PyData.canLayAll0, PyData.canLay0, Bool.and_self, Bool.true_and]
    exact ih
theorem depth_pairs : ∀ ls : List (Int × Int), PyData.depthAll (ls.map dP) ≤ 3
  | [] => by simp [PyData.depthAll]
  | l :: ls => by
    have ih := depth_pairs ls
    have e : PyData.depth (dP l) ≤ 2 := by simp [dP, PyData.depthAll, PyData.depth]
    simp only [List.map_cons, PyData.depthAll]
    omega
theorem shaped_pairs (ls : List (Int × Int)) : SeqAt.shaped (.list (ls.map dP)) = true := by
  unfold SeqAt.shaped
  have h1 : PyData.canLay0 (.list (ls.map dP)) = true := by simp only [PyData.canLay0]; exact canLay_pairs ls
  have h2 : PyData.depth (.list (ls.map dP)) ≤ 64 := by
    have := depth_pairs ls
    simp only [PyData.depth]
    omega
  rw [h1, decide_eq_true h2]
  rfl
theorem eqvAll_pairs : ∀ ls ms : List (Int × Int), PyData.eqvAll (ls.map dP) (ms.map dP) = decide (ls = ms)
  | [], [] => by simp [PyData.eqvAll]
  | [], m :: ms => by simp [PyData.eqvAll]
  | n :: ns, [] => by simp [PyData.eqvAll]
  | n :: ns, m :: ms => by
    have ih := eqvAll_pairs ns ms
    simp only [List.map_cons, PyData.eqvAll, ih]
    have e : PyData.eqv (dP n) (dP m) = decide (n = m) := by
      obtain ⟨n1, n2⟩ := n
      obtain ⟨m1, m2⟩ := m
      simp only [dP, PyData.eqv, PyData.eqvAll, Prod.mk.injEq]
      by_cases h : n1 = m1 <;> by_cases h2 : n2 = m2 <;> simp [h, h2]
    rw [e]
    by_cases h : n = m
    · subst h
      by_cases h2 : ns = ms <;> simp [h2]
    · simp [h]
/-! ### repr of None or of data -/
def rReprA (K : PySem.W.Frag) : List V → Hp → VK → Prop := fun xs H Q => (xs = [.non] ∧ Q (.str "None") H) ∨ rReprD K xs H Q
theorem call_reprA {X : Cx} (hg : X.A.guards = some []) (hu : X.A.units + 100 < cLine) : CallR X (.builtin "repr") (rReprA X.K) := by
  intro pins s σ H xs us Q I r h
  rcases h with ⟨rfl, q⟩ | h
  · obtain ⟨u, rfl, ru⟩ := vals1 r
    cases ru
    exact PySem.P.repr_of_none ⟨.str "None", H, I.tok _, ⟨_, rfl⟩, q⟩
  · exact call_reprD hg hu pins s σ H xs us Q I r h
theorem w_reprA0 {K : PySem.W.Frag} {H : Hp} {Q : VK} (q : Q (.str "None") H) : rReprA K [.non] H Q := .inl ⟨rfl, q⟩
theorem w_reprA {K : PySem.W.Frag} {H : Hp} {Q : VK} {a : Addr} {d : PyData} (h : Dp K H (.ref a) d) (f : Fine d) (q : Q (.str d.shown) H) : rReprA K [.ref a] H Q := .inr (w_reprD h f q)
theorem w_all {K : PySem.W.Frag} {H : Hp} {Q : VK} {a : Addr} {bs : List Bool} (h : H a = some (.lst (bs.map V.bl))) (q : Q (.bl (bs.all id)) H) : rAll K [.ref a] H Q := ⟨a, bs, rfl, SqL.of h, q⟩
/-! ### slices of lists of objects, loops over tuples -/
theorem cutV_take (xs : List V) (n : Nat) : cutV xs none (some (n : Int)) = xs.take n := by
  show (xs.drop (HT.sIx xs.length 0 none)).take (HT.sIx xs.length xs.length (some (n : Int)) - HT.sIx xs.length 0 none) = xs.take n
  have e1 : HT.sIx xs.length 0 none = 0 := rfl
  have e2 : HT.sIx xs.length xs.length (some (n : Int)) = min n xs.length := by
    simp only [HT.sIx]
    rw [if_neg (by omega)]
    omega
  rw [e1, e2, List.drop_zero, Nat.sub_zero]
  by_cases h : n ≤ xs.length
  · rw [Nat.min_eq_left h]
  · rw [Nat.min_eq_right (by omega), List.take_length, List.take_of_length_le (by omega)]
theorem w_slTake {K : PySem.W.Frag} {H : Hp} {Q : VK} {a : Addr} {ps : List Addr} {n : Nat} (h : H a = some (.lst (ps.map V.ref))) (q : ∀ p, H p = none → Q (.ref p) (upd H p (.lst ((ps.take n).map V.ref)))) : rSlL K (.ref a) none (some (n : Int)) H Q :=
  ⟨a, _, rfl, SqL.of h, fun p hp => by rw [cutV_take, ← List.map_take]; exact q p hp⟩
def TupE (K : PySem.W.Frag) (R : It → Hp → Prop) : V → Hp → Prop := fun x H1 => ∃ a, x = .ref a ∧ (∃ xs, SqT K H1 a xs) ∧ R (Itt K a) H1
theorem w_iTup {K : PySem.W.Frag} {tl : TE} {σ : L2.St} {H : Hp} {R : It → Hp → Prop} (h : tl σ H (TupE K R)) : iTup K tl σ H R := h
theorem w_iTupE {K : PySem.W.Frag} {a : Addr} {xs : List V} {H : Hp} {R : It → Hp → Prop} (h : SqT K H a xs) (q : R (Itt K a) H) : TupE K R (.ref a) H := ⟨a, rfl, ⟨xs, h⟩, q⟩
theorem kc_pg {X : Cx} {K : PySem.W.Frag} {tg : Expr} {k : Nat} {t : TGs} (h : PG X tg (gTup X.K k t)) (q : X.K = K) : PG X tg (gTup K k t) := q ▸ h
/-! ### x *= y -/
def ipM : TIp := fun x y H Q => ∃ i j, x = .int i ∧ y = .int j ∧ CMulW i j ∧ Q (.int (i * j)) H
theorem ip_mul {X : Cx} : PIp X .Mult ipM := by
  intro pins s σ H x y v u Q I r1 r2 h
  obtain ⟨i, j, e1, e2, c, q⟩ := h
  subst e1; subst e2
  obtain ⟨t, rfl⟩ := r1
  obtain ⟨t', rfl⟩ := r2
  exact imul_int ⟨.int _, H, I.tok _, ⟨_, rfl⟩, q⟩ c.ok
theorem w_ipM {m n : Int} {H : Hp} {Q : VK} (c : CMulW m n) (q : Q (.int (m * n)) H) : ipM (.int m) (.int n) H Q := ⟨m, n, rfl, rfl, c, q⟩
theorem FineAll.tup {ds : List PyData} (r : FineAll ds) (b : PyData.bulkAll ds ≤ 100000) : Fine (.tuple ds) :=
  ⟨by simp only [PyData.showable]; exact r.s, by
    unfold SeqAt.shaped
    have h1 : PyData.canLay0 (.tuple ds) = true := by simp only [PyData.canLay0]; exact r.c
    have h2 : PyData.depth (.tuple ds) ≤ 64 := by
      have := r.d
      simp only [PyData.depth]
      omega
    rw [h1, decide_eq_true h2]
    rfl, by simp only [PyData.leavesShort]; exact r.l, by simp only [PyData.bulk]; exact b⟩
theorem FineAll.cons_int {i : Int} {ds : List PyData} (h : i.natAbs < 10 ^ 40) (r : FineAll ds) : FineAll (.int i :: ds) :=
  .cons (showable_int h) (by simp only [PyData.canLay0]) (by simp [PyData.depth]) (short_int h) r
theorem fine_pair {i j : Int} (hi : i.natAbs < 10 ^ 40) (hj : j.natAbs < 10 ^ 40) : Fine (dP (i, j)) := (FineAll.cons_int hi (.cons_int hj .nil)).tup (by simp [PyData.bulkAll, PyData.bulk])
theorem w_ixLR {K : PySem.W.Frag} {H : Hp} {Q : VK} {p : Addr} {ps : List Addr} {m : Int} (h : H p = some (.lst (ps.map V.ref))) (h0 : 0 ≤ m) (h1 : m < ps.length) (q : ∀ t, ps[m.toNat]? = some t → Q (.ref t) H) : rIxL K (.ref p) (.int m) H Q := by
  obtain ⟨v, hv, e, e2⟩ := atI_lt (xs := ps.map V.ref) h0 (by rw [List.length_map]; exact h1)
  rw [List.getElem?_map] at e2
  cases z : ps[m.toNat]? with
  | none =>
    rw [z] at e2
    cases e2
  | some t =>
    rw [z] at e2
    have e3 : v = .ref t := (Option.some.inj e2).symm
    subst e3
    exact w_ixL (SqL.of h) e (q t z)
theorem w_setLR {H : Hp} {p t : Addr} {ps : List Addr} {m : Int} {Q : Hp → Prop} (h : H p = some (.lst (ps.map V.ref))) (h0 : 0 ≤ m) (h1 : m < ps.length) (q : Q (upd H p (.lst ((ps.set m.toNat t).map V.ref)))) : rSetL (.ref p) (.int m) (.ref t) H Q := by
  refine ⟨p, _, m, m.toNat, rfl, rfl, h, ?_, by rw [← List.map_set]; exact q⟩
  rw [List.length_map]
  have z : ((m.toNat : Nat) : Int) = m := Int.toNat_of_nonneg h0
  unfold ixN
  rw [if_pos h0, if_pos h1]
theorem w_catR {H : Hp} {Q : VK} {p q : Addr} {ps qs : List Addr} (h1 : H p = some (.lst (ps.map V.ref))) (h2 : H q = some (.lst (qs.map V.ref))) (hz : ps.length + qs.length ≤ 16777216) (k : ∀ r, H r = none → Q (.ref r) (upd H r (.lst ((ps ++ qs).map V.ref)))) : rCat (.ref p) (.ref q) H Q :=
  ⟨p, q, _, _, rfl, rfl, h1, h2, szle' (by rw [List.length_map, List.length_map]; exact hz), fun r hr => by rw [← List.map_append]; exact k r hr⟩
def Par3E (i j l : Nat) (R : L2.St → Hp → Prop) (σ : L2.St) : List V → Hp → Prop := fun vs H1 => ∃ u v w, vs = [u, v, w] ∧ R (((σ.set i (some u)).set j (some v)).set l (some w)) H1
theorem w_par3 {i j l : Nat} {tA : TA} {D : Ends} {σ : L2.St} {H : Hp} (h : tA σ H (Par3E i j l (D.nx) σ)) : tPar3 i j l tA D σ H := h
theorem w_par3E {i j l : Nat} {R : L2.St → Hp → Prop} {σ : L2.St} {H : Hp} {x y z : V} (q : R (((σ.set i (some x)).set j (some y)).set l (some z)) H) : Par3E i j l R σ [x, y, z] H := ⟨x, y, z, rfl, q⟩
/-! ### defs that call themselves -/
def spNo : Sp := fun _ _ _ _ => False
theorem FunAt.never {P : Program} {w : World} {K : PySem.W.Frag} {mg : Str → Option Value} {base : Heap} {x : Str} {st : Stmt} {k : Nat} {ps : List Str} (F : FunAt K mg x st)
    (hb : ∀ (kV doc pm : Value) (an : Option Addr) (cdv ct : Value) (us : List Value), us.length = ps.length → bindArgs (PySem.W.fnOf x x (defArgs st) (defBody st) (defScope st) .none kV doc pm an cdv ct) ⟨us, []⟩ = pure (ps.zip us)) : DefAt P w K mg base x st k ps spNo := by
  obtain ⟨f, fd, hm, F⟩ := F.ex
  exact ⟨f, fd, hm, F, ⟨fun _ _ _ _ h => h.elim, fun _ _ _ _ _ _ _ _ _ _ _ _ _ h => h.elim⟩, F.binds hb⟩
/-! ### lists of lists of numbers -/
structure ListsAt (H : Hp) (ps : List Addr) (xss : List (List Int)) : Prop where
  len : ps.length = xss.length
  at_ : ∀ (i : Nat) (p : Addr) (xs : List Int), ps[i]? = some p → xss[i]? = some xs → H p = some (.lst (xs.map V.int))
theorem ListsAt.nil {H : Hp} : ListsAt H [] [] := ⟨rfl, by simp⟩
theorem ListsAt.fr {H H' : Hp} {ps : List Addr} {xss : List (List Int)} (h : ListsAt H ps xss) (f : Fr [] H H') : ListsAt H' ps xss := ⟨h.len, fun i p l h1 h2 => f.at0 (h.at_ i p l h1 h2)⟩
theorem ListsAt.app {H : Hp} {ps qs : List Addr} {xss yss : List (List Int)} (h : ListsAt H ps xss) (k : ListsAt H qs yss) : ListsAt H (ps ++ qs) (xss ++ yss) := by
  refine ⟨by simp [h.len, k.len], fun i q m h1 h2 => ?_⟩
  have hl := h.len
  by_cases hi : i < ps.length
  · rw [List.getElem?_append_left hi] at h1
    rw [List.getElem?_append_left (by omega)] at h2
    exact h.at_ i q m h1 h2
  · rw [List.getElem?_append_right (by omega)] at h1
    rw [List.getElem?_append_right (by omega), ← hl] at h2
    exact k.at_ _ q m h1 h2
theorem ListsAt.one {H : Hp} {p : Addr} {xs : List Int} (h : H p = some (.lst (xs.map V.int))) : ListsAt H [p] [xs] := ⟨rfl, fun i q m h1 h2 => by
  match i, h1, h2 with
  | 0, h1, h2 =>
    have e1 : p = q := by simpa using h1
    have e2 : xs = m := by simpa using h2
    subst e1 e2
    exact h
  | i + 1, h1, h2 => simp at h1⟩
theorem ListsAt.put {H : Hp} {a : Addr} {o : HO} {ps : List Addr} {xss : List (List Int)} (h : ListsAt H ps xss) (ha : a ∉ ps) : ListsAt (upd H a o) ps xss :=
  ⟨h.len, fun i q m h1 h2 => by
    have hne : q ≠ a := fun e => ha (e ▸ List.mem_of_getElem? h1)
    rw [upd_ne hne]
    exact h.at_ i q m h1 h2⟩
theorem dpAll_lists {K : PySem.W.Frag} {H : Hp} : ∀ {ps : List Addr} {xss : List (List Int)}, ListsAt H ps xss → DpAll K H (ps.map V.ref) (xss.map dI)
  | [], [], _ => .nil
  | [], _ :: _, h => by cases h.len
  | _ :: _, [], h => by cases h.len
  | p :: ps, l :: ls, h => .cons (dp_ints (SqL.of (h.at_ 0 p l rfl rfl))) (dpAll_lists ⟨by simpa using h.len, fun i q m h1 h2 => h.at_ (i + 1) q m (by simpa using h1) (by simpa using h2)⟩)
theorem canLay_lists : ∀ ls : List (List Int), PyData.canLayAll0 (ls.map dI) = true
  | [] => rfl
  | l :: ls => by
    have ih := canLay_lists ls
    have h1 : PyData.canLay0 (dI l) = true := by simp only [dI, PyData.canLay0]; exact canLay_ints l
    simp only [List.map_cons, PyData.canLayAll0, h1, ih, Bool.and_self]
theorem depth_lists : ∀ ls : List (List Int), PyData.depthAll (ls.map dI) ≤ 3
  | [] => by simp [PyData.depthAll]
  | l :: ls => by
    have ih := depth_lists ls
    have h1 : PyData.depth (dI l) ≤ 2 := by
      have := depth_ints l
      simp only [dI, PyData.depth]
      omega
    simp only [List.map_cons, PyData.depthAll]
    omega
theorem shaped_lists (ls : List (List Int)) : SeqAt.shaped (.list (ls.map dI)) = true := by
  unfold SeqAt.shaped
  have h1 : PyData.canLay0 (.list (ls.map dI)) = true := by simp only [PyData.canLay0]; exact canLay_lists ls
  have h2 : PyData.depth (.list (ls.map dI)) ≤ 64 := by
    have := depth_lists ls
    simp only [PyData.depth]
    omega
  rw [h1, decide_eq_true h2]
  rfl
theorem w_neNilL {K : PySem.W.Frag} {H : Hp} {Q : VK} {a b : Addr} {ps : List Addr} {xss : List (List Int)} (ha : H a = some (.lst (ps.map V.ref))) (hb : H b = some (.lst [])) (h1 : ListsAt H ps xss) (k : Q (.bl (!decide (xss = []))) H) : rNeD K (.ref a) (.ref b) H Q :=
  ⟨_, _, .lst (SqL.of ha) (dpAll_lists h1), .lst (SqL.of hb) (dpAll_lists (ps := []) (xss := []) .nil), shaped_lists _, shaped_lists _, by
    have e : PyData.eqv (.list (xss.map dI)) (.list (([] : List (List Int)).map dI)) = decide (xss = []) := by
      simp only [PyData.eqv]
      cases xss with
      | nil => simp [PyData.eqvAll]
      | cons x xs => simp [PyData.eqvAll]
    rw [e]
    exact k⟩
theorem FineAll.cons_pair {l : Int × Int} {ds : List PyData} (hi : l.1.natAbs < 10 ^ 40) (hj : l.2.natAbs < 10 ^ 40) (r : FineAll ds) : FineAll (dP l :: ds) := by
  have f : FineAll [PyData.int l.1, PyData.int l.2] := FineAll.cons_int hi (.cons_int hj .nil)
  exact .cons (by simp only [dP, PyData.showable]; exact f.s) (by simp only [dP, PyData.canLay0]; exact f.c) (by simp [dP, PyData.depth, PyData.depthAll]) (by simp only [dP, PyData.leavesShort]; exact f.l) r
theorem fineAll_pairs : ∀ {ls : List (Int × Int)}, (∀ l ∈ ls, l.1.natAbs < 10 ^ 40 ∧ l.2.natAbs < 10 ^ 40) → FineAll (ls.map dP)
  | [], _ => .nil
  | l :: ls, h => .cons_pair (h l List.mem_cons_self).1 (h l List.mem_cons_self).2 (fineAll_pairs fun m hm => h m (List.mem_cons_of_mem _ hm))
theorem bulk_pairs : ∀ ls : List (Int × Int), PyData.bulkAll (ls.map dP) ≤ 10 * ls.length
  | [] => by simp [PyData.bulkAll]
  | l :: ls => by
    have ih := bulk_pairs ls
    have h1 : PyData.bulk (dP l) ≤ 5 := by simp [dP, PyData.bulk, PyData.bulkAll]
    simp only [List.map_cons, PyData.bulkAll, List.length_cons]
    omega
theorem fine_pairs {ls : List (Int × Int)} (h : ∀ l ∈ ls, l.1.natAbs < 10 ^ 40 ∧ l.2.natAbs < 10 ^ 40) (hl : ls.length ≤ 1000) : Fine (.list (ls.map dP)) :=
  (fineAll_pairs h).fine (by have := bulk_pairs ls; omega)
/-! ### repr of a great number, where no limit of digits was set -/
def rReprBig : List V → Hp → VK → Prop := fun xs H Q => ∃ i : Int, xs = [.int i] ∧ i.natAbs < 10 ^ 4300 ∧ Q (.str (toString i)) H
theorem nodigits_of {K : PySem.W.Frag} {h : Heap} (X : K.In h) (hl : h.NoLimit) (nd : PySem.W.nsIn K cStatics "sys.int_max_str_digits" = some none) : h.NoDigits := by
  obtain ⟨mc, hn, _⟩ := hl
  exact ⟨mc, hn, PySem.W.ns_none_of X hn nd⟩
theorem call_reprBig {X : Cx} (nd : PySem.W.nsIn X.K cStatics "sys.int_max_str_digits" = some none) (hu : X.A.units + 100 < cLine) (hc : X.calm = true := by rfl) : CallR X (.builtin "repr") rReprBig := by
  intro pins s σ H xs us Q I r h
  obtain ⟨i, rfl, hz, q⟩ := h
  obtain ⟨u, rfl, t, rfl⟩ := vals1 r
  exact call_repr_slot (by omega) (typeIs_int s i t) PySem.F.slot_int_repr.toG (PyProof.Rows.call_int_repr_or (A := X.A.in1) (I.ok.hd hc) (nodigits_of I.kIn I.nolimit nd) (fun _ => ⟨_, _, rfl, .str _, H, I.tok _, ⟨_, rfl⟩, q⟩) fun hge => absurd hz (Nat.not_lt.mpr hge))
theorem w_reprBig {i : Int} {H : Hp} {Q : VK} (h : i.natAbs < 10 ^ 4300) (q : Q (.str (toString i)) H) : rReprBig [.int i] H Q := ⟨i, rfl, h, q⟩
/-! ### dicts with int keys -/
section
variable {K : PySem.W.Frag} {σ : L2.St} {H : Hp} {td ty : TE} {Q : VK} {a : Addr} {kvs kvs' : List (Key × V)} {k : Int} {v x : V} {R : Hp → Prop}
theorem w_dnewK (q : ∀ p, H p = none → Q (.ref p) (upd H p (.dK []))) : tDNewK σ H Q := q
theorem w_dgetI (h : H a = some (.dK kvs)) (e : valV kvs (.inl k) = some v) (q : Q v H) : DGE (.ref a) Q (.int k) H := ⟨a, v, rfl, by rw [← e]; exact DGet.k (k := .inl k) h, q⟩
theorem w_dputI (h : H a = some (.dK kvs)) (hl : kvs.length < 16777216) (q : R (upd H a (.dK (putK kvs (.inl k) v)))) : DPE (.ref a) v R (.int k) H := ⟨a, _, rfl, DPut.k (k := .inl k) h (szlt hl), q⟩
def DNE (Q : VK) (y : V) : V → Hp → Prop := fun x H2 => ∃ a o, x = .ref a ∧ DGet H2 a y o ∧ Q (.bl (!o.isSome)) H2
theorem w_dnotIn (h : ty σ H fun y H1 => td σ H1 (DNE Q y)) : tDNotIn ty td σ H Q := h
theorem w_dnotInE (h : H a = some (.dK kvs)) (q : Q (.bl (!(valV kvs (.inl k)).isSome)) H) : DNE Q (.int k) (.ref a) H := ⟨a, _, rfl, DGet.k (k := .inl k) h, q⟩
end
end Pg

/-! sorted(set(xs)), xs a list of any number of ints -/
namespace L2
open PySem PySem.Spec PyProof.Rows
section
variable {P : Program} {w : World} {A : Around} {E : Value → Shared → Prop} {s : Shared}
abbrev noSet (w : World) : Obj := { cls := .type "set", dict := none, data := .set #[] 0 (.fresh 0 0 (!w.params.followText "set-order")) }
abbrev withSet (w : World) (h : Heap) : Heap := h.push (noSet w)
theorem pg_setList {a : Addr} {us : Array Value} (ks : List Int) {Q : Value → Shared → Prop} (calm : A.handled = none) (isl : s.heap.IsList a us) (hin : IntsAre us.toList ks) (lim : ks.length + 1 < scanBound)
    (q : ∀ (h1 : Heap) (t n : Nat), SetR w h1 s.heap.objs.size (fun j => decide (j ∈ ks)) n → n ≤ ks.length → (∀ b o, s.heap.get? b = some o → h1.get? b = some o) → Q (.ref s.heap.objs.size) { s with heap := h1, toks := t }) :
    wpAny (model P w) A (call (.type "set") [.ref a]) Q E s := by
  have usz : us.size = ks.length := by
    have z := IntsAre.length hin
    rwa [Array.length_toList] at z
  obtain ⟨c0, t0, m0⟩ := F.called_set.mro
  have g1 := F.called_set.made; have g2 := F.called_set.sub; have g3 := F.called_set.notType; have g4 := F.called_set.canCreate
  have g5 := F.typeCall_set_1 (.ref a)
  refine wpAny_call (codeAny_of_tree ?_); show wpAny _ _ (callAny (.type "set") _) _ _ _
  refine wpAny_pure ⟨Code.quiet_builtin _ (by decide +kernel), codeAny_builtin F.entry_type_call ?_⟩; rw [Around.under_plain (weight_type_call_type "set" [.ref a] []) rfl]
  repeat (any_goals (first | assumption | wp_step))
  refine codeAny_mono (code_set_led1 (.ref a) (E := E) (Q₁ := fun x s1 => x = .ref s.heap.objs.size ∧ s1 = { s with heap := withSet w s.heap }) ⟨rfl, rfl⟩) fun r s1 hr => ?_
  match r, hr with
  | .error _, hr => exact hr
  | .ok .next, hr => exact hr.elim
  | .ok .brk, hr => exact hr.elim
  | .ok .cont, hr => exact hr.elim
  | .ok (.ret x), ⟨ex, es⟩ =>
    subst ex es
    have hN : (withSet w s.heap).get? s.heap.objs.size = some (noSet w) := Heap.get?_push_size _ rfl
    have tN : Shared.TypeIs { s with heap := withSet w s.heap } (.ref s.heap.objs.size) "set" := ⟨_, hN, rfl⟩
    have g6 := F.called_set.init.lookup; have g7 := F.called_set.init.bind (.ref s.heap.objs.size)
    repeat (any_goals (first | assumption | wp_step))
    refine codeAny_mono (codeAny_call_builtin (R := wants (fun y s2 => y = .none ∧ ∃ h1 t n, s2 = { s with heap := h1, toks := t } ∧ SetR w h1 s.heap.objs.size (fun j => decide (j ∈ ks)) n ∧ n ≤ ks.length ∧ (∀ b o, s.heap.get? b = some o → h1.get? b = some o)) E)
      F.called_set.init.plain F.entry_set_init (check_set_init_1 tN ?_)) fun r2 s2 hr2 => ?_
    · obtain ⟨⟨oc, od, ob, osl⟩, atA, hcls, nn, hdat⟩ := isl
      simp only at hcls hdat
      subst hcls hdat
      have atA2 : (withSet w s.heap).get? a = some { cls := .type "list", dict := od, data := .seq us nn, slots := osl } := Heap.get?_push_of_some _ atA
      have ne0 : (Value.type "list" == Value.type "dict") = false := by decide
      have f1 := F.sub_list_set; have f2 := F.sub_list_frozenset
      have isl2 : (withSet w s.heap).IsList a us := ⟨_, atA2, rfl, nn, rfl⟩
      unfold Builtin.«set.__init__» noKeywords Builtin.Frozenset.updateFrom
      generalize hPI : pyIter = PI; wp_walk; subst hPI
      refine wpAny_pyIter_list isl2 (wpAny_bind (wpAny_runValue ?_))
      have ltA : a < s.heap.objs.size := Heap.lt_size atA
      have size2 : (withSet w s.heap).objs.size = s.heap.objs.size + 1 := Heap.size_push ..
      have neI : a ≠ (withSet w s.heap).objs.size := by rw [size2]; exact Nat.ne_of_lt (Nat.lt_succ_of_lt ltA)
      have notin : s.heap.objs.size ∉ [(withSet w s.heap).objs.size, a] := by
        rw [size2]
        simp only [List.mem_cons, List.not_mem_nil, or_false, not_or]
        exact ⟨Nat.ne_of_lt (Nat.lt_succ_self _), Nat.ne_of_gt ltA⟩
      have vals : ∀ (i : Nat) (v : Value), us[i]? = some v → ∃ k t, ks[i]? = some k ∧ v = .int k t := fun i v hv => by
        have hi : i < ks.length := by rw [← usz]; exact (Array.getElem?_eq_some_iff.mp hv).1
        obtain ⟨t, e⟩ := PyProof.Rows.IntsAre.int_at hin i v (by rw [Array.getElem?_toList]; exact hv)
        refine ⟨ks[i], t, List.getElem?_eq_getElem hi, ?_⟩
        rw [e, List.getD_eq_getElem?_getD, List.getElem?_eq_getElem hi] <;> rfl
      refine set_update_ints ((Walks.list (by simp [calm]) _ a neI us).toS) s.heap.objs.size notin ks usz lim vals (us.size - 0) 0 _ (by omega) (Nat.zero_le _) ⟨⟨_, Heap.get?_push_size _ rfl, rfl, rfl⟩, isl2.push _⟩ ?start ?stop
      case start => exact ⟨0, Nat.le_refl 0, setR_new_at (Heap.get?_push_of_some _ hN)⟩
      case stop =>
        intro s3 n3 same le3 R3
        obtain ⟨h3, gn3, dr3, tk3, os3⟩ := s3
        obtain rfl : gn3 = s.gens := same.gens
        obtain rfl : dr3 = s.drawn := same.drawn
        obtain rfl : os3 = s.os := same.os
        show wpAny _ _ _ _ _ _
        refine wpAny_pure ?_
        show wpAny _ _ (ret Value.none) _ _ _
        rw [usz] at le3
        refine wpAny_pure ⟨rfl, h3, tk3, n3, rfl, R3, le3, fun b o e => ?_⟩
        have lb := Heap.lt_size e
        refine same.heap b o ?_ (Heap.get?_push_of_some _ (Heap.get?_push_of_some _ e))
        rw [size2]
        simp only [List.mem_cons, List.not_mem_nil, or_false, not_or]
        exact ⟨Nat.ne_of_lt lb, Nat.ne_of_lt (Nat.lt_succ_of_lt lb)⟩
    · match r2, hr2 with
      | .error _, hr2 => exact hr2
      | .ok .next, hr2 => exact hr2.elim
      | .ok .brk, hr2 => exact hr2.elim
      | .ok .cont, hr2 => exact hr2.elim
      | .ok (.ret y), ⟨ey, h1, t, n, es2, R2, le2, keep⟩ =>
        subst ey es2
        repeat (any_goals (first | assumption | wp_step))
        exact q _ _ _ R2 le2 keep
theorem pg_sortedSet {a : Addr} {S : Int → Bool} {n : Nat} {Q : Value → Shared → Prop} (R : SetR w s.heap a S n) (calm : A.handled = none) (small : n < scanBound) (small2 : n ≤ sizeLine)
    (q : ∀ s1 p (out : List Value) (c : Nat) (ns : List Int), (∀ b o, s.heap.get? b = some o → s1.heap.get? b = some o) → s1.gens = s.gens → s1.os = s.os → s.heap.objs.size ≤ p →
      s1.heap.get? p = some (seqObj "list" out.toArray c) → IntsAre out ns → ns.Pairwise (· < ·) → (∀ k, k ∈ ns ↔ S k = true) → ns.length = n → Q (.ref p) s1) :
    wpAny (model P w) A (call (.builtin "sorted") [.ref a]) Q E s := by
  obtain ⟨o, es, ep, t, ho, hex, hd, good, nd, hm, hb, hf, hn, ris, led⟩ := R
  refine Calls.call_function_entry kind_sorted plain_sorted entry_sorted (args_sorted1 _) ?_
  unfold Builtin.«sorted»
  refine wpAny_bind (m := checkCount "sorted" 1 1 _) (wpAny_pure ?_)
  refine wpAny_bind (collect_set (A := A.in1) calm ⟨o, ho, hex.1, hd⟩ hf hb ris led fun s1 vs keep1 size1 gn1 os1 pm => ?_)
  have lv : vs.length = n := by rw [pm.length_eq, List.length_map, Array.length_toList]; exact hn
  have vI : IntsAre vs (vs.map SrtO.iv) := SrtO.ints_iv fun v hv => by
    obtain ⟨e, he, z⟩ := List.mem_map.mp (pm.mem_iff.mp hv)
    obtain ⟨k, tk, h1, _⟩ := good e he
    exact ⟨k, tk, by rw [← z]; exact h1⟩
  have pk : (vs.map SrtO.iv).Perm (es.toList.map keyOf) := by
    have z := pm.map SrtO.iv
    rw [List.map_map] at z
    have e : (es.toList.map (SrtO.iv ∘ fun x => x.2)) = es.toList.map keyOf := List.map_congr_left fun e he => by
      obtain ⟨k, tk, h1, _⟩ := good e he
      show SrtO.iv e.2 = keyOf e
      unfold keyOf
      rw [h1]
      rfl
    rw [← e]
    exact z
  have hz : vs.length ≤ sizeLine := by rw [lv]; exact small2
  refine wpAny_bind (wpAny_newList ?_ hz)
  have atL : (s1.heap.push (seqObj "list" vs.toArray 0)).get? s1.heap.objs.size = some (seqObj "list" vs.toArray 0) := Heap.get?_push_size _ rfl
  refine wpAny_bind (wpAny_holding (wpAny_call_entry slot_list_sort ⟨_, atL, rfl⟩ entry_list_sort (SrtO.list_sort_ord SrtO.swo_int atL hz (fun h2 => SrtO.ints_sortable vI h2) fun out srt stb => ⟨_, rfl, ?_⟩) (args_list_sort _)))
  obtain ⟨k1, k2, k3⟩ := SrtO.ints_out vI srt stb
  obtain ⟨c, hc⟩ := sortedHeap_at (vs := vs) (out := out.toArray) atL
  have pn : (out.map SrtO.iv).Perm (es.toList.map keyOf) := k2.trans pk
  refine wpAny_pure ⟨_, rfl, q _ s1.heap.objs.size out c (out.map SrtO.iv) (fun b u e => ?_) gn1 os1 size1 hc k1 (lt_of_le_nodup _ k3 (pn.nodup_iff.mpr nd)) (fun k => by rw [pn.mem_iff, ← hm k]) ?_⟩
  · have z := keep1 b u e
    have lb := Heap.lt_size z
    show (sortedHeap (s1.heap.push (seqObj "list" vs.toArray 0)) s1.heap.objs.size vs out.toArray).get? b = some u
    rw [sortedHeap_old (Nat.ne_of_lt lb) (by rw [size_push']; exact Nat.lt_succ_of_lt lb)]
    exact Heap.get?_push_of_some _ z
  · rw [pn.length_eq, List.length_map, Array.length_toList]; exact hn
end
end L2
namespace Pg
open PySem PySem.Spec PyProof.Rows L2
/-- sorted(set(xs)) -/
def tSortSet (K : PySem.W.Frag) (ta : TE) : TE := fun σ H Q => ta σ H fun x H1 => ∃ (l : Addr) (ns : List Int), x = .ref l ∧ SqL K H1 l (ns.map V.int) ∧ ns.length ≤ 4000 ∧
  ∀ (ks : List Int) (p : Addr), ks.Pairwise (· < ·) → (∀ k, k ∈ ks ↔ k ∈ ns) → H1 p = none → Q (.ref p) (upd H1 p (.lst (ks.map V.int)))
theorem pe_sortSet {X : Cx} {a : Expr} {ta : TE} {p p2 q pos : Pos} (hg : Gl X "sorted") (hm : X.mg "sorted" = none) (hg2 : Gl X "set") (hm2 : X.mg "set" = none) (ha : PE X a ta) (hc : X.calm = true := by rfl)
    (na : starEach [a] X.env = (false, eval a X.env) :: starEach [] X.env := by rfl) : PE X (.Call (.Name "sorted" p) [.Call (.Name "set" p2) [a] [] q] [] pos) (tSortSet X.K ta) := by
  refine ⟨fun pins s σ H Q I h => ?_⟩
  refine Call_ (ld_blt I hg hm boot_sorted ?_)
  refine PyProof.Rows.callWith_builtin1 (PyProof.Rows.args_cons ?_ rfl) rfl rfl
  refine Call_ (ld_blt I hg2 hm2 boot_set ?_)
  refine PyProof.Rows.callWith_type1 (PyProof.Rows.args_cons (thn (ha.run pins s σ H _ I h) fun v s1 ⟨x, H1, I1, r1, q1⟩ => PyProof.Rows.args_nil ?_) na) na rfl
  obtain ⟨l, ns, rfl, hq, hl, q1⟩ := q1
  cases r1
  obtain ⟨its, r, pl, hz⟩ := I1.list hq
  refine pg_setList ns (I1.ok.hd hc) pl.isList (by simpa using RZ.intsAre_vals r) (by unfold scanBound; omega) fun h1 t n R le keep => ?_
  refine PyProof.Rows.args_nil ?_
  have I2 : Inv X pins σ H1 { s1 with heap := h1, toks := t } := I1.kept keep
  refine pg_sortedSet R (I1.ok.hd hc) (by unfold scanBound; omega) (szle' (by omega)) fun s2 p out c ks k2 g2 o2 hp hc2 hi hs hm2 hln => ?_
  have hlen : (ks.map V.int).length ≤ sizeLine := by rw [List.length_map, hln]; exact szle' (by omega)
  have hn : H1 p = none := I2.hok.fresh hp
  have J : Inv X pins σ (upd H1 p (.lst (ks.map V.int))) { ({ s1 with heap := h1, toks := t } : Shared) with heap := s2.heap, gens := s2.gens, drawn := s2.drawn, toks := s2.toks } :=
    I2.call (ch := []) (Un.laid k2 hp hn) (I2.hok.laid k2 hp ⟨hlen, out, c, vals_of_ints hi, hc2⟩) (by rw [g2]; exact I2.bare) (fun _ z => nomatch z)
  have e : s2 = { ({ s1 with heap := h1, toks := t } : Shared) with heap := s2.heap, gens := s2.gens, drawn := s2.drawn, toks := s2.toks } := by
    cases s2
    cases s1
    cases o2
    rfl
  rw [e]
  exact ⟨.ref p, _, J, rfl, q1 ks p hs (fun k => by rw [hm2]; simp) hn⟩
end Pg
namespace Pg
open PySem PySem.Spec PyProof.Rows L2
def SortSE (K : PySem.W.Frag) (Q : VK) : V → Hp → Prop := fun x H1 => ∃ (l : Addr) (ns : List Int), x = .ref l ∧ SqL K H1 l (ns.map V.int) ∧ ns.length ≤ 4000 ∧
  ∀ (ks : List Int) (p : Addr), ks.Pairwise (· < ·) → (∀ k, k ∈ ks ↔ k ∈ ns) → H1 p = none → Q (.ref p) (upd H1 p (.lst (ks.map V.int)))
theorem w_sortSet {K : PySem.W.Frag} {ta : TE} {σ : L2.St} {H : Hp} {Q : VK} (h : ta σ H (SortSE K Q)) : tSortSet K ta σ H Q := h
theorem asc_uniq {as bs : List Int} (ha : as.Pairwise (· < ·)) (hb : bs.Pairwise (· < ·)) (h : ∀ k, k ∈ as ↔ k ∈ bs) : as = bs := by
  have na : as.Nodup := ha.imp fun h => by omega
  have nb : bs.Nodup := hb.imp fun h => by omega
  exact ((List.perm_ext_iff_of_nodup na nb).mpr h).eq_of_pairwise (fun a b _ _ h1 h2 => by omega) (ha.imp fun h => Int.le_of_lt h) (hb.imp fun h => Int.le_of_lt h)
def ksU (ns : List Int) : List Int := ns.foldr (fun x ks => if x ∈ ks then ks else x :: ks) []
theorem ksU_mem {k : Int} : ∀ {ns : List Int}, k ∈ ksU ns ↔ k ∈ ns
  | [] => by simp [ksU]
  | n :: ns => by
    have ih := ksU_mem (k := k) (ns := ns)
    show k ∈ (if n ∈ ksU ns then ksU ns else n :: ksU ns) ↔ _
    rw [List.mem_cons, ← ih]
    by_cases h : n ∈ ksU ns
    · rw [if_pos h]
      constructor
      · exact fun z => .inr z
      · rintro (rfl | z)
        · exact h
        · exact z
    · rw [if_neg h, List.mem_cons]
theorem ksU_nodup : ∀ ns : List Int, (ksU ns).Nodup
  | [] => by simp [ksU]
  | n :: ns => by
    show (if n ∈ ksU ns then ksU ns else n :: ksU ns).Nodup
    split
    · exact ksU_nodup ns
    · rename_i h
      exact List.nodup_cons.mpr ⟨h, ksU_nodup ns⟩
/-- the members of a list, ascending -/
def ksOf (ns : List Int) : List Int := (ksU ns).mergeSort fun a b => decide (a ≤ b)
theorem ksOf_mem {ns : List Int} {k : Int} : k ∈ ksOf ns ↔ k ∈ ns := by
  unfold ksOf
  rw [(List.mergeSort_perm _ _).mem_iff, ksU_mem]
theorem ksOf_nodup (ns : List Int) : (ksOf ns).Nodup := (List.mergeSort_perm _ _).nodup_iff.mpr (ksU_nodup ns)
theorem ksOf_asc (ns : List Int) : (ksOf ns).Pairwise (· < ·) := by
  refine lt_of_le_nodup _ ?_ (ksOf_nodup ns)
  have h := List.pairwise_mergeSort (le := fun a b : Int => decide (a ≤ b)) (fun a b c h1 h2 => by simp at *; omega) (fun a b => by simp; omega) (ksU ns)
  exact h.imp fun h => by simpa using h
theorem ksOf_uniq {ns ks : List Int} (h : ks.Pairwise (· < ·)) (hm : ∀ k, k ∈ ks ↔ k ∈ ns) : ks = ksOf ns := asc_uniq h (ksOf_asc ns) fun k => by rw [hm, ksOf_mem]
theorem w_sortSE {K : PySem.W.Frag} {H : Hp} {Q : VK} {l : Addr} {ns : List Int} (h : SqL K H l (ns.map V.int)) (hz : ns.length ≤ 4000) (q : ∀ (ks : List Int) (p : Addr), ks.Pairwise (· < ·) → (∀ k, k ∈ ks ↔ k ∈ ns) → H p = none → Q (.ref p) (upd H p (.lst (ks.map V.int)))) : SortSE K Q (.ref l) H :=
  ⟨l, ns, rfl, h, hz, q⟩
end Pg

open PySem PySem.Spec PyProof.Rows L2 Pg
/-! ### steps -/
local macro_rules | `(tactic| walk_at "h") => `(tactic| with_reducible first
  | assumption
  | exact upd_same
  | (refine' at_make ?e3 ?n1 ?n2; (case n1 => assumption); (case n2 => assumption); (case e3 => walk_at "h"))
  | (refine' at_upd ?e3 ?n1; (case n1 => assumption); (case e3 => walk_at "h"))
  | (refine' Fr.at0 ?n1 ?e3; (case n1 => assumption); (case e3 => walk_at "h"))
  | (refine' Fr.at ?e1 (nn2 ?e2) ?e3; (case e1 => assumption); (case e2 => walk_at "n"); (case e3 => walk_at "h"))
  | (refine' Fr.at ?e1 (nn3 ?e2 ?e4) ?e3; (case e1 => assumption); (case e2 => walk_at "n"); (case e4 => walk_at "n"); (case e3 => walk_at "h"))
  | (refine' Eq.trans (upd_ne ?e2) ?e3; (case e2 => walk_at "n"); (case e3 => walk_at "h")))
local macro_rules | `(tactic| walk_at "n") => `(tactic| with_reducible first
  | assumption
  | exact Ne.symm (by assumption)
  | (refine' Ne.symm (ne_of_none ?e1 ?e2); (case e2 => assumption); (case e1 => walk_at "h"))
  | (refine' ne_of_none ?e1 ?e2; (case e2 => assumption); (case e1 => walk_at "h"))
  | (refine' ne_of ?e1 ?e2 ?e3; (case e1 => assumption); (case e2 => walk_at "h"); (case e3 => (first | exact ho_lst_tup | exact ho_lst_own | exact ho_lst_xd | exact ho_lst_dK | exact ho_lst_ins | exact ho_tup_lst | exact ho_tup_own | exact ho_tup_xd | exact ho_tup_dK | exact ho_tup_ins | exact ho_own_lst | exact ho_own_tup | exact ho_own_xd | exact ho_own_dK | exact ho_own_ins | exact ho_xd_lst | exact ho_xd_tup | exact ho_xd_own | exact ho_xd_dK | exact ho_xd_ins | exact ho_dK_lst | exact ho_dK_tup | exact ho_dK_own | exact ho_dK_xd | exact ho_dK_ins | exact ho_ins_lst | exact ho_ins_tup | exact ho_ins_own | exact ho_ins_xd | exact ho_ins_dK))))
local macro_rules | `(tactic| walk_at "f") => `(tactic| with_reducible first
  | assumption
  | exact Fr.refl
  | exact Fr.nil (by assumption)
  | (refine' Fr.make ?e1 ?e2 ?e3; (case e2 => assumption); (case e3 => assumption); (case e1 => walk_at "f"))
  | (refine' Fr.new ?e1 ?e2; (case e2 => assumption); (case e1 => walk_at "f"))
  | (refine' Fr.put ?e1 (Or.inr ?e2); (case e2 => exact List.mem_singleton_self _); (case e1 => walk_at "f"))
  | (refine' Fr.put ?e1 (Or.inr ?e2); (case e2 => exact mem2a); (case e1 => walk_at "f"))
  | (refine' Fr.put ?e1 (Or.inr ?e2); (case e2 => exact mem2b); (case e1 => walk_at "f"))
  | (refine' Fr.put ?e1 (Or.inl ?e2); (case e2 => walk_at "z"); (case e1 => walk_at "f"))
  | (refine' Fr.trans ?e1 ?e2; (case e2 => assumption); (case e1 => walk_at "f"))
  | (refine' Fr.then ?e1 ?e2; (case e2 => assumption); (case e1 => walk_at "f"))
  | (refine' Fr.loc ?e1 ?e2 ?e3; (case e3 => assumption); (case e2 => walk_at "z"); (case e1 => walk_at "f"))
  | (refine' Fr.loc2 ?e1 ?e2 ?e4 ?e3; (case e3 => assumption); (case e2 => walk_at "z"); (case e4 => walk_at "z"); (case e1 => walk_at "f")))
local macro_rules | `(tactic| walk_at "z") => `(tactic| with_reducible first
  | assumption
  | (refine' Fr.free ?e1 (nn2 ?e2) ?e3; (case e3 => assumption); (case e1 => walk_at "f"); (case e2 => walk_at "n"))
  | (refine' Fr.free ?e1 (nn3 ?e2 ?e4) ?e3; (case e3 => assumption); (case e1 => walk_at "f"); (case e2 => walk_at "n"); (case e4 => walk_at "n"))
  | (refine' Fr.free (S := []) ?e1 List.not_mem_nil ?e3; (case e3 => assumption); (case e1 => walk_at "f")))
local macro_rules | `(tactic| walk_at "k") => `(tactic| first
  | with_reducible assumption
  | ((with_reducible refine' hx_of ?a1 ?a0); (case a1 => walk_at "h"); (case a0 => with_reducible exact rfl)))
local macro_rules | `(tactic| walk_at "1") => `(tactic| first
  | with_reducible refine w_seq ?_
  | with_reducible refine w_asg ?_
  | with_reducible refine w_gname ?_
  | with_reducible refine w_ret ?_
  | with_reducible refine w_drop ?_
  | with_reducible refine w_ifS ?_
  | with_reducible refine w_c ?_
  | ((with_reducible refine' w_var ?e1 ?_); (case e1 => exact rfl))
  | with_reducible refine w_op ?_
  | with_reducible refine w_I0 ?_
  | with_reducible refine w_eqI ?_
  | with_reducible refine w_neI ?_
  | with_reducible refine w_nil ?_
  | with_reducible refine w_cons ?_
  | with_reducible refine w_call ?_
  | with_reducible refine w_CB ?_
  | with_reducible refine w_test ?_
  | with_reducible refine w_tB ?_
  | with_reducible refine w_exbl ?_
  | with_reducible refine w_not ?_
  | with_reducible refine w_and ?_
  | with_reducible refine w_or ?_
  | with_reducible refine w_if ?_
  | with_reducible refine w_next ?_
  | with_reducible refine w_retN ?_
  | with_reducible refine w_iteF ?_
  | with_reducible refine w_iteT ?_
  | with_reducible refine w_iteNT ?_
  | with_reducible refine w_iteNF ?_
  | ((with_reducible refine w_iteP ?e1 ?_); (case e1 => with_reducible first | exact rfl | assumption))
  | ((with_reducible refine w_iteNP ?e1 ?_); (case e1 => with_reducible first | exact rfl | assumption))
  | ((with_reducible refine w_iteQ ?e1 ?_); (case e1 => with_reducible assumption))
  | ((with_reducible refine w_iteNQ ?e1 ?_); (case e1 => with_reducible assumption))
  | with_reducible refine w_lst ?_
  | with_reducible refine w_tup ?_
  | with_reducible refine w_bm ?_
  | with_reducible refine w_bm0 ?_
  | with_reducible refine w_chain ?_
  | with_reducible refine w_sub ?_
  | with_reducible refine w_un ?_
  | with_reducible refine w_U ?_
  | with_reducible refine w_par ?_
  | with_reducible refine w_parE ?_
  | with_reducible refine w_par3 ?_
  | with_reducible refine w_par3E ?_
  | ((with_reducible refine' w_aug ?e1 ?_); (case e1 => exact rfl))
  | with_reducible refine w_ipI ?_
  | ((with_reducible refine' w_ipM ?e1 ?_); (case e1 => walk_at "c"))
  | with_reducible refine w_fld ?_
  | with_reducible refine w_tfld ?_
  | ((with_reducible refine' w_powW ?e1 ?_); (case e1 => walk_at "c"); (try dsimp only [Int.reduceToNat, Int.reducePow]))
  | ((with_reducible refine' w_I ?e1 ?_); (case e1 => walk_at "c"))
  | ((with_reducible refine' w_ixL (SqL.of ?e1) ?e2 ?_); (case e1 => walk_at "k"); (case e2 => exact rfl))
  | ((with_reducible refine' w_ixT (SqT.of ?e1) ?e2 ?_); (case e1 => walk_at "k"); (case e2 => exact rfl))
  | ((with_reducible refine' w_setL ?e1 ?e2 ?_); (case e1 => walk_at "k"); (case e2 => exact rfl))
  | ((with_reducible refine' w_ixLi (SqL.of ?e1) ?e2 ?e3 ?e4 ?_); (case e1 => walk_at "k"); (case e2 => exact rfl); (case e3 => omega); (case e4 => (simp only [unV, List.length_cons, List.length_nil]; omega)); intro n hn; simp only [unV, List.mem_cons, List.not_mem_nil, or_false] at hn)
  | ((with_reducible refine' w_ixTi (SqT.of ?e1) ?e2 ?e3 ?e4 ?_); (case e1 => walk_at "k"); (case e2 => exact rfl); (case e3 => omega); (case e4 => (simp only [unV, List.length_cons, List.length_nil]; omega)); intro n hn; simp only [unV, List.mem_cons, List.not_mem_nil, or_false] at hn)
  | ((with_reducible refine' w_ixLast (SqL.of ?e1) ?e3 ?_); (case e1 => walk_at "k"); (case e3 => assumption); intro ini n hn)
  | ((with_reducible refine' w_ixLm (SqL.of ?e1) ?e3 ?e4 ?_); (case e1 => walk_at "k"); (case e3 => omega); (case e4 => (first | omega | (simp only [List.length_append, List.length_cons, List.length_nil, List.length_set]; omega))); intro n hn)
  | ((with_reducible refine' w_lenI (SqL.of ?e1) ?_); (case e1 => walk_at "k"))
  | ((with_reducible refine' w_len (SqL.of ?e1) ?_); (case e1 => walk_at "k"))
  | ((with_reducible refine' w_tyL ?e1 ?_); (case e1 => walk_at "k"))
  | ((with_reducible refine' w_appendI ?e1 ?e2 ?_); (case e1 => walk_at "k"); (case e2 => omega))
  | with_reducible refine w_max2 ?_
  | with_reducible refine w_min2 ?_
  | with_reducible refine w_abs ?_
  | with_reducible refine w_intI ?_
  | with_reducible refine w_intB ?_
  | ((with_reducible refine' w_sum (SqL.of ?e1) ?_); (case e1 => walk_at "k"))
  | ((with_reducible refine' w_neNil (SqL.of ?e1) (SqL.of ?e2) ?_); (case e2 => walk_at "k"); (case e1 => walk_at "k"))
  | ((with_reducible refine' w_eqNil (SqL.of ?e1) (SqL.of ?e2) ?_); (case e2 => walk_at "k"); (case e1 => walk_at "k"))
  | ((with_reducible refine' w_eqLI (SqL.of ?e1) (SqL.of ?e2) ?_); (case e1 => walk_at "k"); (case e2 => walk_at "k"))
  | ((with_reducible refine' w_neLI (SqL.of ?e1) (SqL.of ?e2) ?_); (case e1 => walk_at "k"); (case e2 => walk_at "k"))
  | with_reducible refine w_for ?_
  | with_reducible refine w_lc ?_
  | with_reducible refine w_iList ?_
  | with_reducible refine w_iTup ?_
  | ((with_reducible refine' w_iTupE (SqT.of ?e1) ?_); (case e1 => walk_at "k"))
  | with_reducible refine w_rng1 ?_
  | with_reducible refine w_rng2 ?_
  | ((with_reducible refine' w_iListE (SqL.of ?e1) ?_); (case e1 => walk_at "k"))
  | ((with_reducible refine w_rng1E ?_ ?_ ?_); omega; omega)
  | ((with_reducible refine w_rng2E ?_ ?_); omega)
  | with_reducible refine w_fldaug ?_
  | ((with_reducible refine' w_fldP ?e1 ?e2 ?e3 ?e4 ?e5 ?_); (case e1 => walk_at "k"); (case e2 => assumption); (case e3 => assumption); (case e4 => exact Nat.le_of_ble_eq_true rfl); (case e5 => walk_at "fl"))
  | ((with_reducible refine' w_fldA ?e1 ?e2 ?e3 ?e5 ?_); (case e1 => walk_at "k"); (case e2 => assumption); (case e3 => assumption); (case e5 => walk_at "fl"))
  | ((with_reducible refine' w_fldQ ?e1 ?e4 ?e5 ?_); (case e1 => walk_at "k"); (case e4 => exact Nat.le_of_ble_eq_true rfl); (case e5 => walk_at "fl"))
  | ((with_reducible refine' w_fldG ?e1 ?e2 ?e3 ?e5 ?_); (case e1 => walk_at "k"); (case e2 => assumption); (case e3 => assumption); (case e5 => walk_at "fl"))
  | with_reducible refine w_meth ?_
  | ((with_reducible refine' w_methE ?e1 ?e5 ?_); (case e1 => walk_at "k"); (case e5 => walk_at "fl"))
  | with_reducible refine w_prop ?_
  | ((with_reducible refine' w_propE ?e1 ?_); (case e1 => walk_at "k"))
  | with_reducible refine w_make ?_
  | with_reducible refine w_rAdd ?_
  | with_reducible refine w_rSub ?_
  | ((with_reducible refine' w_listof (SqL.of ?e1) ?_); (case e1 => walk_at "k"); intro p np)
  | with_reducible refine w_tYes ?_
  | ((with_reducible refine' w_appEI ?e1 ?e2 ?_); (case e1 => walk_at "k"); (case e2 => omega))
  | ((with_reducible refine' w_appEB ?e1 ?e2 ?_); (case e1 => walk_at "k"); (case e2 => omega))
  | with_reducible refine w_whT ?_
  | with_reducible refine w_lenSet ?_
  | ((with_reducible refine' w_lenSE (SqL.of ?e1) ?e2 ?_); (case e1 => walk_at "k"); (case e2 => omega))
  | ((with_reducible refine' w_isi ?e1 ?e2 ?_); (case e1 => (first | exact .base (.int _) | exact .base .non | exact .base (.bl _) | exact .base (.str _) | (refine' tyx_lst ?f1; (case f1 => walk_at "k")) | (refine' tyx_tup ?f1; (case f1 => walk_at "k")))); (case e2 => (first | exact kit_ty (r := true) (by decide +kernel) | exact kit_ty (r := false) (by decide +kernel))))
  | with_reducible refine w_sortKw ?_
  | ((with_reducible refine' w_sortedKw (SqL.of ?e1) ?_); (case e1 => walk_at "k"); intro ns' p hperm hord np)
  | ((with_reducible refine' w_sortedI (SqL.of ?e1) ?_); (case e1 => walk_at "k"); intro ns' p hperm hord np)
  | ((with_reducible refine' w_extendI ?e1 ?e2 ?e3 ?_); (case e1 => walk_at "k"); (case e2 => walk_at "k"); (case e3 => (first | omega | (simp only [List.length_replicate]; omega))))
  | ((with_reducible refine' w_rep1 ?e1 ?e2 ?e3 ?_); (case e1 => walk_at "k"); (case e2 => omega); (case e3 => omega); intro p np)
  | ((with_reducible refine' w_maxL (SqL.of ?e1) ?e2 ?_); (case e1 => walk_at "k"); (case e2 => (first | omega | (simp; done))); intro m hm hle)
  | ((with_reducible refine' w_minL (SqL.of ?e1) ?e2 ?_); (case e1 => walk_at "k"); (case e2 => (first | omega | (simp; done))); intro m hm hle)
  | ((with_reducible refine' w_catI ?e1 ?e2 ?e3 ?_); (case e1 => walk_at "k"); (case e2 => walk_at "k"); (case e3 => (first | omega | (simp only [List.length_replicate]; omega))); intro p np)
  | ((with_reducible refine' w_catIL ?e1 ?e2 ?e3 ?e4 ?_); (case e1 => walk_at "k"); (case e2 => walk_at "k"); (case e3 => exact rfl); (case e4 => (simp only [unV, List.length_cons, List.length_nil]; omega)); intro p np; dsimp only [unV])
  | ((with_reducible refine' w_catLI ?e1 ?e2 ?e3 ?e4 ?_); (case e1 => walk_at "k"); (case e2 => walk_at "k"); (case e3 => exact rfl); (case e4 => (simp only [unV, List.length_cons, List.length_nil]; omega)); intro p np; dsimp only [unV])
  | with_reducible refine w_callK0 ?_
  | ((with_reducible refine w_kwE ?e1 ?_); (case e1 => exact rfl))
  | with_reducible refine w_makeK ?_
  | ((with_reducible refine w_mkE ?e1 ?_); (case e1 => exact rfl))
  | with_reducible refine w_methK ?_
  | ((with_reducible refine' w_methKE ?e1 ?e5 ?_); (case e1 => walk_at "k"); (case e5 => walk_at "fl"))
  | ((with_reducible refine w_mkwE ?e1 ?_); (case e1 => exact rfl))
  | with_reducible refine w_enum ?_
  | with_reducible refine w_zip ?_
  | with_reducible refine w_gNil ?_
  | with_reducible refine w_gCons ?_
  | ((with_reducible refine' w_gTup (SqT.of ?e1) ?e2 ?_); (case e1 => walk_at "k"); (case e2 => exact rfl))
  | ((with_reducible refine' w_gLst (SqL.of ?e1) ?e2 ?_); (case e1 => walk_at "k"); (case e2 => exact rfl))
  | ((with_reducible refine' w_enumE (SqL.of ?e1) ?_); (case e1 => walk_at "k"))
  | ((with_reducible refine' w_zipE (SqL.of ?e1) (SqL.of ?e2) ?_); (case e1 => walk_at "k"); (case e2 => walk_at "k"))
  | with_reducible refine w_dget ?_
  | ((with_reducible refine' w_dgetE ?e1 ?e5 ?_); (case e1 => walk_at "k"); (case e5 => walk_at "dl"))
  | with_reducible refine w_dput ?_
  | ((with_reducible refine' w_dputE ?e1 ?e4 ?e5 ?_); (case e1 => walk_at "k"); (case e4 => exact Nat.le_of_ble_eq_true rfl); (case e5 => walk_at "dl"))
  | with_reducible refine w_daug ?_
  | ((with_reducible refine' w_daugE ?e1 ?e5 ?_); (case e1 => walk_at "k"); (case e5 => walk_at "dl"))
  | (with_reducible refine w_disp ?_; intro p np)
  | with_reducible refine w_pairN ?_
  | (with_reducible refine w_dnewK ?_; intro p np)
  | with_reducible refine w_dnotIn ?_
  | ((with_reducible refine' w_dnotInE ?e1 ?_); (case e1 => walk_at "k"))
  | with_reducible refine w_pairC ?_
  | ((with_reducible refine' w_dspE ?e1 ?e2 ?e3 ?e4 ?_); (case e1 => walk_at "k"); (case e2 => exact rfl); (case e3 => exact Nat.le_of_ble_eq_true rfl); (case e4 => walk_at "dn"))
  | ((with_reducible refine' w_pop0 ?e1 ?_); (case e1 => walk_at "k"))
  | ((with_reducible refine' w_reprI (log_lt ?e1) ?_); (case e1 => omega))
  | with_reducible refine w_eqS ?_
  | with_reducible refine w_eqB ?_
  | with_reducible refine w_neB ?_
  | with_reducible refine w_neS ?_
  | with_reducible refine w_sl ?_
  | with_reducible refine w_noPart ?_
  | with_reducible refine w_part ?_
  | with_reducible refine w_partE ?_
  | ((with_reducible refine' w_slI (SqL.of ?e1) ?_); (case e1 => walk_at "k"); intro p np)
  | ((with_reducible refine' w_lcount (SqL.of ?e1) ?_); (case e1 => walk_at "k"))
  | ((with_reducible refine' w_popAt ?e1 ?e2 ?e3 ?e4 ?_); (case e1 => walk_at "k"); (case e2 => omega); (case e3 => omega); (case e4 => omega); intro n hn)
  | ((with_reducible refine' w_setLI ?e1 ?e2 ?e3 ?_); (case e1 => walk_at "k"); (case e2 => omega); (case e3 => (first | omega | (simp only [List.length_set]; omega))))
  | ((with_reducible refine' w_catLL ?e1 ?e2 ?e3 ?e4 ?e5 ?_); (case e1 => walk_at "k"); (case e2 => walk_at "k"); (case e3 => exact rfl); (case e4 => exact rfl); (case e5 => exact Nat.le_of_ble_eq_true rfl); intro p np; dsimp only [unV])
  | with_reducible refine w_andV ?_
  | with_reducible refine w_orV ?_
  | with_reducible refine w_notV ?_
  | with_reducible refine w_revL ?_
  | ((with_reducible refine' w_revE (SqL.of ?e1) ?_); (case e1 => walk_at "k"); intro p np)
  | with_reducible refine w_gThen ?_
  | with_reducible refine w_gWh ?_
  | with_reducible refine w_listG ?_
  | with_reducible refine w_callG ?_
  | (with_reducible refine w_listGE ?_; intro p np)
  | with_reducible refine w_gPlain ?_
  | ((with_reducible refine w_gYield ?_ ?_); omega)
  | with_reducible refine w_g0 ?_
  | with_reducible refine w_at ?_
  | with_reducible refine w_rng3 ?_
  | ((with_reducible refine' w_appendR ?e1 ?e2 ?_); (case e1 => walk_at "k"); (case e2 => omega))
  | ((with_reducible refine w_rng3N ?_ ?_); omega)
  | with_reducible refine w_sls ?_
  | with_reducible refine w_isNN ?_
  | with_reducible refine w_isNI ?_
  | with_reducible refine w_isNR ?_
  | with_reducible refine w_notNN ?_
  | with_reducible refine w_notNI ?_
  | with_reducible refine w_notNR ?_
  | with_reducible refine w_orT ?_
  | with_reducible refine w_orN ?_
  | ((with_reducible refine' w_orI ?e1 ?_); (case e1 => omega))
  | ((with_reducible refine' w_rep3 ?e1 ?_); (case e1 => walk_at "k"); intro p np)
  | ((with_reducible refine' w_appV ?e1 ?e2 ?_); (case e1 => walk_at "k"); (case e2 => exact Nat.le_of_ble_eq_true rfl))
  | refine ⟨szle rfl, fun p np => ?_⟩)
local macro_rules | `(tactic| walk_at "g") => `(tactic| repeat walk_at "1")
local macro_rules | `(tactic| walk_at "H") => `(tactic| first | walk_at "k" | fail "heap")
local macro_rules | `(tactic| walk_at "F") => `(tactic| first | walk_at "f" | fail "frame")
local macro_rules | `(tactic| walk_at "Z") => `(tactic| first | walk_at "z" | fail "free")
local macro_rules | `(tactic| walk_at "N") => `(tactic| first | walk_at "n" | fail "differ")
local macro_rules | `(tactic| walk_at "P") => `(tactic| first | walk_at "p" | fail "pool")
local macro_rules | `(tactic| walk_at "G") => `(tactic| first | walk_at "1" | fail "step")
local macro_rules | `(tactic| walk_at "c") => `(tactic| first
  | with_reducible assumption
  | ((with_reducible refine wide_div (b := 400) ?_ ?_ (by decide) (by decide)) <;> omega)
  | ((with_reducible refine wide_mul (a := 400) (b := 400) ?_ ?_ (by decide) (by decide) (by decide)) <;> omega)
  | ((with_reducible refine CPowW.of 400 (by decide) ?_ (by decide) (by decide)); omega)
  | ((with_reducible show (0 : Int) < _); first | decide | omega))
namespace K12
open PySem PySem.Spec PyProof.Rows L2 Pg
def top (i : Nat) : Stmt := PySem.Challenge.pw_pagecounts_k12_books_of_a_table_counted.main.body.getD i (.Pass ⟨0, 0, 0, 0⟩)
abbrev s_law_rng : Stmt := (top 8)
abbrev sc_law_rng_N : List Str := ["script", "digits", "seed", "cell", "size"]
theorem sc_law_rng : FnScope sc_law_rng_N ["script"] (defScope s_law_rng) := ⟨rfl, rfl, rfl, by decide +kernel, rfl, by decide +kernel, by decide +kernel⟩
abbrev s_law_draw : Stmt := (top 9)
abbrev sc_law_draw_N : List Str := ["rng", "limit", "found", "mixed"]
theorem sc_law_draw : FnScope sc_law_draw_N ["rng", "limit"] (defScope s_law_draw) := ⟨rfl, rfl, rfl, by decide +kernel, rfl, by decide +kernel, by decide +kernel⟩
abbrev s_longer_counts : Stmt := (top 4)
abbrev sc_longer_counts_N : List Str := ["table", "greatest", "chapters", "longer", "size"]
theorem sc_longer_counts : FnScope sc_longer_counts_N ["table"] (defScope s_longer_counts) := ⟨rfl, rfl, rfl, by decide +kernel, rfl, by decide +kernel, by decide +kernel⟩
abbrev s_times_of : Stmt := (top 5)
abbrev sc_times_of_N : List Str := ["table", "longer", "found", "length", "times"]
theorem sc_times_of : FnScope sc_times_of_N ["table"] (defScope s_times_of) := ⟨rfl, rfl, rfl, by decide +kernel, rfl, by decide +kernel, by decide +kernel⟩
abbrev s_count_books : Stmt := (top 6)
abbrev sc_count_books_N : List Str := ["table", "found", "placed", "length", "times", "turn"]
theorem sc_count_books : FnScope sc_count_books_N ["table"] (defScope s_count_books) := ⟨rfl, rfl, rfl, by decide +kernel, rfl, by decide +kernel, by decide +kernel⟩
abbrev s_law_counted : Stmt := (top 10)
abbrev sc_law_counted_N : List Str := ["some", "wide", "one"]
theorem sc_law_counted : FnScope sc_law_counted_N ["some", "wide"] (defScope s_law_counted) := ⟨rfl, rfl, rfl, by decide +kernel, rfl, by decide +kernel, by decide +kernel⟩
abbrev s_law_some : Stmt := (top 11)
abbrev sc_law_some_N : List Str := ["rng", "most", "longest", "kind", "found", "turn", "near", "one"]
theorem sc_law_some : FnScope sc_law_some_N ["rng", "most", "longest"] (defScope s_law_some) := ⟨rfl, rfl, rfl, by decide +kernel, rfl, by decide +kernel, by decide +kernel⟩
abbrev s_law_orders : Stmt := (top 12)
abbrev sc_law_orders_N : List Str := ["some", "found", "turn", "longer", "row", "one"]
theorem sc_law_orders : FnScope sc_law_orders_N ["some"] (defScope s_law_orders) := ⟨rfl, rfl, rfl, by decide +kernel, rfl, by decide +kernel, by decide +kernel⟩
abbrev s_law_product : Stmt := (top 13)
abbrev sc_law_product_N : List Str := ["some", "free", "found", "one", "many", "ways", "step", "spot"]
theorem sc_law_product : FnScope sc_law_product_N ["some"] (defScope s_law_product) := ⟨rfl, rfl, rfl, by decide +kernel, rfl, by decide +kernel, by decide +kernel⟩
abbrev s_law : Stmt := (top 14)
abbrev sc_law_N : List Str := ["script", "rng", "lap", "top", "some", "rows", "due", "kept", "wide"]
theorem sc_law : FnScope sc_law_N ["script"] (defScope s_law) := ⟨rfl, rfl, rfl, by decide +kernel, rfl, by decide +kernel, by decide +kernel⟩
/-- where the classes stand -/
structure Cs where
  nil_ : Unit
/-- what the top has written -/
structure Txt (K : PySem.W.Frag) (mg : Str → Option Value) (c : Cs) : Prop where
  triv_ : True
  n_abs : mg "abs" = none
  n_len : mg "len" = none
  n_max : mg "max" = none
  n_min : mg "min" = none
  n_range : mg "range" = none
  n_repr : mg "repr" = none
  n_set : mg "set" = none
  n_sorted : mg "sorted" = none
  n_sum : mg "sum" = none
  nd_ : PySem.W.nsIn K cStatics "sys.int_max_str_digits" = some none
  f_law_rng : FunAt K mg "_law_rng" s_law_rng
  f_law_draw : FunAt K mg "_law_draw" s_law_draw
  f_longer_counts : FunAt K mg "longer_counts" s_longer_counts
  f_times_of : FunAt K mg "times_of" s_times_of
  f_count_books : FunAt K mg "count_books" s_count_books
  f_law_counted : FunAt K mg "_law_counted" s_law_counted
  f_law_some : FunAt K mg "_law_some" s_law_some
  f_law_orders : FunAt K mg "_law_orders" s_law_orders
  f_law_product : FunAt K mg "_law_product" s_law_product
  f_law : FunAt K mg "law" s_law
def spLaw (K : PySem.W.Frag) : Sp := fun vs H Q _ => ∃ (a : Addr) (ns : List Int), vs = [.ref a] ∧ SqL K H a (ns.map V.int) ∧ ns.length ≤ 63 ∧ (∀ z ∈ ns, Builtin.Int.intBits z ≤ 1048576) ∧ ∀ H', Q (.bl true) H'
section
variable {P : Program} {w : World} {K : PySem.W.Frag} {mg : Str → Option Value} {base : Heap} {c : Cs}
/-- a row of drawn numbers at a: n numbers were mixed -/
def Rng (H : Hp) (a : Addr) (n : Int) : Prop := ∃ d m t : Int, H a = some (.lst [.int d, .int m, .int t]) ∧ 0 ≤ d ∧ 0 ≤ m ∧ m < 2 ^ 64 ∧ 0 ≤ t ∧ t ≤ n
section
variable {H H' : Hp} {a p dx : Addr} {n : Int} {o u : HO} {S : List Addr}
theorem Rng.new (h : Rng H a n) (np : H p = none) : Rng (upd H p o) a n := by
  obtain ⟨d, m, t, h1, h2⟩ := h
  exact ⟨d, m, t, at_upd h1 np, h2⟩
theorem Rng.make (h : Rng H a n) (n1 : H dx = none) (n2 : H p = none) : Rng (upd (upd H dx u) p o) a n := by
  obtain ⟨d, m, t, h1, h2⟩ := h
  exact ⟨d, m, t, at_make h1 n1 n2, h2⟩
theorem Rng.ne (h : Rng H a n) (np : H p = none) : p ≠ a := by
  obtain ⟨d, m, t, h1, h2⟩ := h
  exact (ne_of_none h1 np).symm
theorem Rng.fr (h : Rng H a n) (f : Fr S H H') (ns : a ∉ S) : Rng H' a n := by
  obtain ⟨d, m, t, h1, h2⟩ := h
  exact ⟨d, m, t, f.at ns h1, h2⟩
theorem Rng.put (h : Rng H a n) (np : p ≠ a) : Rng (upd H p o) a n := by
  obtain ⟨d, m, t, h1, h2⟩ := h
  exact ⟨d, m, t, by rw [upd_ne np.symm]; exact h1, h2⟩
theorem Rng.le {k : Int} (h : Rng H a n) (hk : n ≤ k) : Rng H a k := by
  obtain ⟨d, m, t, h1, h2, h3, h4, h5, h6⟩ := h
  exact ⟨d, m, t, h1, h2, h3, h4, h5, by omega⟩
end
local macro_rules | `(tactic| walk_at "p") => `(tactic| first
  | assumption
  | (refine' Rng.make ?e2 ?e1 ?e3; (case e1 => assumption); (case e3 => assumption); (case e2 => walk_at "p"))
  | (refine' Rng.new ?e2 ?e1; (case e1 => assumption); (case e2 => walk_at "p"))
  | (refine' Rng.put ?e2 ?e1; (case e1 => walk_at "n"); (case e2 => walk_at "p"))
  | (refine' Rng.fr ?e2 ?e1 ?e3; (case e1 => assumption); (case e3 => exact List.not_mem_nil); (case e2 => walk_at "p")))
local macro_rules | `(tactic| walk_at "n") => `(tactic| first
  | assumption
  | exact Ne.symm (by assumption)
  | (refine' Rng.ne ?e2 ?e1; (case e1 => assumption); (case e2 => walk_at "p"))
  | (refine' Ne.symm (Rng.ne ?e2 ?e1); (case e1 => assumption); (case e2 => walk_at "p")))
def spRng (K : PySem.W.Frag) : Sp := fun vs H Q _ => ∃ (a : Addr) (ns : List Int), vs = [.ref a] ∧ SqL K H a (ns.map V.int) ∧ ns.length ≤ 63 ∧ ∀ p H', Fr [] H H' → H p = none → Rng H' p 0 → Q (.ref p) H'
def spDraw : Sp := fun vs H Q _ => ∃ (a : Addr) (k n : Int), vs = [.ref a, .int n] ∧ Rng H a k ∧ 0 < n ∧ n < 2 ^ 300 ∧ k < 2 ^ 40 ∧
  ∀ (r k' : Int) (H' : Hp), 0 ≤ r → r < n → k' ≤ k + 1 → Rng H' a k' → Fr [a] H H' → Q (.int r) H'
theorem spDraw.go {H : Hp} {a : Addr} {k n : Int} {Q : VK} {E : XK} (p : Rng H a k) (n0 : 0 < n) (n1 : n < 2 ^ 300) (k1 : k < 2 ^ 40)
    (h : ∀ (r k' : Int) (H' : Hp), 0 ≤ r → r < n → k' ≤ k + 1 → Rng H' a k' → Fr [a] H H' → Q (.int r) H') : spDraw ([.ref a, .int n] ++ []) H Q E := ⟨a, k, n, rfl, p, n0, n1, k1, h⟩
theorem dig_lt {d : Int} {i : Nat} (h0 : 0 ≤ d) (h : d < 2 ^ (200 * i)) (hi : i ≤ 63) : CMulW d 1000000000000000000000000000000000000000000000000000000000000 := by
  refine cmulW (a := 200 * i + 1) (b := 200) ?_ (by decide) (by omega) (by omega) (by omega)
  have h1 : (d.natAbs : Int) < ((2 ^ (200 * i) : Nat) : Int) := by
    rw [Int.natAbs_of_nonneg h0]
    simpa using h
  have h2 : d.natAbs < 2 ^ (200 * i) := by exact_mod_cast h1
  exact Nat.lt_of_lt_of_le h2 (Nat.pow_le_pow_right (by decide) (by omega))
theorem dig_next {d s : Int} {i : Nat} (hd : 0 ≤ d) (h : d < 2 ^ (200 * i)) (h0 : 0 ≤ s) (h1 : s < 1000000000000000000000000000000000000000000000000000000000000) : d * 1000000000000000000000000000000000000000000000000000000000000 + s < 2 ^ (200 * (i + 1)) := by
  have e : (2 : Int) ^ (200 * (i + 1)) = 2 ^ (200 * i) * 2 ^ 200 := by rw [Nat.mul_add, Int.pow_add]
  rw [e]
  generalize (2 : Int) ^ (200 * i) = P at h ⊢
  have h2 : (d + 1) * 1000000000000000000000000000000000000000000000000000000000000 ≤ P * 1000000000000000000000000000000000000000000000000000000000000 := Int.mul_le_mul_of_nonneg_right (by omega) (by decide)
  by_cases hP : 0 ≤ P
  · have h3 : P * 1000000000000000000000000000000000000000000000000000000000000 ≤ P * 2 ^ 200 := Int.mul_le_mul_of_nonneg_left (by decide) hP
    omega
  · omega
theorem dig_more {d : Int} {i : Nat} (hd : 0 ≤ d) (h : d < 2 ^ (200 * i)) : d < 2 ^ (200 * (i + 1)) := by
  have z := dig_next (s := 0) hd h (by decide) (by decide)
  generalize (2 : Int) ^ (200 * (i + 1)) = P at z ⊢
  omega
set_option maxHeartbeats 4000000 in
theorem ok_law_rng (T : Txt K mg c) : DefAt P w K mg base "_law_rng" s_law_rng 1 ["script"] (spRng K) := by
  refine T.f_law_rng.ok sc_law_rng (fun vs H Q E h => ?_) (fun _ _ _ _ _ _ us hl => match us, hl with | [_], _ => rfl) (fun f cdv A outer s H vs Q E hr h => ?_)
  · obtain ⟨a, ns, rfl, hS, hl, q⟩ := h
    rfl
  · obtain ⟨a, ns, rfl, hS, hl, q⟩ := h
    refine ⟨_, (pss_cons (ps_asg (pe_tup (pa_cons pe_int (pa_cons pe_int pa_nil))) (pg_tup rfl (pgs_cons (pg_name (i := 1) sc_law_rng.nd rfl (Or.inl rfl)) (pgs_cons (pg_name (i := 2) sc_law_rng.nd rfl (Or.inl rfl)) pgs_nil))))
    (pss_cons (ps_for PassesOwn.never rfl (pi_list (pe_slice sl_list (pv 0) po_none (po_some pe_int))) (pg_name (i := 3) sc_law_rng.nd rfl (Or.inl rfl)) (pss_cons (ps_set (i := 4) sc_law_rng.nd rfl (Or.inl rfl) (pe_callB call_absN (by rfl) T.n_abs (by decide +kernel) (pa_cons (pv 3) pa_nil)))
    (pss_cons (ps_if (pt_cmpR op_ge (pv 4) (pe_op op_powW pe_int pe_int) (nomark _)) (pss_one (ps_set (i := 1) sc_law_rng.nd rfl (Or.inl rfl) (pe_op op_add (pe_op op_mulW (pv 1) (pe_op op_powW pe_int pe_int)) (pe_op op_mod (pv 4) (pe_op op_powW pe_int pe_int))))) pss_nil)
    (pss_one (ps_set (i := 2) sc_law_rng.nd rfl (Or.inl rfl) (pe_op op_mod (pe_op op_add (pe_op op_add (pe_op op_mulW (pv 2) pe_int) (pe_op op_mod (pv 3) pe_int)) pe_int) pe_int))))))
    (pss_one (ps_ret (pe_lst (pa_cons (pv 1) (pa_cons (pv 2) (pa_cons pe_int pa_nil)))))))), ?_⟩
    refine w_start (σ' := [some (.ref a), none, none, none, none]) rfl ?_
    walk_at "g"
    refine w_slI (Fr.seqL (S := []) (H := H) (by walk_at "F") List.not_mem_nil hS) (fun p np => ?_)
    walk_at "g"
    refine f_list ((cutI ns none (some 63)).map V.int) (fun i σ' H' => ∃ (v w : Option V) (d b : Int), σ' = [some (.ref a), some (.int d), some (.int b), v, w] ∧ Fr [] H H' ∧ H' p = some (.lst ((cutI ns none (some 63)).map V.int)) ∧ 0 ≤ d ∧ d < 2 ^ (200 * i) ∧ 0 ≤ b ∧ b < 2 ^ 64) ?_ ?_ ?_ ?_
    · exact ⟨none, none, 0, 88675123, rfl, by walk_at "F", upd_same, by omega, by simp, by omega, by omega⟩
    · rintro i σ' H' hi ⟨v, w, d, b, rfl, f1, h1, _⟩
      exact SqL.of h1
    · rintro i x σ' H' hx ⟨v, w, d, b, rfl, f1, h1, d0, d1, b0, b1⟩
      obtain ⟨n, hn, rfl⟩ := map_at hx
      have hil := (List.getElem?_eq_some_iff.mp hn).1
      have hll := cutI_len ns none (some 63)
      have d2 := dig_lt d0 d1 (by omega)
      walk_at "g"
      have d4 : ∀ s : Int, 0 ≤ s → s < 1000000000000000000000000000000000000000000000000000000000000 → d * 1000000000000000000000000000000000000000000000000000000000000 + s < 2 ^ (200 * (i + 1)) := fun s => dig_next d0 d1
      have e0 : ∀ z : Int, 0 ≤ z % 2305843009213693951 := fun z => Int.emod_nonneg z (by decide)
      have e1 : ∀ z : Int, z % 2305843009213693951 < 2305843009213693951 := fun z => Int.emod_lt_of_pos z (by decide)
      have s0 : ∀ z : Int, 0 ≤ z % 1000000000000000000000000000000000000000000000000000000000000 := fun z => Int.emod_nonneg z (by decide)
      have s1 : ∀ z : Int, z % 1000000000000000000000000000000000000000000000000000000000000 < 1000000000000000000000000000000000000000000000000000000000000 := fun z => Int.emod_lt_of_pos z (by decide)
      have d3 : d < 2 ^ (200 * (i + 1)) := dig_more d0 d1
      refine w_ite (fun h => ?_) (fun h => ?_)
      · walk_at "g"
        exact ⟨_, _, _, _, rfl, by walk_at "F", h1, Int.add_nonneg (Int.mul_nonneg d0 (by decide)) (s0 _), d4 _ (s0 _) (s1 _), e0 _, by have := e1 (b * 1000003 + n % 2305843009213693921 + 7); omega⟩
      · walk_at "g"
        exact ⟨_, _, _, _, rfl, by walk_at "F", h1, d0, d3, e0 _, by have := e1 (b * 1000003 + n % 2305843009213693921 + 7); omega⟩
    · rintro σ' H' ⟨v, w, d, b, rfl, f1, h1, d0, d1, b0, b1⟩
      walk_at "g"
      rename_i p3 np3
      exact q p3 _ (by walk_at "F") (by walk_at "Z") ⟨d, b, 0, upd_same, d0, b0, b1, by omega, by omega⟩
local macro_rules | `(tactic| walk_at "1") => `(tactic| ((with_reducible refine' spDraw.go ?e1 ?e2 ?e3 ?e4 ?_); (case e1 => walk_at "p"); (case e2 => omega); (case e3 => omega); (case e4 => omega); intro r k' H' r0 r1 rk rp rf))
set_option maxHeartbeats 4000000 in
theorem ok_law_draw (T : Txt K mg c) : DefAt P w K mg base "_law_draw" s_law_draw 1 ["rng", "limit"] spDraw := by
  refine T.f_law_draw.ok sc_law_draw (fun vs H Q E h => ?_) (fun _ _ _ _ _ _ us hl => match us, hl with | [_, _], _ => rfl) (fun f cdv A outer s H vs Q E hr h => ?_)
  · obtain ⟨a, k, n, rfl, ⟨d, m, t, ha, d0, m0, m1, t0, t1⟩, n0, n1, k1, q⟩ := h
    rfl
  · obtain ⟨a, k, n, rfl, ⟨d, m, t, ha, d0, m0, m1, t0, t1⟩, n0, n1, k1, q⟩ := h
    refine ⟨_, (pss_cons (ps_if (pt_cmpR op_gt (pe_ix ix_list (pv 0) pe_int (fun _ _ => rfl)) pe_int (nomark _)) (pss_cons (ps_set (i := 2) sc_law_draw.nd rfl (Or.inl rfl) (pe_op op_mod (pe_ix ix_list (pv 0) pe_int (fun _ _ => rfl)) (pv 1)))
    (pss_cons (ps_asg (pe_op op_fdivW (pe_ix ix_list (pv 0) pe_int (fun _ _ => rfl)) (pv 1)) (pg_sub (pv 0) pe_int set_list))
    (pss_one (ps_ret (pv 2))))) pss_nil)
    (pss_cons (ps_asg (pe_op op_add (pe_ix ix_list (pv 0) pe_int (fun _ _ => rfl)) pe_int) (pg_sub (pv 0) pe_int set_list))
    (pss_cons (ps_set (i := 3) sc_law_draw.nd rfl (Or.inl rfl) (pe_op op_mod (pe_op op_powW (pe_op op_add (pe_ix ix_list (pv 0) pe_int (fun _ _ => rfl)) (pe_op op_mulW pe_int (pe_ix ix_list (pv 0) pe_int (fun _ _ => rfl)))) pe_int) pe_int))
    (pss_cons (ps_set (i := 3) sc_law_draw.nd rfl (Or.inl rfl) (pe_op op_mod (pe_op op_powW (pe_op op_add (pv 3) (pe_op op_mulW pe_int (pe_ix ix_list (pv 0) pe_int (fun _ _ => rfl)))) pe_int) pe_int))
    (pss_one (ps_ret (pe_op op_mod (pe_op op_fdivW (pv 3) pe_int) (pv 1)))))))), ?_⟩
    refine w_start (σ' := [some (.ref a), some (.int n), none, none]) rfl ?_
    walk_at "g"
    refine w_ite (fun hd => ?_) (fun hd => ?_)
    · walk_at "g"
      exact q _ k _ (Int.emod_nonneg _ (by omega)) (Int.emod_lt_of_pos _ n0) (by omega) ⟨_, _, _, upd_same, Int.ediv_nonneg d0 (by omega), m0, m1, t0, t1⟩ (Fr.refl.put (.inr (by simp)))
    · walk_at "g"
      exact q _ (k + 1) _ (Int.emod_nonneg _ (by omega)) (Int.emod_lt_of_pos _ n0) (by omega) ⟨_, _, _, upd_same, d0, m0, m1, by omega, by omega⟩ (Fr.refl.put (.inr (by simp)))
/-! ### tables of page counts -/
/-- how many chapters are longer than i -/
def gt (ns : List Int) (i : Int) : Int := (ns.countP fun x => decide (i < x) : Nat)
def ct (ns : List Int) (s : Int) : Int := (ns.map fun x => (x - 1) / s + 1).sum
theorem gt_cons (x : Int) (ns : List Int) (i : Int) : gt (x :: ns) i = gt ns i + if i < x then 1 else 0 := by
  unfold gt
  rw [List.countP_cons]
  by_cases h : i < x <;> simp [h]
theorem ct_cons (x : Int) (ns : List Int) (s : Int) : ct (x :: ns) s = (x - 1) / s + 1 + ct ns s := by simp [ct]
theorem gt_nonneg (ns : List Int) (i : Int) : 0 ≤ gt ns i := by unfold gt; omega
theorem gt_le (ns : List Int) (i : Int) : gt ns i ≤ ns.length := by
  unfold gt
  have := List.countP_le_length (p := fun x => decide (i < x)) (l := ns)
  omega
theorem gt_mono {ns : List Int} {i j : Int} (h : i ≤ j) : gt ns j ≤ gt ns i := by
  induction ns with
  | nil => simp [gt]
  | cons x ns ih =>
    rw [gt_cons, gt_cons]
    split <;> split <;> omega
theorem gt_zero {ns : List Int} {i : Int} (h : ∀ x ∈ ns, x ≤ i) : gt ns i = 0 := by
  induction ns with
  | nil => simp [gt]
  | cons x ns ih =>
    rw [gt_cons, ih fun y hy => h y (List.mem_cons_of_mem _ hy), if_neg (by have := h x List.mem_cons_self; omega)]
    omega
theorem gt_all {ns : List Int} {i : Int} (h : ∀ x ∈ ns, i < x) : gt ns i = ns.length := by
  induction ns with
  | nil => simp [gt]
  | cons x ns ih =>
    rw [gt_cons, ih fun y hy => h y (List.mem_cons_of_mem _ hy), if_pos (h x List.mem_cons_self)]
    simp
theorem gt_step (ns : List Int) (i : Int) : gt ns (i - 1) = gt ns i + ns.count i := by
  induction ns with
  | nil => simp [gt]
  | cons x ns ih =>
    rw [gt_cons, gt_cons, ih, List.count_cons]
    by_cases e : x = i
    · subst e
      simp
      omega
    · have : (x == i) = false := by simpa using e
      rw [this]
      simp
      split <;> split <;> omega
/-- the numbers at the multiples of s: 1*s, 2*s, .. m*s -/
def mults (ns : List Int) (s : Int) : Nat → Int
  | 0 => 0
  | m + 1 => mults ns s m + gt ns ((m + 1 : Nat) * s)
theorem mults_cons (x : Int) (ns : List Int) (s : Int) : ∀ m, mults (x :: ns) s m = mults ns s m + mults [x] s m
  | 0 => rfl
  | m + 1 => by
    show mults (x :: ns) s m + gt (x :: ns) _ = mults ns s m + gt ns _ + (mults [x] s m + gt [x] _)
    rw [mults_cons x ns s m, gt_cons, gt_cons]
    have : gt [] (((m + 1 : Nat) : Int) * s) = 0 := rfl
    rw [this]
    omega
theorem mults_one {x s : Int} (hs : 1 ≤ s) (hx : 1 ≤ x) : ∀ m : Nat, mults [x] s m = if (m : Int) ≤ (x - 1) / s then (m : Int) else (x - 1) / s
  | 0 => by
    have : 0 ≤ (x - 1) / s := Int.ediv_nonneg (by omega) (by omega)
    show (0 : Int) = _
    rw [if_pos (by simpa using this)]
    rfl
  | m + 1 => by
    have ih := mults_one hs hx m
    have key : (((m + 1 : Nat) : Int) * s < x) ↔ ((m + 1 : Nat) : Int) ≤ (x - 1) / s := by
      rw [Int.le_ediv_iff_mul_le (by omega)]
      omega
    show mults [x] s m + gt [x] _ = _
    rw [ih, gt_cons]
    have z : gt [] (((m + 1 : Nat) : Int) * s) = 0 := rfl
    rw [z]
    by_cases h : ((m + 1 : Nat) : Int) ≤ (x - 1) / s
    · rw [if_pos h, if_pos (key.mpr h), if_pos (by omega)]
      omega
    · rw [if_neg h, if_neg fun q => h (key.mp q)]
      split <;> omega
/-- the page count of a size, by the numbers at its multiples -/
theorem ct_mults {s : Int} (hs : 1 ≤ s) {m : Nat} : ∀ {ns : List Int}, (∀ x ∈ ns, 1 ≤ x ∧ (x - 1) / s ≤ m) → ct ns s = ns.length + mults ns s m
  | [], _ => by
    have : ∀ m, mults [] s m = 0 := by
      intro m
      induction m with
      | zero => rfl
      | succ m ih =>
        show mults [] s m + gt [] _ = 0
        rw [ih]
        rfl
    rw [this]
    rfl
  | x :: ns, h => by
    have ih := ct_mults hs (m := m) (ns := ns) fun y hy => h y (List.mem_cons_of_mem _ hy)
    have hx := h x List.mem_cons_self
    rw [ct_cons, ih, mults_cons, mults_one hs hx.1, List.length_cons]
    split <;> omega
theorem sum_pick_go {ns L : List Int} {s : Int} (hs : 1 ≤ s) (hL : ∀ i : Nat, s < i → i < L.length → L[i]? = some (gt ns i)) : ∀ c : Nat, (∀ k : Nat, k < c → ((k : Int) + 2) * s < L.length) →
    ((((List.range c).map fun k : Nat => (2 * s + s * (k : Int)).toNat).filterMap fun i => L[i]?)).sum = mults ns s (c + 1) - gt ns s
  | 0, _ => by
    show (0 : Int) = mults ns s 0 + gt ns (((0 + 1 : Nat) : Int) * s) - gt ns s
    have e : (((0 + 1 : Nat) : Int) * s) = s := by omega
    rw [e]
    show (0 : Int) = 0 + gt ns s - gt ns s
    omega
  | c + 1, h => by
    have ih := sum_pick_go hs hL c fun k hk => h k (by omega)
    have hc := h c (by omega)
    have e1 : 2 * s + s * (c : Int) = ((c : Int) + 2) * s := by rw [Int.add_mul, Int.mul_comm s c]; omega
    have hpos : s < ((c : Int) + 2) * s := by
      rw [Int.add_mul]
      have := Int.mul_nonneg (show (0 : Int) ≤ c by omega) (show 0 ≤ s by omega)
      omega
    have e2 : (((((c : Int) + 2) * s).toNat : Nat) : Int) = ((c : Int) + 2) * s := Int.toNat_of_nonneg (by omega)
    have e3 := hL (((c : Int) + 2) * s).toNat (by omega) (by omega)
    rw [e2] at e3
    rw [List.range_succ, List.map_append, List.filterMap_append, List.sum_append, ih]
    simp only [List.map_cons, List.map_nil, e1, List.filterMap_cons, e3, List.filterMap_nil, List.sum_cons, List.sum_nil]
    show _ = mults ns s (c + 1) + gt ns (((c + 1 + 1 : Nat) : Int) * s) - gt ns s
    have e4 : ((c + 1 + 1 : Nat) : Int) * s = ((c : Int) + 2) * s := by
      congr 1
    rw [e4]
    omega
theorem pick_len (L : List Int) (lo st : Option Int) : (pickSl L lo st).length ≤ (sliceRange (sliceBounds lo none st L.length).1 (sliceBounds lo none st L.length).2.1 (sliceBounds lo none st L.length).2.2).length := List.length_filterMap_le _ _
theorem sum_pick {ns L : List Int} {s : Int} (hs : 1 ≤ s) (hL : ∀ i : Nat, s < i → i < L.length → L[i]? = some (gt ns i)) :
    ∃ m : Nat, (L.length : Int) ≤ ((m : Int) + 1) * s ∧ (pickSl L (some (2 * s)) (some s)).sum = mults ns s m - gt ns s ∧ (pickSl L (some (2 * s)) (some s)).length ≤ L.length := by
  have hsp : s > 0 := by omega
  have hneg : ¬ 2 * s < 0 := by omega
  have hb : sliceBounds (some (2 * s)) none (some s) L.length = (max 0 (min (2 * s) L.length), (L.length : Int), s) := by
    simp only [sliceBounds, Option.getD_some, hsp, if_true, hneg, if_false]
  by_cases h2 : 2 * s < L.length
  · have e : max 0 (min (2 * s) (L.length : Int)) = 2 * s := by omega
    have hcount : 0 ≤ ((L.length : Int) - 2 * s + s - 1) / s := Int.ediv_nonneg (by omega) (by omega)
    have hmul := Int.mul_ediv_self_le (x := (L.length : Int) - 2 * s + s - 1) (k := s) (by omega)
    have hmod := Int.lt_mul_ediv_self_add (x := (L.length : Int) - 2 * s + s - 1) (k := s) (by omega)
    obtain ⟨c, hc⟩ := Int.eq_ofNat_of_zero_le hcount
    have hr : sliceRange (2 * s) L.length s = (List.range c).map fun k : Nat => (2 * s + s * (k : Int)).toNat := by
      simp only [sliceRange, hsp, if_true, h2, hc, Int.toNat_natCast]
    have hcs : ((L.length : Int) - 2 * s + s - 1) / s = c := hc
    rw [hcs] at hmul hmod
    have go := sum_pick_go hs hL c fun k hk => by
      have h1 : ((k : Int) + 1) * s ≤ c * s := Int.mul_le_mul_of_nonneg_right (by omega) (by omega)
      rw [Int.mul_comm s c] at hmul
      rw [Int.add_mul] at h1 ⊢
      omega
    refine ⟨c + 1, ?_, ?_, ?_⟩
    · rw [Int.mul_comm s c] at hmod
      have : (((c + 1 : Nat) : Int) + 1) * s = c * s + 2 * s := by
        rw [Int.add_mul]
        have : ((c + 1 : Nat) : Int) * s = c * s + s := by rw [show ((c + 1 : Nat) : Int) = (c : Int) + 1 by omega, Int.add_mul]; omega
        omega
      rw [this]
      omega
    · unfold pickSl
      rw [hb, e]
      show ((sliceRange (2 * s) L.length s).filterMap fun i => L[i]?).sum = _
      rw [hr]
      exact go
    · refine Nat.le_trans (pick_len _ _ _) ?_
      rw [hb, e]
      show (sliceRange (2 * s) L.length s).length ≤ _
      rw [hr, List.length_map, List.length_range]
      have h1 : (1 : Int) * c ≤ s * c := Int.mul_le_mul_of_nonneg_right (by omega) (by omega)
      omega
  · have e : max 0 (min (2 * s) (L.length : Int)) = L.length := by omega
    have hr : pickSl L (some (2 * s)) (some s) = [] := by
      unfold pickSl
      rw [hb, e]
      show (sliceRange (L.length : Int) L.length s).filterMap _ = []
      simp [sliceRange, hsp]
    refine ⟨1, by omega, ?_, by rw [hr]; simp⟩
    rw [hr]
    show (0 : Int) = mults ns s 0 + gt ns (((0 + 1 : Nat) : Int) * s) - gt ns s
    have e : (((0 + 1 : Nat) : Int) * s) = s := by omega
    rw [e]
    show (0 : Int) = 0 + gt ns s - gt ns s
    omega
/-- the table of a book -/
def tab (ns : List Int) (g : Nat) : List Int := (List.range g).map fun i : Nat => ct ns ((i : Int) + 1)
theorem tab_len (ns : List Int) (g : Nat) : (tab ns g).length = g := by simp [tab]
theorem tab_at {ns : List Int} {g i : Nat} (h : i < g) : (tab ns g)[i]? = some (ct ns ((i : Int) + 1)) := by
  unfold tab
  rw [List.getElem?_map, List.getElem?_range h]
  rfl
theorem ct_far {ns : List Int} {s : Int} (hs : 1 ≤ s) (h : ∀ x ∈ ns, 1 ≤ x ∧ x ≤ s) : ct ns s = ns.length := by
  have := ct_mults (m := 0) hs (ns := ns) fun x hx => ⟨(h x hx).1, by rw [Int.ediv_eq_zero_of_lt (by have := h x hx; omega) (by have := h x hx; omega)]; simp⟩
  rw [this]
  show (ns.length : Int) + 0 = _
  omega
/-- what the loop of longer_counts computes -/
theorem longer_step {ns L : List Int} {g : Nat} {s : Int} (hs : 1 ≤ s) (hn : ∀ x ∈ ns, 1 ≤ x ∧ x ≤ g) (hLl : L.length = g + 1) (hL : ∀ i : Nat, s < i → i < L.length → L[i]? = some (gt ns i)) :
    ct ns s - ns.length - (pickSl L (some (2 * s)) (some s)).sum = gt ns s ∧ (pickSl L (some (2 * s)) (some s)).length ≤ g + 1 := by
  obtain ⟨m, h1, h2, h3⟩ := sum_pick hs hL
  have := ct_mults (m := m) hs (ns := ns) fun x hx => ⟨(hn x hx).1, by
    have h4 : (x - 1) / s < (m : Int) + 1 := by
      rw [Int.ediv_lt_iff_lt_mul (by omega)]
      have := hn x hx
      omega
    omega⟩
  rw [h2, this]
  exact ⟨by omega, by omega⟩
def spLonger (K : PySem.W.Frag) : Sp := fun vs H Q _ => ∃ (p : Addr) (ns : List Int) (g : Nat), vs = [.ref p] ∧ H p = some (.lst ((tab ns g).map V.int)) ∧ g ≤ 100000 ∧ ns.length ≤ 100000 ∧ (∀ x ∈ ns, 1 ≤ x ∧ x ≤ g) ∧
  ∀ (q : Addr) (H' : Hp), Fr [] H H' → H q = none → H' q = some (.lst (((List.range (g + 1)).map fun i : Nat => gt ns i).map V.int)) → Q (.ref q) H'
set_option maxHeartbeats 4000000 in
theorem ok_longer_counts (T : Txt K mg c) : DefAt P w K mg base "longer_counts" s_longer_counts 1 ["table"] (spLonger K) := by
  refine T.f_longer_counts.ok sc_longer_counts (fun vs H Q E h => ?_) (fun _ _ _ _ _ _ us hl => match us, hl with | [_], _ => rfl) (fun f cdv A outer s H vs Q E hr h => ?_)
  · obtain ⟨p, ns, g, rfl, hp, hg, hl, hn, q⟩ := h
    rfl
  · obtain ⟨p, ns, g, rfl, hp, hg, hl, hn, q⟩ := h
    refine ⟨_, (pss_cons (ps_set (i := 1) sc_longer_counts.nd rfl (Or.inl rfl) (pe_callB call_lenN (by rfl) T.n_len (by decide +kernel) (pa_cons (pv 0) pa_nil)))
    (pss_cons (ps_set (i := 2) sc_longer_counts.nd rfl (Or.inl rfl) (pe_ifExp (pt_cmpR (op_neD hr.units) (pv 0) (pe_lst pa_nil) (nomark _)) (pe_ix ix_list (pv 0) (pe_un un_neg pe_int) (fun _ _ => rfl)) pe_int))
    (pss_cons (ps_if (pt_cmpR op_lt (pv 2) pe_int (nomark _)) (pss_one ps_never) pss_nil)
    (pss_cons (ps_set (i := 3) sc_longer_counts.nd rfl (Or.inl rfl) (pe_op op_rep (pe_lst (pa_cons pe_int pa_nil)) (pe_op op_add (pv 1) pe_int)))
    (pss_cons (ps_for PassesOwn.never rfl (pi_range3 (by rfl) T.n_range (pa_cons (pe_op op_sub (pv 1) pe_int) (pa_cons pe_int (pa_cons (pe_un un_neg pe_int) pa_nil)))) (pg_name (i := 4) sc_longer_counts.nd rfl (Or.inl rfl)) (pss_cons (ps_asg (pe_op op_sub (pe_op op_sub (pe_ix ix_list (pv 0) (pe_op op_sub (pv 4) pe_int) (fun _ _ => rfl)) (pv 2)) (pe_callB (cr_sum rfl) (by rfl) T.n_sum (by decide +kernel) (pa_cons (pe_slStep (pv 3) (po_some (pe_op op_mulW pe_int (pv 4))) (po_some (pv 4))) pa_nil))) (pg_sub (pv 3) (pv 4) set_list))
    (pss_one (ps_if (pt_not (pt_chain op_le op_le (pe_ix ix_list (pv 3) (pe_op op_add (pv 4) pe_int) (fun _ _ => rfl)) (pe_ix ix_list (pv 3) (pv 4) (fun _ _ => rfl)) (pv 2))) (pss_one ps_never) pss_nil))))
    (pss_cons (ps_asg (pv 2) (pg_sub (pv 3) pe_int set_list))
    (pss_one (ps_ret (pv 3))))))))), ?_⟩
    refine w_start (σ' := [some (.ref p), none, none, none, none]) rfl ?_
    walk_at "g"
    have tl := tab_len ns g
    rename_i p0 np0
    refine' w_share (fun rest => w_iteN (fun hne => ?a) (fun he => ?b)) ?rest
    case a =>
      have hg0 : 0 < g := by rw [← tl]; exact List.length_pos_iff.mpr hne
      iterate 6 walk_at "G"
      rename_i ini n hn2
      have e : n = ns.length := by
        have h1 := tab_at (ns := ns) (g := g) (i := g - 1) (by omega)
        rw [ct_far (by omega) fun x hx => by have := hn x hx; omega] at h1
        have h2 : ini.length = g - 1 := by
          rw [hn2, List.length_append] at tl
          simp at tl
          omega
        rw [hn2, List.getElem?_append_right (by omega), h2, Nat.sub_self] at h1
        simpa using h1
      subst e
      exact rest.r
    case b =>
      have hg0 : g = 0 := by rw [he] at tl; simpa using tl.symm
      have e : ns = [] := by
        cases ns with
        | nil => rfl
        | cons x ns =>
          have := hn x (by simp)
          omega
      subst e
      iterate 1 walk_at "G"
      exact rest.r
    case rest =>
      walk_at "g"
      rename_i q0 nq0 L nL
      rw [tl]
      have hrep : (List.replicate ((g : Int) + 1).toNat (0 : Int)).length = g + 1 := by rw [List.length_replicate]; omega
      refine f_rangeC (fun k σ' H' => ∃ (o : Option V) (Ls : List Int), σ' = [some (.ref p), some (.int g), some (.int ns.length), some (.ref L), o] ∧ Fr [] H H' ∧ H' L = some (.lst (Ls.map V.int)) ∧ Ls.length = g + 1 ∧ ∀ i : Nat, (g : Int) - 1 - k < i → i < g + 1 → Ls[i]? = some (gt ns i)) ?_ ?_ ?_
      · refine ⟨none, _, rfl, by walk_at "F", upd_same, hrep, fun i h1 h2 => ?_⟩
        have e : i = g := by omega
        subst e
        rw [gt_zero fun x hx => (hn x hx).2, List.getElem?_replicate, if_pos (by omega)]
      · rintro k σ' H' hk ⟨o, Ls, rfl, f1, h1, hLl, hL⟩
        have hp1 := f1.at0 hp
        obtain ⟨s, hs⟩ : ∃ s : Int, s = (g : Int) - 1 + (k : Int) * -1 := ⟨_, rfl⟩
        rw [← hs]
        have hs1 : 1 ≤ s := by omega
        have hLs : ∀ i : Nat, s < i → i < Ls.length → Ls[i]? = some (gt ns i) := fun i h1 h2 => hL i (by omega) (by omega)
        obtain ⟨st1, st2⟩ := longer_step hs1 hn hLl hLs
        have hLL : L ≠ p := by walk_at "N"
        walk_at "g"
        rename_i n hn2
        have e : n = ct ns s := by
          have h1 := tab_at (ns := ns) (g := g) (i := (s - 1).toNat) (by omega)
          rw [hn2] at h1
          rw [Option.some.inj h1]
          congr 1
          omega
        subst e
        refine w_slsE (SqL.of h1) (fun e => by have := Option.some.inj e; omega) (by omega) (fun u nu => ?_)
        walk_at "g"
        rw [st1]
        have h1u : upd H' u (.lst ((pickSl Ls (some (2 * s)) (some s)).map V.int)) L = some (.lst (Ls.map V.int)) := at_upd h1 nu
        walk_at "g"
        rename_i n1 hn1 n2 hn2
        have e1 : n1 = gt ns (s + 1) := by
          rw [List.getElem?_set_ne (by omega), hLs _ (by omega) (by omega)] at hn1
          rw [← Option.some.inj hn1]
          congr 1
          omega
        have e2 : n2 = gt ns s := by
          rw [List.getElem?_set_self (by omega), st1] at hn2
          exact (Option.some.inj hn2).symm
        subst e1 e2
        refine w_iteP (gt_mono (by omega)) ?_
        walk_at "g"
        refine w_iteNP (gt_le ns s) ?_
        walk_at "g"
        refine ⟨_, _, rfl, by walk_at "F", upd_same, by rw [List.length_set]; exact hLl, fun i g1 g2 => ?_⟩
        by_cases e : i = s.toNat
        · subst e
          rw [List.getElem?_set_self (by omega)]
          congr 2
          omega
        · rw [List.getElem?_set_ne (by omega)]
          exact hL i (by omega) g2
      · rintro σ' H' ⟨o, Ls, rfl, f1, h1, hLl, hL⟩
        walk_at "g"
        have fin : Ls.set (Int.toNat 0) (ns.length : Int) = (List.range (g + 1)).map fun i : Nat => gt ns i := by
          refine List.ext_getElem? fun i => ?_
          by_cases hi : i < g + 1
          · rw [List.getElem?_map, List.getElem?_range hi]
            by_cases e : i = 0
            · subst e
              rw [show Int.toNat 0 = 0 from rfl, List.getElem?_set_self (by omega)]
              show some (ns.length : Int) = some (gt ns ((0 : Nat) : Int))
              rw [gt_all fun x hx => by have := hn x hx; omega]
            · rw [show Int.toNat 0 = 0 from rfl, List.getElem?_set_ne (by omega), hL i (by omega) hi]
              rfl
          · rw [List.getElem?_eq_none (by rw [List.length_set]; omega), List.getElem?_eq_none (by simp; omega)]
        rw [fin]
        exact q L _ (by walk_at "F") (by walk_at "Z") upd_same
/-- tuples of a length and its times -/
def PairsAt (H : Hp) (ps : List Addr) (ls : List (Int × Int)) : Prop := ps.length = ls.length ∧ ∀ (i : Nat) (p : Addr) (l : Int × Int), ps[i]? = some p → ls[i]? = some l → H p = some (.tup [.int l.1, .int l.2])
theorem PairsAt.fr {H H' : Hp} {ps : List Addr} {ls : List (Int × Int)} (h : PairsAt H ps ls) (f : Fr [] H H') : PairsAt H' ps ls := ⟨h.1, fun i p l h1 h2 => f.at0 (h.2 i p l h1 h2)⟩
theorem PairsAt.snoc {H : Hp} {ps : List Addr} {ls : List (Int × Int)} {p : Addr} {l : Int × Int} (h : PairsAt H ps ls) (hp : H p = some (.tup [.int l.1, .int l.2])) : PairsAt H (ps ++ [p]) (ls ++ [l]) := by
  refine ⟨by simp [h.1], fun i q m h1 h2 => ?_⟩
  by_cases hi : i < ps.length
  · rw [List.getElem?_append_left hi] at h1
    rw [List.getElem?_append_left (by rw [← h.1]; exact hi)] at h2
    exact h.2 i q m h1 h2
  · rw [List.getElem?_append_right (by omega)] at h1
    rw [List.getElem?_append_right (by rw [← h.1]; omega), ← h.1] at h2
    by_cases e : i - ps.length = 0
    · rw [e] at h1 h2
      simp at h1 h2
      subst h1 h2
      exact hp
    · rw [List.getElem?_eq_none (by simp; omega)] at h1
      cases h1
theorem dpAll_pairs {K : PySem.W.Frag} {H : Hp} : ∀ {ps : List Addr} {ls : List (Int × Int)}, PairsAt H ps ls → DpAll K H (ps.map V.ref) (ls.map dP)
  | [], [], _ => .nil
  | [], _ :: _, h => by cases h.1
  | _ :: _, [], h => by cases h.1
  | p :: ps, l :: ls, h => .cons (.tup (SqT.of (h.2 0 p l rfl rfl)) (.cons (.int _) (.cons (.int _) .nil))) (dpAll_pairs ⟨by simpa using h.1, fun i q m h1 h2 => h.2 (i + 1) q m (by simpa using h1) (by simpa using h2)⟩)
theorem w_eqPairs {K : PySem.W.Frag} {H : Hp} {Q : VK} {a b : Addr} {ps qs : List Addr} {ls ms : List (Int × Int)} (ha : H a = some (.lst (ps.map V.ref))) (hb : H b = some (.lst (qs.map V.ref))) (h1 : PairsAt H ps ls) (h2 : PairsAt H qs ms) (k : Q (.bl (decide (ls = ms))) H) : rEqD K (.ref a) (.ref b) H Q :=
  ⟨_, _, .lst (SqL.of ha) (dpAll_pairs h1), .lst (SqL.of hb) (dpAll_pairs h2), shaped_pairs _, shaped_pairs _, by simp only [PyData.eqv]; rw [eqvAll_pairs]; exact k⟩
theorem PairsAt.app {H : Hp} {ps qs : List Addr} {ls ms : List (Int × Int)} (h : PairsAt H ps ls) (k : PairsAt H qs ms) : PairsAt H (ps ++ qs) (ls ++ ms) := by
  refine ⟨by simp [h.1, k.1], fun i q m h1 h2 => ?_⟩
  by_cases hi : i < ps.length
  · rw [List.getElem?_append_left hi] at h1
    rw [List.getElem?_append_left (by rw [← h.1]; exact hi)] at h2
    exact h.2 i q m h1 h2
  · rw [List.getElem?_append_right (by omega)] at h1
    rw [List.getElem?_append_right (by rw [← h.1]; omega), ← h.1] at h2
    exact k.2 _ q m h1 h2
theorem PairsAt.nil {H : Hp} : PairsAt H [] [] := ⟨rfl, by simp⟩
/-- a pair's address is not the list's -/
theorem PairsAt.put {H : Hp} {a : Addr} {xs ys : List V} {ps : List Addr} {ls : List (Int × Int)} (h : PairsAt H ps ls) (ha : H a = some (.lst xs)) : PairsAt (upd H a (.lst ys)) ps ls := by
  refine ⟨h.1, fun i q m h1 h2 => ?_⟩
  have e := h.2 i q m h1 h2
  have hne : q ≠ a := by
    rintro rfl
    rw [ha] at e
    cases e
  rw [upd_ne hne]
  exact e
theorem PairsAt.frL {H H' : Hp} {a : Addr} {xs : List V} {ps : List Addr} {ls : List (Int × Int)} (h : PairsAt H ps ls) (f : Fr [a] H H') (ha : H a = some (.lst xs)) : PairsAt H' ps ls := by
  refine ⟨h.1, fun i q m h1 h2 => ?_⟩
  have e := h.2 i q m h1 h2
  have hne : q ≠ a := by
    rintro rfl
    rw [ha] at e
    cases e
  exact f.at (nn2 hne) e
theorem w_neNilP {K : PySem.W.Frag} {H : Hp} {Q : VK} {a b : Addr} {ps : List Addr} {ls : List (Int × Int)} (ha : H a = some (.lst (ps.map V.ref))) (hb : H b = some (.lst [])) (h1 : PairsAt H ps ls) (k : Q (.bl (!decide (ls = []))) H) : rNeD K (.ref a) (.ref b) H Q :=
  ⟨_, _, .lst (SqL.of ha) (dpAll_pairs h1), .lst (SqL.of hb) (dpAll_pairs (ps := []) (ls := []) .nil), shaped_pairs _, shaped_pairs _, by simp only [PyData.eqv]; rw [eqvAll_pairs]; exact k⟩
theorem PairsAt.set {H : Hp} {ps : List Addr} {ls : List (Int × Int)} {t : Addr} {l : Int × Int} (h : PairsAt H ps ls) (i : Nat) (ht : H t = some (.tup [.int l.1, .int l.2])) : PairsAt H (ps.set i t) (ls.set i l) := by
  refine ⟨by rw [List.length_set, List.length_set]; exact h.1, fun j q m h1 h2 => ?_⟩
  by_cases e : i = j
  · subst e
    have hj := (List.getElem?_eq_some_iff.mp h1).1
    rw [List.length_set] at hj
    rw [List.getElem?_set_self hj] at h1
    rw [List.getElem?_set_self (by rw [← h.1]; exact hj)] at h2
    have e1 := Option.some.inj h1
    have e2 := Option.some.inj h2
    subst e1 e2
    exact ht
  · rw [List.getElem?_set_ne e] at h1 h2
    exact h.2 j q m h1 h2
/-- the lengths that the tuples tell -/
def expand (ls : List (Int × Int)) : List Int := (ls.map fun l => List.replicate l.2.toNat l.1).flatten
theorem expand_snoc (ls : List (Int × Int)) (l : Int × Int) : expand (ls ++ [l]) = expand ls ++ List.replicate l.2.toNat l.1 := by simp [expand]
theorem expand_mem {ls : List (Int × Int)} {x : Int} (h : x ∈ expand ls) : ∃ l ∈ ls, l.1 = x := by
  unfold expand at h
  obtain ⟨r, hr, hx⟩ := List.mem_flatten.mp h
  obtain ⟨l, hl, rfl⟩ := List.mem_map.mp hr
  exact ⟨l, hl, (List.mem_replicate.mp hx).2.symm⟩
/-- the tuples of all lengths above b -/
structure TimesOf (ns : List Int) (b : Int) (ls : List (Int × Int)) : Prop where
  desc : ls.Pairwise fun x y => y.1 < x.1
  above : ∀ l ∈ ls, b < l.1
  pos : ∀ l ∈ ls, 0 < l.2
  cnt : ∀ l ∈ ls, l.2 = ns.count l.1
  all : ∀ x, b < x → x ∈ ns → ∃ l ∈ ls, l.1 = x
theorem TimesOf.nil {ns : List Int} {g : Int} (h : ∀ x ∈ ns, x ≤ g) : TimesOf ns g [] := ⟨.nil, by simp, by simp, by simp, fun x h1 h2 => by have := h x h2; omega⟩
theorem TimesOf.skip {ns : List Int} {b : Int} {ls : List (Int × Int)} (h : TimesOf ns b ls) (h0 : ns.count b = 0) : TimesOf ns (b - 1) ls :=
  ⟨h.desc, fun l hl => by have := h.above l hl; omega, h.pos, h.cnt, fun x h1 h2 => h.all x (by
    by_cases e : x = b
    · subst e
      exact absurd h2 (List.count_eq_zero.mp h0)
    · omega) h2⟩
theorem TimesOf.snoc {ns : List Int} {b : Int} {ls : List (Int × Int)} (h : TimesOf ns b ls) (h0 : 0 < ns.count b) : TimesOf ns (b - 1) (ls ++ [(b, (ns.count b : Int))]) := by
  refine ⟨List.pairwise_append.mpr ⟨h.desc, by simp, fun l hl m hm => ?_⟩, fun l hl => ?_, fun l hl => ?_, fun l hl => ?_, fun x h1 h2 => ?_⟩
  · rw [List.mem_singleton.mp hm]
    exact h.above l hl
  · rcases List.mem_append.mp hl with z | z
    · have := h.above l z
      omega
    · rw [List.mem_singleton.mp z]
      show b - 1 < b
      omega
  · rcases List.mem_append.mp hl with z | z
    · exact h.pos l z
    · rw [List.mem_singleton.mp z]
      show (0 : Int) < (ns.count b : Int)
      omega
  · rcases List.mem_append.mp hl with z | z
    · exact h.cnt l z
    · rw [List.mem_singleton.mp z]
  · by_cases e : x = b
    · exact ⟨_, List.mem_append_right _ (List.mem_singleton_self _), e.symm⟩
    · obtain ⟨l, hl, e2⟩ := h.all x (by omega) h2
      exact ⟨l, List.mem_append_left _ hl, e2⟩
theorem expand_desc : ∀ {ls : List (Int × Int)}, (ls.Pairwise fun x y => y.1 < x.1) → (expand ls).Pairwise (· ≥ ·)
  | [], _ => .nil
  | l :: ls, h => by
    obtain ⟨h1, h2⟩ := List.pairwise_cons.mp h
    have e : expand (l :: ls) = List.replicate l.2.toNat l.1 ++ expand ls := by simp [expand]
    rw [e]
    refine List.pairwise_append.mpr ⟨List.pairwise_replicate.mpr (.inr (Int.le_refl _)), expand_desc h2, fun x hx y hy => ?_⟩
    rw [(List.mem_replicate.mp hx).2]
    obtain ⟨m, hm, rfl⟩ := expand_mem hy
    have := h1 m hm
    omega
theorem expand_count : ∀ {ls : List (Int × Int)} {x : Int}, (ls.Pairwise fun x y => y.1 < x.1) → (∀ l ∈ ls, 0 ≤ l.2) → (∀ l ∈ ls, l.1 = x → ((expand ls).count x : Int) = l.2) ∧ ((∀ l ∈ ls, l.1 ≠ x) → (expand ls).count x = 0)
  | [], _, _, _ => by simp [expand]
  | l :: ls, x, h, hp => by
    obtain ⟨h1, h2⟩ := List.pairwise_cons.mp h
    obtain ⟨i1, i2⟩ := expand_count (x := x) h2 fun m hm => hp m (List.mem_cons_of_mem _ hm)
    have e : expand (l :: ls) = List.replicate l.2.toNat l.1 ++ expand ls := by simp [expand]
    rw [e, List.count_append, List.count_replicate]
    have hl := hp l List.mem_cons_self
    refine ⟨fun m hm hx => ?_, fun hno => ?_⟩
    · rcases List.mem_cons.mp hm with rfl | hm
      · rw [i2 fun q hq => by have := h1 q hq; omega, if_pos (by simpa using hx)]
        omega
      · have hne : ¬ l.1 = x := by have := h1 m hm; omega
        rw [if_neg (by simpa using hne)]
        have := i1 m hm hx
        omega
    · have hne := hno l List.mem_cons_self
      rw [i2 fun q hq => hno q (List.mem_cons_of_mem _ hq), if_neg (by simpa using hne)]
theorem TimesOf.perm {ns : List Int} {ls : List (Int × Int)} (h : TimesOf ns 0 ls) (h1 : ∀ x ∈ ns, 1 ≤ x) : (expand ls).Perm ns := by
  rw [List.perm_iff_count]
  intro x
  obtain ⟨i1, i2⟩ := expand_count (x := x) h.desc fun l hl => Int.le_of_lt (h.pos l hl)
  by_cases hx : x ∈ ns
  · obtain ⟨l, hl, e⟩ := h.all x (by have := h1 x hx; omega) hx
    have a1 := i1 l hl e
    have a2 := h.cnt l hl
    rw [e] at a2
    omega
  · rw [List.count_eq_zero.mpr hx]
    refine i2 fun l hl e => ?_
    have a1 := h.pos l hl
    have a2 := h.cnt l hl
    rw [e, List.count_eq_zero.mpr hx] at a2
    omega
def spTimes (K : PySem.W.Frag) : Sp := fun vs H Q _ => ∃ (p : Addr) (ns : List Int) (g : Nat), vs = [.ref p] ∧ H p = some (.lst ((tab ns g).map V.int)) ∧ g ≤ 100000 ∧ ns.length ≤ 100000 ∧ (∀ x ∈ ns, 1 ≤ x ∧ x ≤ g) ∧
  ∀ (q : Addr) (ps : List Addr) (ls : List (Int × Int)) (H' : Hp), Fr [] H H' → H q = none → H' q = some (.lst (ps.map V.ref)) → PairsAt H' ps ls → TimesOf ns 0 ls → Q (.ref q) H'
def spLengths (K : PySem.W.Frag) : Sp := fun vs H Q _ => ∃ (p : Addr) (ns : List Int) (g : Nat), vs = [.ref p] ∧ H p = some (.lst ((tab ns g).map V.int)) ∧ g ≤ 100000 ∧ ns.length ≤ 100000 ∧ (∀ x ∈ ns, 1 ≤ x ∧ x ≤ g) ∧
  ∀ (q : Addr) (fs : List Int) (H' : Hp), Fr [] H H' → H q = none → H' q = some (.lst (fs.map V.int)) → fs.Perm ns → fs.Pairwise (· ≥ ·) → Q (.ref q) H'
set_option maxHeartbeats 4000000 in
theorem ok_times_of (T : Txt K mg c) : DefAt P w K mg base "times_of" s_times_of 2 ["table"] (spTimes K) := by
  have D_longer_counts := ok_longer_counts (P := P) (w := w) (base := base) T
  refine T.f_times_of.ok sc_times_of (fun vs H Q E h => ?_) (fun _ _ _ _ _ _ us hl => match us, hl with | [_], _ => rfl) (fun f cdv A outer s H vs Q E hr h => ?_)
  · obtain ⟨p, ns, g, rfl, hp, hg, hl, hn, q⟩ := h
    rfl
  · obtain ⟨p, ns, g, rfl, hp, hg, hl, hn, q⟩ := h
    refine ⟨_, (pss_cons (ps_set (i := 1) sc_times_of.nd rfl (Or.inl rfl) (pe_callD D_longer_counts (hr.mono (by decide)) (pa_cons (pv 0) pa_nil)))
    (pss_cons (ps_set (i := 2) sc_times_of.nd rfl (Or.inl rfl) (pe_lst pa_nil))
    (pss_cons (ps_for PassesOwn.never rfl (pi_range3 (by rfl) T.n_range (pa_cons (pe_callB call_lenN (by rfl) T.n_len (by decide +kernel) (pa_cons (pv 0) pa_nil)) (pa_cons pe_int (pa_cons (pe_un un_neg pe_int) pa_nil)))) (pg_name (i := 3) sc_times_of.nd rfl (Or.inl rfl)) (pss_cons (ps_set (i := 4) sc_times_of.nd rfl (Or.inl rfl) (pe_op op_sub (pe_ix ix_list (pv 1) (pe_op op_sub (pv 3) pe_int) (fun _ _ => rfl)) (pe_ix ix_list (pv 1) (pv 3) (fun _ _ => rfl))))
    (pss_one (ps_if (pt_cmpR op_gt (pv 4) pe_int (nomark _)) (pss_one (ps_expr (pe_bm PySem.F.plainAttrs_list PySem.F.slot_list_append PySem.F.type_list_append mt_append (pv 2) (pa_cons (pe_tup (pa_cons (pv 3) (pa_cons (pv 4) pa_nil))) pa_nil)))) pss_nil))))
    (pss_one (ps_ret (pv 2)))))), ?_⟩
    refine w_start (σ' := [some (.ref p), none, none, none, none]) rfl ?_
    walk_at "g"
    have tl := tab_len ns g
    refine ⟨p, ns, g, rfl, hp, hg, hl, hn, fun L H2 f2 nL hL => ?_⟩
    obtain ⟨Ls, hLs⟩ : ∃ Ls : List Int, Ls = (List.range (g + 1)).map fun i : Nat => gt ns i := ⟨_, rfl⟩
    have hLl : Ls.length = g + 1 := by rw [hLs]; simp
    have hLi : ∀ i : Nat, i < g + 1 → Ls[i]? = some (gt ns i) := fun i hi => by
      rw [hLs, List.getElem?_map, List.getElem?_range hi]
      rfl
    rw [← hLs] at hL
    clear hLs
    have hp2 := f2.at0 hp
    walk_at "g"
    rename_i T nT
    have hTL : L ≠ T := by walk_at "N"
    have nT0 : H T = none := f2.free List.not_mem_nil nT
    rw [tl]
    refine f_rangeC (fun k σ' H' => ∃ (o1 o2 : Option V) (ps : List Addr) (ls : List (Int × Int)), σ' = [some (.ref p), some (.ref L), some (.ref T), o1, o2] ∧ Fr [] H H' ∧ H' L = some (.lst (Ls.map V.int)) ∧ H' T = some (.lst (ps.map V.ref)) ∧ PairsAt H' ps ls ∧ TimesOf ns ((g : Int) - k) ls ∧ ls.length ≤ k) ?_ ?_ ?_
    · exact ⟨none, none, [], [], rfl, by walk_at "F", by walk_at "H", upd_same, ⟨rfl, by simp⟩, .nil fun x hx => by have := hn x hx; omega, by simp⟩
    · rintro k σ' H' hk ⟨o1, o2, ps, ls, rfl, f1, h1, h2, hps, hls, hll⟩
      obtain ⟨b, hb⟩ : ∃ b : Int, b = (g : Int) + (k : Int) * -1 := ⟨_, rfl⟩
      rw [← hb]
      have hb2 : (g : Int) - k = b := by omega
      have hb3 : (g : Int) - (k + 1 : Nat) = b - 1 := by omega
      rw [hb2] at hls
      have hb1 : 1 ≤ b := by omega
      have hpl := hps.1
      walk_at "g"
      rename_i n1 hn1 n2 hn2
      have e1 : n1 = gt ns (b - 1) := by
        rw [hLi _ (by omega)] at hn1
        rw [← Option.some.inj hn1]
        congr 1
        omega
      have e2 : n2 = gt ns b := by
        rw [hLi _ (by omega)] at hn2
        rw [← Option.some.inj hn2]
        congr 1
        omega
      have e3 : n1 - n2 = ns.count b := by
        rw [e1, e2, gt_step]
        omega
      refine w_ite (fun h => ?_) (fun h => ?_)
      · walk_at "g"
        rename_i t nt
        have ntT : T ≠ t := by walk_at "N"
        refine ⟨_, _, _, ls ++ [(b, n1 - n2)], rfl, (f1.new nt).put (.inl nT0), by walk_at "H", upd_same, ?_, ?_, by simp; omega⟩
        · refine PairsAt.snoc ?_ (by walk_at "H")
          refine ⟨hps.1, fun i p l g1 g2 => ?_⟩
          have g3 := hps.2 i p l g1 g2
          have g4 : p ≠ T := ne_of g3 h2 (by intro z; cases z)
          rw [upd_ne g4]
          exact at_upd g3 nt
        · rw [hb3, e3]
          exact hls.snoc (by omega)
      · walk_at "g"
        refine ⟨_, _, ps, ls, rfl, f1, h1, h2, hps, ?_, by omega⟩
        rw [hb3]
        exact hls.skip (by omega)
    · rintro σ' H' ⟨o1, o2, ps, ls, rfl, f1, h1, h2, hps, hls, hll⟩
      walk_at "g"
      refine q T ps ls H' f1 nT0 h2 hps ?_
      rw [show (g : Int) - (((g : Int) - 0).toNat : Nat) = 0 by omega] at hls
      exact hls
theorem expand_take_le {ls : List (Int × Int)} (i : Nat) : (expand (ls.take i)).length ≤ (expand ls).length := by
  have e : expand ls = expand (ls.take i) ++ expand (ls.drop i) := by
    unfold expand
    rw [← List.flatten_append, ← List.map_append, List.take_append_drop]
  rw [e, List.length_append]
  omega
theorem ct_bound {ns : List Int} {s M : Int} (hs : 1 ≤ s) (h : ∀ x ∈ ns, 1 ≤ x ∧ x ≤ M) : 0 ≤ ct ns s ∧ ct ns s ≤ ns.length * M := by
  induction ns with
  | nil => simp [ct]
  | cons x ns ih =>
    obtain ⟨h1, h2⟩ := ih fun y hy => h y (List.mem_cons_of_mem _ hy)
    have hx := h x List.mem_cons_self
    have h3 : 0 ≤ (x - 1) / s := Int.ediv_nonneg (by omega) (by omega)
    have h4 : (x - 1) / s ≤ x - 1 := Int.ediv_le_self _ (by omega)
    rw [ct_cons, List.length_cons]
    have h5 : ((ns.length + 1 : Nat) : Int) * M = ns.length * M + M := by rw [show ((ns.length + 1 : Nat) : Int) = (ns.length : Int) + 1 by omega, Int.add_mul, Int.one_mul]
    rw [h5]
    omega
theorem tab_succ (ns : List Int) (i : Nat) : tab ns (i + 1) = tab ns i ++ [ct ns ((i : Int) + 1)] := by
  unfold tab
  rw [List.range_succ, List.map_append]
  rfl
theorem tab_mem {ns : List Int} {g : Nat} {y : Int} (h : y ∈ tab ns g) : ∃ i : Nat, i < g ∧ y = ct ns ((i : Int) + 1) := by
  obtain ⟨i, hi, e⟩ := List.mem_map.mp h
  exact ⟨i, List.mem_range.mp hi, e.symm⟩
theorem tab_perm {ns ms : List Int} (h : ns.Perm ms) (g : Nat) : tab ns g = tab ms g := by
  unfold tab ct
  congr 1
  funext i
  exact perm_sum (h.map _)
theorem ct_snoc1 {ns : List Int} {s : Int} : ct (ns ++ [1]) s = ct ns s + 1 := by
  simp [ct, List.sum_append]
theorem pw_perm_eq {xs ys : List Int} (h : xs.Perm ys) (hx : xs.Pairwise (· ≥ ·)) (hy : ys.Pairwise (· ≥ ·)) : xs = ys :=
  List.Perm.eq_of_pairwise (fun a b _ _ h1 h2 => by omega) hx hy h
theorem rev_desc {xs : List Int} (h : xs.Pairwise (· ≤ ·)) : xs.reverse.Pairwise (· ≥ ·) := List.pairwise_reverse.mpr h
/-! ### factorials, binomials -/
def fac : Nat → Nat
  | 0 => 1
  | n + 1 => (n + 1) * fac n
theorem fac_pos : ∀ n, 0 < fac n
  | 0 => by decide
  | n + 1 => Nat.mul_pos (Nat.succ_pos n) (fac_pos n)
/-- the binomial of p + j over j -/
def cb : Nat → Nat → Nat
  | _, 0 => 1
  | 0, _ + 1 => 1
  | p + 1, j + 1 => cb p (j + 1) + cb (p + 1) j
theorem cb_fac : ∀ p j : Nat, cb p j * (fac p * fac j) = fac (p + j)
  | p, 0 => by
    cases p <;> simp [cb, fac]
  | 0, j + 1 => by simp [cb, fac]
  | p + 1, j + 1 => by
    have h1 := cb_fac p (j + 1)
    have h2 := cb_fac (p + 1) j
    have e0 : cb (p + 1) (j + 1) = cb p (j + 1) + cb (p + 1) j := by rw [cb]
    rw [e0]
    show (cb p (j + 1) + cb (p + 1) j) * (((p + 1) * fac p) * ((j + 1) * fac j)) = fac (p + 1 + (j + 1))
    have e1 : cb p (j + 1) * (((p + 1) * fac p) * ((j + 1) * fac j)) = (p + 1) * (cb p (j + 1) * (fac p * fac (j + 1))) := by
      show _ = (p + 1) * (cb p (j + 1) * (fac p * ((j + 1) * fac j)))
      simp only [Nat.mul_comm, Nat.mul_left_comm, Nat.mul_assoc]
    have e2 : cb (p + 1) j * (((p + 1) * fac p) * ((j + 1) * fac j)) = (j + 1) * (cb (p + 1) j * (fac (p + 1) * fac j)) := by
      show _ = (j + 1) * (cb (p + 1) j * (((p + 1) * fac p) * fac j))
      simp only [Nat.mul_comm, Nat.mul_left_comm, Nat.mul_assoc]
    rw [Nat.add_mul, e1, e2, h1, h2]
    have e3 : p + (j + 1) = p + j + 1 := by omega
    have e4 : p + 1 + j = p + j + 1 := by omega
    have e5 : p + 1 + (j + 1) = (p + j + 1) + 1 := by omega
    rw [e3, e4, e5]
    show _ = ((p + j + 1) + 1) * fac (p + j + 1)
    rw [← Nat.add_mul, show p + 1 + (j + 1) = p + j + 1 + 1 by omega]
theorem cb_succ (p j : Nat) : cb p (j + 1) * (j + 1) = cb p j * (p + j + 1) := by
  have h1 := cb_fac p (j + 1)
  have h2 := cb_fac p j
  have hp : 0 < fac p * fac j := Nat.mul_pos (fac_pos p) (fac_pos j)
  refine Nat.eq_of_mul_eq_mul_right hp ?_
  have e1 : cb p (j + 1) * (j + 1) * (fac p * fac j) = cb p (j + 1) * (fac p * fac (j + 1)) := by
    show _ = cb p (j + 1) * (fac p * ((j + 1) * fac j))
    simp only [Nat.mul_comm, Nat.mul_left_comm, Nat.mul_assoc]
  have e2 : cb p j * (p + j + 1) * (fac p * fac j) = (p + j + 1) * (cb p j * (fac p * fac j)) := by
    simp only [Nat.mul_comm, Nat.mul_left_comm, Nat.mul_assoc]
  rw [e1, e2, h1, h2]
  rfl
theorem fac_le : ∀ n, n ≤ 200 → fac n ≤ 2 ^ (8 * n)
  | 0, _ => by decide
  | n + 1, h => by
    have ih := fac_le n (by omega)
    have e : (2 : Nat) ^ (8 * (n + 1)) = 256 * 2 ^ (8 * n) := by rw [Nat.mul_add, Nat.pow_add, Nat.mul_comm]
    rw [e]
    exact Nat.mul_le_mul (by omega) ih
/-- the run of count_books over the tuples: how many are placed, the number found -/
def run1 (st : Nat × Nat) (l : Int × Int) : Nat × Nat := (st.1 + l.2.toNat, st.2 * cb st.1 l.2.toNat)
def runs (ls : List (Int × Int)) : Nat × Nat := ls.foldl run1 (0, 1)
theorem runs_snoc (ls : List (Int × Int)) (l : Int × Int) : runs (ls ++ [l]) = run1 (runs ls) l := by simp [runs]
def facs (ls : List (Int × Int)) : Nat := (ls.map fun l => fac l.2.toNat).foldr (· * ·) 1
theorem runs_go : ∀ (ls : List (Int × Int)) (st : Nat × Nat) (P : Nat), st.2 * P = fac st.1 → (ls.foldl run1 st).2 * (P * facs ls) = fac (ls.foldl run1 st).1
  | [], st, P, h => by simpa [facs] using h
  | l :: ls, st, P, h => by
    have ih := runs_go ls (run1 st l) (P * fac l.2.toNat) (by
      show st.2 * cb st.1 l.2.toNat * (P * fac l.2.toNat) = fac (st.1 + l.2.toNat)
      rw [← cb_fac, ← h]
      simp only [Nat.mul_comm, Nat.mul_left_comm, Nat.mul_assoc])
    rw [List.foldl_cons]
    rw [← ih]
    show _ * (P * (fac l.2.toNat * facs ls)) = _ * (P * fac l.2.toNat * facs ls)
    rw [Nat.mul_assoc P]
theorem runs_fac (ls : List (Int × Int)) : (runs ls).2 * facs ls = fac (runs ls).1 := by
  have := runs_go ls (0, 1) 1 rfl
  simpa [runs] using this
theorem runs_len (ls : List (Int × Int)) : (runs ls).1 = (expand ls).length := by
  have go : ∀ (ls : List (Int × Int)) (st : Nat × Nat), (ls.foldl run1 st).1 = st.1 + (expand ls).length := by
    intro ls
    induction ls with
    | nil => intro st; simp [expand]
    | cons l ls ih =>
      intro st
      rw [List.foldl_cons, ih]
      show st.1 + l.2.toNat + _ = _
      have e : expand (l :: ls) = List.replicate l.2.toNat l.1 ++ expand ls := by simp [expand]
      rw [e, List.length_append, List.length_replicate]
      omega
  have := go ls (0, 1)
  simpa [runs] using this
theorem facs_pos : ∀ ls : List (Int × Int), 0 < facs ls
  | [] => by decide
  | l :: ls => Nat.mul_pos (fac_pos _) (facs_pos ls)
theorem runs_le (ls : List (Int × Int)) : (runs ls).2 ≤ fac (runs ls).1 := by
  rw [← runs_fac]
  exact Nat.le_mul_of_pos_right _ (facs_pos ls)
theorem cb_le (F P j : Nat) (h : F ≤ fac P) (hj : P + j ≤ 200) : F * cb P j ≤ 2 ^ 1600 := by
  have h1 : F * cb P j ≤ fac P * cb P j := Nat.mul_le_mul_right _ h
  have h2 : fac P * cb P j ≤ fac (P + j) := by
    rw [← cb_fac]
    have h3 : fac P * cb P j * 1 ≤ fac P * cb P j * fac j := Nat.mul_le_mul_left _ (fac_pos j)
    have e : cb P j * (fac P * fac j) = fac P * cb P j * fac j := by simp only [Nat.mul_comm, Nat.mul_left_comm, Nat.mul_assoc]
    omega
  have h4 := fac_le (P + j) hj
  have h5 : (2 : Nat) ^ (8 * (P + j)) ≤ 2 ^ 1600 := Nat.pow_le_pow_right (by decide) (by omega)
  exact Nat.le_trans h1 (Nat.le_trans h2 (Nat.le_trans h4 h5))
theorem count_mul (F P j : Nat) (h : F ≤ fac P) (hj : P + j < 200) : CMulW ((F * cb P j : Nat) : Int) ((P : Int) + j + 1) := by
  refine cmulW (a := 1601) (b := 10) ?_ ?_ (by decide) (by decide) (by decide)
  · have := cb_le F P j h (by omega)
    rw [Int.natAbs_natCast]
    exact Nat.lt_of_le_of_lt this (Nat.pow_lt_pow_right (by decide) (by decide))
  · omega
theorem count_div (F P j : Nat) : ((F * cb P j : Nat) : Int) * ((P : Int) + j + 1) / (0 + (j : Int) + 1) = ((F * cb P (j + 1) : Nat) : Int) := by
  have e : F * cb P j * (P + j + 1) = F * cb P (j + 1) * (j + 1) := by rw [Nat.mul_assoc, ← cb_succ, Nat.mul_assoc]
  have e2 : ((F * cb P j : Nat) : Int) * ((P : Int) + j + 1) = ((F * cb P (j + 1) : Nat) : Int) * (0 + (j : Int) + 1) := by
    rw [show (0 : Int) + j + 1 = (j : Int) + 1 by omega]
    exact_mod_cast e
  rw [e2, Int.mul_ediv_cancel _ (by omega)]
def spCount (K : PySem.W.Frag) : Sp := fun vs H Q _ => ∃ (p : Addr) (ns : List Int) (g : Nat), vs = [.ref p] ∧ H p = some (.lst ((tab ns g).map V.int)) ∧ g ≤ 100000 ∧ ns.length ≤ 150 ∧ (∀ x ∈ ns, 1 ≤ x ∧ x ≤ g) ∧
  ∀ (ls : List (Int × Int)) (H' : Hp), Fr [] H H' → TimesOf ns 0 ls → Q (.int (runs ls).2) H'
theorem kb_count_books_table : KB0 "count_books" "count_books" s_count_books ["table"] ["table"] 0 [0] := fun _ _ _ _ _ _ us ws hu hw => match us, ws, hu, hw with | [], [_], _, _ => rfl
set_option maxHeartbeats 4000000 in
theorem ok_count_books (T : Txt K mg c) : DefAt P w K mg base "count_books" s_count_books 3 ["table"] (spCount K) := by
  have D_times_of := ok_times_of (P := P) (w := w) (base := base) T
  refine T.f_count_books.ok sc_count_books (fun vs H Q E h => ?_) (fun _ _ _ _ _ _ us hl => match us, hl with | [_], _ => rfl) (fun f cdv A outer s H vs Q E hr h => ?_)
  · obtain ⟨p, ns, g, rfl, hp, hg, hl, hn, q⟩ := h
    rfl
  · obtain ⟨p, ns, g, rfl, hp, hg, hl, hn, q⟩ := h
    refine ⟨_, (pss_cons (ps_set (i := 1) sc_count_books.nd rfl (Or.inl rfl) pe_int)
    (pss_cons (ps_set (i := 2) sc_count_books.nd rfl (Or.inl rfl) pe_int)
    (pss_cons (ps_for PassesOwn.never rfl (pi_list (pe_callD D_times_of (hr.mono (by decide)) (pa_cons (pv 0) pa_nil))) (pg_tup rfl (pgs_cons (pg_name (i := 3) sc_count_books.nd rfl (Or.inl rfl)) (pgs_cons (pg_name (i := 4) sc_count_books.nd rfl (Or.inl rfl)) pgs_nil))) (pss_one (ps_for PassesOwn.never rfl (pi_range1 (by rfl) T.n_range (pa_cons (pv 4) pa_nil)) (pg_name (i := 5) sc_count_books.nd rfl (Or.inl rfl)) (pss_cons (ps_aug (i := 2) sc_count_books.nd rfl (Or.inl rfl) pe_int ip_add)
    (pss_one (ps_set (i := 1) sc_count_books.nd rfl (Or.inl rfl) (pe_op op_fdivW (pe_op op_mulW (pv 1) (pv 2)) (pe_op op_add (pv 5) pe_int))))))))
    (pss_one (ps_ret (pv 1)))))), ?_⟩
    refine w_start (σ' := [some (.ref p), none, none, none, none, none]) rfl ?_
    walk_at "g"
    refine ⟨p, ns, g, rfl, hp, hg, by omega, hn, fun T ps ls H2 f2 nT hT hps hls => ?_⟩
    have hperm := hls.perm fun x hx => (hn x hx).1
    have hlen := hperm.length_eq
    walk_at "g"
    refine f_list (ps.map V.ref) (fun i σ' H' => ∃ o1 o2 o3 : Option V, σ' = [some (.ref p), some (.int (runs (ls.take i)).2), some (.int (runs (ls.take i)).1), o1, o2, o3] ∧ H' = H2) ⟨none, none, none, rfl, rfl⟩ ?_ ?_ ?_
    · rintro i σ' H' hi ⟨o1, o2, o3, rfl, rfl⟩
      exact SqL.of hT
    · rintro i x σ' H' hx ⟨o1, o2, o3, rfl, rfl⟩
      obtain ⟨t, ht, rfl⟩ := map_at' hx
      have hil := (List.getElem?_eq_some_iff.mp ht).1
      obtain ⟨l, hl2⟩ : ∃ l, ls[i]? = some l := by
        have h : i < ls.length := by rw [← hps.1]; exact hil
        exact ⟨_, List.getElem?_eq_getElem h⟩
      have hlm := List.mem_of_getElem? hl2
      have htup := hps.2 i t l ht hl2
      have hpos := hls.pos l hlm
      have tk : ls.take (i + 1) = ls.take i ++ [l] := by rw [List.take_succ, hl2]; rfl
      have hexp := expand_take_le (ls := ls) (i + 1)
      rw [tk] at hexp
      have hlen2 := hexp
      rw [expand_snoc, List.length_append, List.length_replicate] at hlen2
      have r1 := runs_len (ls.take i)
      have r2 := runs_le (ls.take i)
      refine w_gTup (SqT.of htup) rfl ?_
      walk_at "g"
      rw [tk, runs_snoc]
      obtain ⟨P, F, hPF⟩ : ∃ P F, runs (ls.take i) = (P, F) := ⟨_, _, rfl⟩
      rw [hPF] at r1 r2 ⊢
      have r1 : P = (expand (ls.take i)).length := r1
      have r2 : F ≤ fac P := r2
      refine f_range (fun j σ' H'' => ∃ o : Option V, σ' = [some (.ref p), some (.int (F * cb P j : Nat)), some (.int ((P : Int) + j)), some (.int l.1), some (.int l.2), o] ∧ H'' = H') ⟨o3, by simp [cb], rfl⟩ ?_ ?_
      · rintro j σ' H'' hj ⟨o, rfl, rfl⟩
        have hm := count_mul F P j r2 (by omega)
        have hd := count_div F P j
        walk_at "g"
        rw [hd]
        refine ⟨some (.int (0 + ↑j)), ?_, rfl⟩
        rw [show (P : Int) + (j + 1 : Nat) = (P : Int) + j + 1 by omega]
        rfl
      · rintro σ' H'' ⟨o, rfl, rfl⟩
        refine ⟨some (.int l.1), some (.int l.2), o, ?_, rfl⟩
        show _ = [some (V.ref p), some (V.int ((F * cb P l.2.toNat : Nat) : Int)), some (V.int ((P + l.2.toNat : Nat) : Int)), some (V.int l.1), some (V.int l.2), o]
        rw [show ((P + l.2.toNat : Nat) : Int) = (P : Int) + l.2.toNat by omega]
    · rintro σ' H' ⟨o1, o2, o3, rfl, rfl⟩
      rw [List.length_map, hps.1, List.take_length]
      walk_at "g"
      exact q ls _ f2 hls
def spCounted (K : PySem.W.Frag) : Sp := fun vs H Q _ => ∃ (p : Addr) (ns : List Int) (s : Int), vs = [.ref p, .int s] ∧ H p = some (.lst (ns.map V.int)) ∧ ns.length ≤ 1000 ∧ 0 < s ∧ s < 2 ^ 390 ∧ ∀ H', Fr [] H H' → Q (.int (ct ns s)) H'
def spSome : Sp := fun vs H Q _ => ∃ (a : Addr) (k m l : Int), vs = [.ref a, .int m, .int l] ∧ Rng H a k ∧ 0 ≤ m ∧ m ≤ 100 ∧ 1 ≤ l ∧ l < 2 ^ 200 ∧ k < 2 ^ 38 ∧
  ∀ (p : Addr) (xs : List Int) (k' : Int) (H' : Hp), xs.length ≤ m.toNat → (∀ x ∈ xs, 1 ≤ x ∧ x ≤ l) → k' ≤ k + 1000 → Rng H' a k' → Fr [a] H H' → H p = none → H' p = some (.lst (xs.map V.int)) → Q (.ref p) H'
set_option maxHeartbeats 4000000 in
theorem ok_law_counted (T : Txt K mg c) : DefAt P w K mg base "_law_counted" s_law_counted 1 ["some", "wide"] (spCounted K) := by
  refine T.f_law_counted.ok sc_law_counted (fun vs H Q E h => ?_) (fun _ _ _ _ _ _ us hl => match us, hl with | [_, _], _ => rfl) (fun f cdv A outer s H vs Q E hr h => ?_)
  · obtain ⟨p, ns, n, rfl, hp, hl, n0, n1, q⟩ := h
    rfl
  · obtain ⟨p, ns, n, rfl, hp, hl, n0, n1, q⟩ := h
    refine ⟨_, (pss_one (ps_ret (pe_callB (cr_sum rfl) (by rfl) T.n_sum (by decide +kernel) (pa_cons (pe_lc (own := [("one", 2)]) (tt := tYes) rfl sc_law_counted.nd (pi_list (pv 0)) (blkOk_by (N := sc_law_counted_N) (sc := defScope s_law_counted) (by decide +kernel)) (fun _ _ _ _ _ => (pg_name (i := 2) sc_law_counted.nd rfl (Or.inl rfl))) (fun _ _ _ _ _ => pts_nil) (fun _ _ _ _ _ => (pe_op op_add (pe_op op_fdivW (pe_op op_sub (pv 2) pe_int) (pv 1)) pe_int))) pa_nil)))), ?_⟩
    refine w_start (σ' := [some (.ref p), some (.int n), none]) rfl ?_
    walk_at "g"
    refine l_map ns (fun x => (x - 1) / n + 1) (SqL.of hp) (fun _ => rfl) (by omega) (fun i l H2 hi f2 Q2 k2 => ?_) (fun L H2 hL f2 h2 => ?_)
    · walk_at "g"
      exact k2 _ Fr.refl
    · walk_at "g"
      exact q _ f2
set_option maxHeartbeats 4000000 in
theorem ok_law_some (T : Txt K mg c) : DefAt P w K mg base "_law_some" s_law_some 2 ["rng", "most", "longest"] spSome := by
  have D_law_draw := ok_law_draw (P := P) (w := w) (base := base) T
  refine T.f_law_some.ok sc_law_some (fun vs H Q E h => ?_) (fun _ _ _ _ _ _ us hl => match us, hl with | [_, _, _], _ => rfl) (fun f cdv A outer s H vs Q E hr h => ?_)
  · obtain ⟨a, k, m, l, rfl, hp, m0, m1, l0, l1, k1, q⟩ := h
    rfl
  · obtain ⟨a, k, m, l, rfl, hp, m0, m1, l0, l1, k1, q⟩ := h
    refine ⟨_, (pss_cons (ps_par (i := 3) (j := 4) rfl sc_law_some.nd rfl rfl (by decide) rfl rfl (pa_cons (pe_callD D_law_draw (hr.mono (by decide)) (pa_cons (pv 0) (pa_cons pe_int pa_nil))) (pa_cons (pe_lst pa_nil) pa_nil)) (by rfl))
    (pss_cons (ps_for PassesOwn.never rfl (pi_range1 (by rfl) T.n_range (pa_cons (pe_callD D_law_draw (hr.mono (by decide)) (pa_cons (pv 0) (pa_cons (pe_op op_add (pv 1) pe_int) pa_nil))) pa_nil)) (pg_name (i := 5) sc_law_some.nd rfl (Or.inl rfl)) (pss_cons (ps_set (i := 6) sc_law_some.nd rfl (Or.inl rfl) (pe_lst (pa_cons (pe_op op_add pe_int (pe_callD D_law_draw (hr.mono (by decide)) (pa_cons (pv 0) (pa_cons pe_int pa_nil)))) (pa_cons (pe_op op_sub (pv 2) (pe_callD D_law_draw (hr.mono (by decide)) (pa_cons (pv 0) (pa_cons pe_int pa_nil)))) (pa_cons (pe_op op_add (pe_op op_add pe_int (pe_op op_fdivW (pv 2) pe_int)) (pe_callD D_law_draw (hr.mono (by decide)) (pa_cons (pv 0) (pa_cons pe_int pa_nil)))) pa_nil)))))
    (pss_cons (ps_set (i := 7) sc_law_some.nd rfl (Or.inl rfl) (pe_ix ix_list (pe_op op_cat (pv 6) (pe_lst (pa_cons (pe_op op_add pe_int (pe_callD D_law_draw (hr.mono (by decide)) (pa_cons (pv 0) (pa_cons (pv 2) pa_nil)))) pa_nil))) (pe_ifExp (pt_cmpR op_gt (pe_callD D_law_draw (hr.mono (by decide)) (pa_cons (pv 0) (pa_cons pe_int pa_nil))) pe_int (nomark _)) (pv 3) pe_int) (fun _ _ => rfl)))
    (pss_one (ps_expr (pe_bm PySem.F.plainAttrs_list PySem.F.slot_list_append PySem.F.type_list_append mt_append (pv 4) (pa_cons (pe_callB (call_max2N rfl) (by rfl) T.n_max (by decide +kernel) (pa_cons pe_int (pa_cons (pe_callB (call_min2N rfl) (by rfl) T.n_min (by decide +kernel) (pa_cons (pv 2) (pa_cons (pv 7) pa_nil))) pa_nil))) pa_nil)))))))
    (pss_one (ps_ret (pv 4))))), ?_⟩
    refine w_start (σ' := [some (.ref a), some (.int m), some (.int l), none, none, none, none, none]) rfl ?_
    walk_at "g"
    rename_i r1 k2 H2 r10 r11 hk2 hp2 f2 p np r2 k3 H3 r20 r21 hk3 hp3 f3
    refine f_range (fun i σ' H' => ∃ (u v w : Option V) (xs : List Int) (k4 : Int), σ' = [some (.ref a), some (.int m), some (.int l), some (.int r1), some (.ref p), u, v, w] ∧ Rng H' a k4 ∧ k4 ≤ k + 2 + 6 * i ∧ Fr [a] H H' ∧ H' p = some (.lst (xs.map V.int)) ∧ xs.length = i ∧ ∀ x ∈ xs, 1 ≤ x ∧ x ≤ l) ?_ ?_ ?_
    · exact ⟨none, none, none, [], k3, rfl, hp3, by omega, by walk_at "F", (by walk_at "H" : H3 p = some (.lst [])), rfl, by simp⟩
    · rintro i σ' H' hi ⟨u, v, w, xs, k4, rfl, hp4, hk4, f4, h4, hl4, hx4⟩
      walk_at "g"
      refine w_ite (fun h => ?_) (fun h => ?_)
      · walk_at "g"
        exact ⟨_, _, _, _, _, rfl, by walk_at "P", by omega, by walk_at "F", upd_same, len_snoc hl4, mem_snoc hx4 ⟨by (repeat' split) <;> omega, by (repeat' split) <;> omega⟩⟩
      · walk_at "g"
        exact ⟨_, _, _, _, _, rfl, by walk_at "P", by omega, by walk_at "F", upd_same, len_snoc hl4, mem_snoc hx4 ⟨by (repeat' split) <;> omega, by (repeat' split) <;> omega⟩⟩
    · rintro σ' H' ⟨u, v, w, xs, k4, rfl, hp4, hk4, f4, h4, hl4, hx4⟩
      walk_at "g"
      exact q p xs k4 H' (by omega) hx4 (by omega) hp4 f4 (by walk_at "Z") h4
/-! ### the number of orders -/
def facP (r : Int → Nat) (ks : List Int) : Nat := (ks.map fun k => fac (r k)).foldr (· * ·) 1
def sumP (r : Int → Nat) (ks : List Int) : Nat := (ks.map r).sum
/-- the multinomial of the counts r over the keys ks -/
def mulN (r : Int → Nat) (ks : List Int) : Nat := (runs (ks.map fun k => (k, (r k : Int)))).2
theorem facP_cons (r : Int → Nat) (k : Int) (ks : List Int) : facP r (k :: ks) = fac (r k) * facP r ks := rfl
theorem sumP_cons (r : Int → Nat) (k : Int) (ks : List Int) : sumP r (k :: ks) = r k + sumP r ks := by simp [sumP]
theorem facP_pos (r : Int → Nat) : ∀ ks : List Int, 0 < facP r ks
  | [] => Nat.one_pos
  | k :: ks => Nat.mul_pos (fac_pos _) (facP_pos r ks)
theorem mulN_fac (r : Int → Nat) (ks : List Int) : mulN r ks * facP r ks = fac (sumP r ks) := by
  have h := runs_fac (ks.map fun k => (k, (r k : Int)))
  rw [runs_len] at h
  have e1 : facs (ks.map fun k => (k, (r k : Int))) = facP r ks := by
    unfold facs facP
    rw [List.map_map]
    rfl
  have e2 : (expand (ks.map fun k => (k, (r k : Int)))).length = sumP r ks := by
    induction ks with
    | nil => rfl
    | cons k ks ih =>
      rw [sumP_cons]
      simp only [expand, List.map_cons, List.flatten_cons, List.length_append, List.length_replicate] at ih ⊢
      have := ih (runs_fac _ |> fun h => by rw [runs_len] at h; exact h) (by unfold facs facP; rw [List.map_map]; rfl)
      simp only [List.map_map] at this ⊢
      omega
  rw [e1, e2] at h
  exact h
theorem mulN_uniq {r : Int → Nat} {ks : List Int} {m : Nat} (h : m * facP r ks = fac (sumP r ks)) : m = mulN r ks :=
  Nat.eq_of_mul_eq_mul_right (facP_pos r ks) (h.trans (mulN_fac r ks).symm)
theorem mulN_pos (r : Int → Nat) (ks : List Int) : 0 < mulN r ks := by
  rcases Nat.eq_zero_or_pos (mulN r ks) with z | z
  · have h := mulN_fac r ks
    rw [z, Nat.zero_mul] at h
    have := fac_pos (sumP r ks)
    omega
  · exact z
theorem mulN_zero {r : Int → Nat} {ks : List Int} (h : sumP r ks = 0) : mulN r ks = 1 := by
  have h2 := mulN_fac r ks
  rw [h] at h2
  exact Nat.eq_one_of_mul_eq_one_right h2
/-- one less of k -/
def dec (r : Int → Nat) (k : Int) : Int → Nat := fun j => if j = k then r j - 1 else r j
theorem dec_off {r : Int → Nat} {k : Int} {ks : List Int} (h : k ∉ ks) : facP (dec r k) ks = facP r ks ∧ sumP (dec r k) ks = sumP r ks := by
  have e : ks.map (dec r k) = ks.map r := List.map_congr_left fun j hj => by
    unfold dec
    rw [if_neg (fun e : j = k => h (e ▸ hj))]
  have e2 : (ks.map fun j => fac (dec r k j)) = ks.map fun j => fac (r j) := List.map_congr_left fun j hj => by
    unfold dec
    rw [if_neg (fun e : j = k => h (e ▸ hj))]
  unfold facP sumP
  rw [e, e2]
  exact ⟨rfl, rfl⟩
theorem fac_dec {n : Nat} (h : 0 < n) : n * fac (n - 1) = fac n := by
  match n, h with
  | n + 1, _ => rfl
theorem dec_on {r : Int → Nat} {k : Int} (h0 : 0 < r k) : ∀ {ks : List Int}, ks.Nodup → k ∈ ks → facP (dec r k) ks * r k = facP r ks ∧ sumP (dec r k) ks + 1 = sumP r ks
  | [], _, hm => by cases hm
  | j :: ks, hn, hm => by
    obtain ⟨n1, n2⟩ := List.nodup_cons.mp hn
    rw [facP_cons, facP_cons, sumP_cons, sumP_cons]
    by_cases e : j = k
    · subst e
      obtain ⟨d1, d2⟩ := dec_off (r := r) n1
      have e1 : dec r j j = r j - 1 := by simp [dec]
      rw [d1, d2, e1]
      have hf := fac_dec h0
      refine ⟨?_, by omega⟩
      rw [← hf]
      simp only [Nat.mul_comm, Nat.mul_left_comm, Nat.mul_assoc]
    · obtain ⟨d1, d2⟩ := dec_on (r := r) (k := k) h0 n2 ((List.mem_cons.mp hm).resolve_left (Ne.symm e))
      have e1 : dec r k j = r j := by simp [dec, e]
      rw [e1, ← d1]
      exact ⟨by rw [Nat.mul_assoc], by omega⟩
theorem sum_scale {ks : List Int} {f g : Int → Nat} {P c : Nat} (h : ∀ k ∈ ks, f k * P = c * g k) : (ks.map f).sum * P = c * (ks.map g).sum := by
  induction ks with
  | nil => simp
  | cons k ks ih =>
    rw [List.map_cons, List.map_cons, List.sum_cons, List.sum_cons, Nat.add_mul, Nat.mul_add, ih fun j hj => h j (List.mem_cons_of_mem _ hj), h k List.mem_cons_self]
theorem sum_filter (r : Int → Nat) (ks : List Int) : ((ks.filter fun k => decide (0 < r k)).map r).sum = sumP r ks := by
  induction ks with
  | nil => rfl
  | cons k ks ih =>
    rw [sumP_cons]
    by_cases h : 0 < r k
    · rw [List.filter_cons_of_pos (by simpa using h), List.map_cons, List.sum_cons, ih]
    · rw [List.filter_cons_of_neg (by simpa using h), ih, show r k = 0 by omega, Nat.zero_add]
theorem mulN_step {r : Int → Nat} {ks : List Int} (hn : ks.Nodup) (h : 0 < sumP r ks) : ((ks.filter fun k => decide (0 < r k)).map fun k => mulN (dec r k) ks).sum = mulN r ks := by
  refine mulN_uniq ?_
  have e : ∀ k ∈ ks.filter (fun k => decide (0 < r k)), mulN (dec r k) ks * facP r ks = fac (sumP r ks - 1) * r k := fun k hk => by
    obtain ⟨h1, h2⟩ := List.mem_filter.mp hk
    obtain ⟨d1, d2⟩ := dec_on (of_decide_eq_true h2) hn h1
    have h3 := mulN_fac (dec r k) ks
    rw [← d1, ← Nat.mul_assoc, h3, show sumP (dec r k) ks = sumP r ks - 1 by omega]
  rw [sum_scale e, sum_filter, Nat.mul_comm]
  exact fac_dec h
/-- how often each is still to come behind a row -/
def rem (xs row : List Int) : Int → Nat := fun k => xs.count k - row.count k
theorem rem_snoc (xs row : List Int) (k : Int) : rem xs (row ++ [k]) = dec (rem xs row) k := by
  funext j
  unfold rem dec
  rw [List.count_append]
  by_cases e : j = k
  · subst e
    rw [if_pos rfl, List.count_singleton_self]
    exact (Nat.sub_sub _ _ _).symm
  · rw [if_neg e, List.count_singleton]
    have : (k == j) = false := by simpa using Ne.symm e
    rw [this]
    simp
theorem sumP_nil (ks : List Int) : sumP (fun k => ([] : List Int).count k) ks = 0 := by
  unfold sumP
  induction ks with
  | nil => rfl
  | cons k ks ih =>
    rw [List.map_cons, List.sum_cons, ih]
    rfl
theorem sumP_count : ∀ {ks : List Int} (l : List Int), ks.Nodup → (∀ x ∈ l, x ∈ ks) → sumP (fun k => l.count k) ks = l.length
  | ks, [], _, _ => sumP_nil ks
  | ks, x :: l, hn, hl => by
    have ih := sumP_count l hn fun y hy => hl y (List.mem_cons_of_mem _ hy)
    have hx := hl x List.mem_cons_self
    have d := (dec_on (r := fun k => (x :: l).count k) (k := x) (by simp) hn hx).2
    have e : dec (fun k => (x :: l).count k) x = fun k => l.count k := by
      funext j
      unfold dec
      by_cases e : j = x
      · subst e
        simp
      · rw [if_neg e]
        exact List.count_cons_of_ne (Ne.symm e)
    rw [e, ih] at d
    rw [List.length_cons]
    omega
theorem sumP_rem {ks xs row : List Int} (hn : ks.Nodup) (hx : ∀ x ∈ xs, x ∈ ks) (hr : ∀ k, row.count k ≤ xs.count k) : sumP (rem xs row) ks + row.length = xs.length := by
  have hm : ∀ x ∈ row, x ∈ ks := fun x h => hx x (List.count_pos_iff.mp (Nat.lt_of_lt_of_le (List.count_pos_iff.mpr h) (hr x)))
  rw [← sumP_count row hn hm, ← sumP_count xs hn hx]
  unfold sumP rem
  clear hm hx hn
  induction ks with
  | nil => rfl
  | cons k ks ih =>
    simp only [List.map_cons, List.sum_cons]
    have := hr k
    omega
/-- the rows, one longer -/
def moreOf (xs ks row : List Int) : List (List Int) := (ks.filter fun k => decide (row.count k < xs.count k)).map fun k => row ++ [k]
def rowsN (xs ks : List Int) : Nat → List (List Int)
  | 0 => [[]]
  | i + 1 => ((rowsN xs ks i).map (moreOf xs ks)).flatten
def tot (xs ks : List Int) (rows : List (List Int)) : Nat := (rows.map fun row => mulN (rem xs row) ks).sum
theorem tot_append (xs ks : List Int) (a b : List (List Int)) : tot xs ks (a ++ b) = tot xs ks a + tot xs ks b := by simp [tot]
theorem tot_more {xs ks row : List Int} (hn : ks.Nodup) (hx : ∀ x ∈ xs, x ∈ ks) (hr : ∀ k, row.count k ≤ xs.count k) (hl : row.length < xs.length) : tot xs ks (moreOf xs ks row) = mulN (rem xs row) ks := by
  have hs := sumP_rem hn hx hr
  rw [← mulN_step hn (by omega)]
  unfold tot moreOf
  rw [List.map_map]
  have e : (fun k => decide (row.count k < xs.count k)) = fun k => decide (0 < rem xs row k) := by
    funext k
    unfold rem
    exact decide_eq_decide.mpr (by omega)
  rw [e]
  refine congrArg List.sum (List.map_congr_left fun k _ => ?_)
  show mulN (rem xs (row ++ [k])) ks = _
  rw [rem_snoc]
theorem more_ok {xs ks row row' : List Int} (h : row' ∈ moreOf xs ks row) (hr : ∀ k, row.count k ≤ xs.count k) : row'.length = row.length + 1 ∧ ∀ k, row'.count k ≤ xs.count k := by
  obtain ⟨k, hk, rfl⟩ := List.mem_map.mp h
  have h2 := of_decide_eq_true (List.mem_filter.mp hk).2
  refine ⟨by simp, fun j => ?_⟩
  rw [List.count_append]
  by_cases e : j = k
  · subst e
    rw [List.count_singleton_self]
    omega
  · rw [List.count_singleton]
    have : (k == j) = false := by simpa using Ne.symm e
    rw [this]
    have := hr j
    simpa using this
theorem rows_ok (xs ks : List Int) : ∀ i, ∀ row ∈ rowsN xs ks i, row.length = i ∧ ∀ k, row.count k ≤ xs.count k
  | 0, row, h => by
    rw [rowsN, List.mem_singleton] at h
    subst h
    simp
  | i + 1, row, h => by
    rw [rowsN] at h
    obtain ⟨l, hl, hm⟩ := List.mem_flatten.mp h
    obtain ⟨r0, h0, rfl⟩ := List.mem_map.mp hl
    obtain ⟨h1, h2⟩ := rows_ok xs ks i r0 h0
    obtain ⟨h3, h4⟩ := more_ok hm h2
    exact ⟨by omega, h4⟩
theorem tot_rows {xs ks : List Int} (hn : ks.Nodup) (hx : ∀ x ∈ xs, x ∈ ks) : ∀ i, i ≤ xs.length → tot xs ks (rowsN xs ks i) = mulN (fun k => xs.count k) ks
  | 0, _ => by
    simp [tot, rowsN]
    exact congrArg (mulN · ks) (by funext k; simp [rem])
  | i + 1, h => by
    rw [← tot_rows hn hx i (by omega), rowsN]
    have go : ∀ rows : List (List Int), (∀ row ∈ rows, row.length = i ∧ ∀ k, row.count k ≤ xs.count k) → tot xs ks ((rows.map (moreOf xs ks)).flatten) = tot xs ks rows := by
      intro rows
      induction rows with
      | nil => intro _; rfl
      | cons row rows ih =>
        intro hr
        obtain ⟨h1, h2⟩ := hr row List.mem_cons_self
        rw [List.map_cons, List.flatten_cons, tot_append, ih fun r h => hr r (List.mem_cons_of_mem _ h), tot_more hn hx h2 (by omega)]
        simp [tot]
    exact go _ (rows_ok xs ks i)
theorem tot_ge (xs ks : List Int) (rows : List (List Int)) : rows.length ≤ tot xs ks rows := by
  induction rows with
  | nil => simp
  | cons row rows ih =>
    have := mulN_pos (rem xs row) ks
    simp only [tot, List.map_cons, List.sum_cons, List.length_cons] at ih ⊢
    omega
theorem mulN_le (r : Int → Nat) (ks : List Int) : mulN r ks ≤ fac (sumP r ks) := by
  rw [← mulN_fac]
  exact Nat.le_mul_of_pos_right _ (facP_pos r ks)
theorem fac_mono {m n : Nat} (h : m ≤ n) : fac m ≤ fac n := by
  induction n with
  | zero => rw [show m = 0 by omega]; exact Nat.le_refl _
  | succ n ih =>
    by_cases e : m = n + 1
    · rw [e]; exact Nat.le_refl _
    · have := ih (by omega)
      show fac m ≤ (n + 1) * fac n
      exact Nat.le_trans this (Nat.le_mul_of_pos_left _ (by omega))
theorem rows_le {xs ks : List Int} (hn : ks.Nodup) (hx : ∀ x ∈ xs, x ∈ ks) {i : Nat} (hi : i ≤ xs.length) : (rowsN xs ks i).length ≤ fac xs.length := by
  have h1 := tot_ge xs ks (rowsN xs ks i)
  rw [tot_rows hn hx i hi] at h1
  have h2 := mulN_le (fun k => xs.count k) ks
  rw [sumP_count xs hn hx] at h2
  omega
theorem rows_len {xs ks : List Int} (hn : ks.Nodup) (hx : ∀ x ∈ xs, x ∈ ks) : (rowsN xs ks xs.length).length = mulN (fun k => xs.count k) ks := by
  rw [← tot_rows hn hx xs.length (Nat.le_refl _)]
  have go : ∀ rows : List (List Int), (∀ row ∈ rows, row.length = xs.length ∧ ∀ k, row.count k ≤ xs.count k) → rows.length = tot xs ks rows := by
    intro rows
    induction rows with
    | nil => intro _; rfl
    | cons row rows ih =>
      intro hr
      obtain ⟨h1, h2⟩ := hr row List.mem_cons_self
      have hs := sumP_rem hn hx h2
      have hz := mulN_zero (show sumP (rem xs row) ks = 0 by omega)
      have := ih fun r h => hr r (List.mem_cons_of_mem _ h)
      simp only [tot, List.map_cons, List.sum_cons, List.length_cons] at this ⊢
      omega
  exact go _ (rows_ok xs ks _)
/-! ### Pascal's triangle -/
def ch : Nat → Nat → Nat
  | _, 0 => 1
  | 0, _ + 1 => 0
  | n + 1, k + 1 => ch n k + ch n (k + 1)
theorem ch_zero (n : Nat) : ch n 0 = 1 := by cases n <;> rfl
theorem ch_far : ∀ (n k : Nat), n < k → ch n k = 0
  | _, 0, h => absurd h (Nat.not_lt_zero _)
  | 0, k + 1, _ => rfl
  | n + 1, k + 1, h => by rw [ch, ch_far n k (by omega), ch_far n (k + 1) (by omega)]
theorem ch_one : ∀ n, ch n n = 1
  | 0 => rfl
  | n + 1 => by rw [ch, ch_one n, ch_far n (n + 1) (by omega)]
theorem ch_cb : ∀ p j : Nat, ch (p + j) j = cb p j
  | p, 0 => by rw [ch_zero]; cases p <;> simp [cb]
  | 0, j + 1 => by rw [Nat.zero_add, ch_one]; simp [cb]
  | p + 1, j + 1 => by
    have h1 := ch_cb (p + 1) j
    have h2 := ch_cb p (j + 1)
    rw [show p + 1 + (j + 1) = (p + 1 + j) + 1 by omega, ch, h1, show p + 1 + j = p + (j + 1) by omega, h2, cb]
    omega
theorem ch_fac {n k : Nat} (h : k ≤ n) : ch n k * fac k * fac (n - k) = fac n := by
  have e := ch_cb (n - k) k
  have f := cb_fac (n - k) k
  rw [show n - k + k = n by omega] at e f
  rw [e, ← f]
  simp only [Nat.mul_comm, Nat.mul_left_comm, Nat.mul_assoc]
/-- a row, as far as m -/
def pasc (m s : Nat) : List Int := (List.range (m + 1)).map fun j => (ch s j : Int)
theorem pasc_zero (m : Nat) : pasc m 0 = 1 :: List.replicate m 0 := by
  unfold pasc
  rw [List.range_succ_eq_map, List.map_cons, List.map_map]
  refine congrArg (List.cons (1 : Int)) (List.eq_replicate_iff.mpr ⟨by simp, fun x hx => ?_⟩)
  obtain ⟨j, _, rfl⟩ := List.mem_map.mp hx
  rfl
theorem pasc_succ (m s : Nat) : pasc m (s + 1) = 1 :: (List.range m).map fun j => (ch s j : Int) + ch s (j + 1) := by
  unfold pasc
  rw [List.range_succ_eq_map, List.map_cons, List.map_map]
  rw [ch_zero]
  refine congrArg (List.cons (1 : Int)) (List.map_congr_left fun j _ => ?_)
  show ((ch (s + 1) (j + 1) : Nat) : Int) = _
  rw [ch]
  omega
theorem pasc_at {m s j : Nat} (h : j ≤ m) : (pasc m s)[j]? = some (ch s j : Int) := by
  unfold pasc
  rw [List.getElem?_map, List.getElem?_range (by omega)]
  rfl
/-- what is due is the same in each way -/
theorem product_done {xs ks : List Int} {F : Nat} (hn : ks.Nodup) (hx : ∀ x ∈ xs, x ∈ ks) (h : F * facP (fun k => xs.count k) ks = fac xs.length) : F = mulN (fun k => xs.count k) ks := by
  refine mulN_uniq ?_
  rw [sumP_count xs hn hx]
  exact h
theorem facP_perm {r : Int → Nat} {as bs : List Int} (h : as.Perm bs) : facP r as = facP r bs := by
  induction h with
  | nil => rfl
  | cons x _ ih => rw [facP_cons, facP_cons, ih]
  | swap x y l => rw [facP_cons, facP_cons, facP_cons, facP_cons]; simp only [Nat.mul_left_comm]
  | trans _ _ ih1 ih2 => rw [ih1, ih2]
theorem times_due {xs ks : List Int} {ls : List (Int × Int)} (hn : ks.Nodup) (hk : ∀ k, k ∈ ks ↔ k ∈ xs) (hx : ∀ x ∈ xs, 1 ≤ x) (h : TimesOf xs 0 ls) (hp : (expand ls).Perm xs) : (runs ls).2 = mulN (fun k => xs.count k) ks := by
  refine product_done hn (fun x h => (hk x).mpr h) ?_
  have h1 := runs_fac ls
  rw [runs_len, hp.length_eq] at h1
  have e1 : facs ls = facP (fun k => xs.count k) (ls.map (·.1)) := by
    unfold facs facP
    rw [List.map_map]
    refine congrArg (List.foldr (· * ·) 1) (List.map_congr_left fun l hl => ?_)
    show fac l.2.toNat = fac (xs.count l.1)
    rw [h.cnt l hl]
    rfl
  have e2 : (ls.map (·.1)).Perm ks := by
    refine (List.perm_ext_iff_of_nodup ?_ hn).mpr fun a => ?_
    · refine List.Pairwise.map _ (fun a b (h : b.1 < a.1) e => ?_) h.desc
      omega
    · rw [hk]
      constructor
      · intro hm
        obtain ⟨l, hl, rfl⟩ := List.mem_map.mp hm
        have c1 := h.cnt l hl
        have c2 := h.pos l hl
        exact List.count_pos_iff.mp (by omega)
      · intro hm
        obtain ⟨l, hl, e⟩ := h.all a (by have := hx a hm; omega) hm
        exact List.mem_map.mpr ⟨l, hl, e⟩
  rw [e1, facP_perm e2] at h1
  exact h1
local macro_rules | `(tactic| walk_at "1") => `(tactic| with_reducible refine w_sortSet ?_)
/-- the number of orders -/
def Dn (xs : List Int) : Nat := mulN (fun k => xs.count k) (ksOf xs)
def spOrders (K : PySem.W.Frag) : Sp := fun vs H Q _ => ∃ (a : Addr) (xs : List Int), vs = [.ref a] ∧ H a = some (.lst (xs.map V.int)) ∧ xs.length ≤ 6 ∧ ∀ H', Fr [] H H' → Q (.int (Dn xs)) H'
def spProduct (K : PySem.W.Frag) : Sp := fun vs H Q _ => ∃ (a : Addr) (xs : List Int), vs = [.ref a] ∧ H a = some (.lst (xs.map V.int)) ∧ xs.length ≤ 100 ∧ ∀ H', Fr [] H H' → Q (.int (Dn xs)) H'
theorem fac6 {n : Nat} (h : n ≤ 6) : fac n ≤ 720 := Nat.le_trans (fac_mono h) (by decide)
theorem facP_snoc (r : Int → Nat) (ks : List Int) (k : Int) : facP r (ks ++ [k]) = facP r ks * fac (r k) := by
  rw [facP_perm (List.perm_append_comm (l₁ := ks) (l₂ := [k]))]
  show fac (r k) * facP r ks = _
  rw [Nat.mul_comm]
theorem sumP_snoc (r : Int → Nat) (ks : List Int) (k : Int) : sumP r (ks ++ [k]) = sumP r ks + r k := by simp [sumP]
theorem sumP_take_le (r : Int → Nat) (ks : List Int) (i : Nat) : sumP r (ks.take i) ≤ sumP r ks := by
  have h : sumP r ks = sumP r (ks.take i) + sumP r (ks.drop i) := by
    conv => lhs; rw [← List.take_append_drop i ks]
    unfold sumP
    rw [List.map_append, List.sum_append]
  omega
theorem prod_turn {F f m P N : Nat} (h : F * P * fac f = N) (hm : m ≤ f) : F * ch f m * (P * fac m) * fac (f - m) = N := by
  rw [← h, ← ch_fac hm]
  simp only [Nat.mul_comm, Nat.mul_left_comm, Nat.mul_assoc]
theorem big_mul {F f m n : Nat} (hn : n ≤ 100) (h1 : F ≤ fac n) (h2 : f ≤ n) (hm : m ≤ f) : CMulW ((F : Nat) : Int) ((ch f m : Nat) : Int) := by
  have hb : fac n < 2 ^ 801 := Nat.lt_of_le_of_lt (fac_le n (by omega)) (Nat.pow_lt_pow_right (by decide) (by omega))
  have h3 : ch f m ≤ fac f := by
    rw [← ch_fac hm, Nat.mul_assoc]
    exact Nat.le_mul_of_pos_right _ (Nat.mul_pos (fac_pos _) (fac_pos _))
  have h4 := fac_mono h2
  refine cmulW (a := 801) (b := 801) ?_ ?_ (by decide) (by decide) (by decide)
  · rw [Int.natAbs_natCast]
    omega
  · rw [Int.natAbs_natCast]
    omega
theorem pasc_len (m s : Nat) : (pasc m s).length = m + 1 := by simp [pasc]
theorem flat_le {f : List Int → List (List Int)} (rows : List (List Int)) (j : Nat) : (((rows.take j).map f).flatten).length ≤ ((rows.map f).flatten).length := by
  conv => rhs; rw [← List.take_append_drop j rows]
  rw [List.map_append, List.flatten_append, List.length_append]
  omega
/-- the part of the next rows that stems from the first i keys -/
def moreT (xs ks row : List Int) : List (List Int) := (ks.filter fun k => decide (row.count k < xs.count k)).map fun k => row ++ [k]
theorem moreT_snoc (xs ks row : List Int) (k : Int) : moreT xs (ks ++ [k]) row = moreT xs ks row ++ if row.count k < xs.count k then [row ++ [k]] else [] := by
  unfold moreT
  rw [List.filter_append, List.map_append]
  by_cases h : row.count k < xs.count k
  · rw [if_pos h, List.filter_cons_of_pos (by simpa using h)]
    rfl
  · rw [if_neg h, List.filter_cons_of_neg (by simpa using h)]
    rfl
set_option maxHeartbeats 4000000 in
theorem ok_law_orders (T : Txt K mg c) : DefAt P w K mg base "_law_orders" s_law_orders 1 ["some"] (spOrders K) := by
  refine T.f_law_orders.ok sc_law_orders (fun vs H Q E h => ?_) (fun _ _ _ _ _ _ us hl => match us, hl with | [_], _ => rfl) (fun f cdv A outer s H vs Q E hr h => ?_)
  · obtain ⟨a, xs, rfl, ha, hl, q⟩ := h
    rfl
  · obtain ⟨a, xs, rfl, ha, hl, q⟩ := h
    refine ⟨_, (pss_cons (ps_set (i := 1) sc_law_orders.nd rfl (Or.inl rfl) (pe_lst (pa_cons (pe_lst pa_nil) pa_nil)))
    (pss_cons (ps_for PassesOwn.never rfl (pi_range1 (by rfl) T.n_range (pa_cons (pe_callB call_lenN (by rfl) T.n_len (by decide +kernel) (pa_cons (pv 0) pa_nil)) pa_nil)) (pg_name (i := 2) sc_law_orders.nd rfl (Or.inl rfl)) (pss_cons (ps_set (i := 3) sc_law_orders.nd rfl (Or.inl rfl) (pe_lst pa_nil))
    (pss_cons (ps_for PassesOwn.never rfl (pi_list (pv 1)) (pg_name (i := 4) sc_law_orders.nd rfl (Or.inr rfl)) (pss_one (ps_expr (pe_bm PySem.F.plainAttrs_list PySem.F.slot_list_extend PySem.F.type_list_extend mt_extend (pv 3) (pa_cons (pe_lc (own := [("one", 5)])  rfl sc_law_orders.nd (pi_list (pe_sortSet (by rfl) T.n_sorted (by rfl) T.n_set (pv 0))) (blkOk_by (N := sc_law_orders_N) (sc := defScope s_law_orders) (by decide +kernel)) (fun _ _ _ _ _ => (pg_name (i := 5) sc_law_orders.nd rfl (Or.inl rfl))) (fun _ _ _ _ _ => (pts_one (pt_cmpR op_lt (kc_bm (K := K) (pe_bm PySem.F.plainAttrs_list PySem.F.slot_list_count PySem.F.type_list_count (kc_mt (K := K) (r := rCntI) mt_lcount rfl) (pv 4) (pa_cons (pv 5) pa_nil)) rfl) (kc_bm (K := K) (pe_bm PySem.F.plainAttrs_list PySem.F.slot_list_count PySem.F.type_list_count (kc_mt (K := K) (r := rCntI) mt_lcount rfl) (pv 0) (pa_cons (pv 5) pa_nil)) rfl) (nomark _)))) (fun _ _ _ _ _ => (pe_op op_cat (pv 4) (pe_lst (pa_cons (pv 5) pa_nil))))) pa_nil)))))
    (pss_one (ps_set (i := 1) sc_law_orders.nd rfl (Or.inl rfl) (pv 3))))))
    (pss_one (ps_ret (pe_callB call_lenN (by rfl) T.n_len (by decide +kernel) (pa_cons (pv 1) pa_nil)))))), ?_⟩
    refine w_start (σ' := [some (.ref a), none, none, none, none, none]) rfl ?_
    walk_at "g"
    rename_i p1 np1 p2 np2
    have hkm : ∀ x ∈ xs, x ∈ ksOf xs := fun x h => ksOf_mem.mpr h
    refine f_range (fun i σ' H' => ∃ (o2 o3 o4 o5 : Option V) (pf : Addr) (ps : List Addr), σ' = [some (.ref a), some (.ref pf), o2, o3, o4, o5] ∧ Fr [] H H' ∧ H' pf = some (.lst (ps.map V.ref)) ∧ ListsAt H' ps (rowsN xs (ksOf xs) i)) ⟨none, none, none, none, p2, [p1], rfl, (Fr.refl.new np1).new np2, upd_same, .one (at_upd upd_same np2)⟩ ?_ ?_
    · rintro i σ' H2 hi ⟨o2, o3, o4, o5, pf, ps, rfl, f2, h2, l2⟩
      have hi : i < xs.length := by simpa using hi
      have hrl := rows_le (ksOf_nodup xs) hkm (i := i + 1) (by omega)
      have hf6 := fac6 hl
      walk_at "g"
      rename_i pl npl
      have l20 := l2
      have hls := l2.len
      refine f_list (ps.map V.ref) (fun j σ' H' => ∃ (o4 o5 : Option V) (qs : List Addr), σ' = [some (.ref a), some (.ref pf), some (.int (0 + ↑i)), some (.ref pl), o4, o5] ∧ Fr [] H2 H' ∧ H' pl = some (.lst (qs.map V.ref)) ∧ ListsAt H' qs (((rowsN xs (ksOf xs) i).take j).map (moreOf xs (ksOf xs))).flatten ∧ pl ∉ qs) ?_ ?_ ?_ ?_
      · exact ⟨o4, o5, [], rfl, Fr.refl.new npl, upd_same, .nil, by simp⟩
      · rintro j σ' H3 hj ⟨o4, o5, qs, rfl, f3, h3, l3, n3⟩
        exact .of (f3.at0 h2)
      · rintro j v σ' H3 hv ⟨o4, o5, qs, rfl, f3, h3, l3, n3⟩
        obtain ⟨pr, hpr, rfl⟩ := map_at' hv
        have hjl := (List.getElem?_eq_some_iff.mp hpr).1
        obtain ⟨row, hrow⟩ : ∃ row, (rowsN xs (ksOf xs) i)[j]? = some row := ⟨_, List.getElem?_eq_getElem (by omega)⟩
        have hr3 := f3.at0 (l2.at_ j pr row hpr hrow)
        obtain ⟨rl, rc⟩ := rows_ok xs (ksOf xs) i row (List.mem_of_getElem? hrow)
        have ha3 := (f2.trans f3).at0 ha
        walk_at "g"
        refine w_sortSE (SqL.of ha3) (by omega) (fun ks p4 asc mem np4 => ?_)
        obtain rfl := ksOf_uniq asc mem
        have a4 := at_upd (u := .lst ((ksOf xs).map V.int)) ha3 np4
        have r4 := at_upd (u := .lst ((ksOf xs).map V.int)) hr3 np4
        have k4 := upd_same (H := H3) (a := p4) (o := .lst ((ksOf xs).map V.int))
        have f34 : Fr [] H3 (upd H3 p4 (.lst ((ksOf xs).map V.int))) := Fr.refl.new np4
        generalize upd H3 p4 (.lst ((ksOf xs).map V.int)) = H4 at a4 r4 k4 f34 ⊢
        have h4 := f34.at0 h3
        have l4 := l3.fr f34
        have hkl : (ksOf xs).length ≤ xs.length := nodup_le (ksOf_nodup xs) fun x h => ksOf_mem.mp h
        clear asc mem np4
        walk_at "g"
        refine l_list ((ksOf xs).map V.int) (fun L m H' => ∃ rs : List Addr, Fr [] H4 H' ∧ H' L = some (.lst (rs.map V.ref)) ∧ ListsAt H' rs (moreT xs ((ksOf xs).take m) row) ∧ L ∉ rs ∧ ∀ r ∈ rs, H4 r = none) (fun L hL => ?_) (fun L m H' _ _ h => ?_) (fun L m y H' hL hy h => ?_) (fun L H' hL h => ?_)
        · exact ⟨[], Fr.refl.new hL, upd_same, .nil, by simp, by simp⟩
        · obtain ⟨rs, g1, g2, g3, g4, g5⟩ := h
          exact .of (g1.at0 k4)
        · obtain ⟨rs, g1, g2, g3, g4, g5⟩ := h
          obtain ⟨k, hk, rfl⟩ := map_at hy
          have tk : (ksOf xs).take (m + 1) = (ksOf xs).take m ++ [k] := by rw [List.take_succ, hk]; rfl
          have hlen := g3.len
          have hmt : (moreT xs ((ksOf xs).take m) row).length ≤ 6 := by
            unfold moreT
            rw [List.length_map]
            have z1 := List.length_filter_le (fun k => decide (List.count k row < List.count k xs)) ((ksOf xs).take m)
            rw [List.length_take] at z1
            omega
          have rr := g1.at0 r4
          have aa := g1.at0 a4
          refine ⟨rfl, ?_⟩
          walk_at "g"
          rw [tk, moreT_snoc]
          refine w_ite (fun hlt => ?_) (fun hlt => ?_)
          · rw [if_pos (by omega)]
            walk_at "g"
            rename_i q1 nq1 q2 nq2
            have f12 : Fr [] H' (upd (upd H' q1 (.lst [.int k])) q2 (.lst ((row ++ [k]).map V.int))) := (Fr.refl.new nq1).new nq2
            have hL2 := f12.at0 g2
            have hq2 : (upd (upd H' q1 (.lst [.int k])) q2 (.lst ((row ++ [k]).map V.int))) q2 = some (.lst ((row ++ [k]).map V.int)) := upd_same
            have nH4 : H4 q2 = none := (g1.new nq1).free List.not_mem_nil nq2
            have q2L : q2 ≠ L := (ne_of_none (at_upd g2 nq1) nq2).symm
            refine w_appE hL2 (by rw [List.length_map]; omega) ⟨rs ++ [q2], (g1.trans f12).put (.inl hL), ?_, ?_, ?_, ?_⟩
            · rw [List.map_append (f := V.ref)]
              exact upd_same
            · refine ListsAt.put ((g3.fr f12).app (.one hq2)) ?_
              simp [g4, Ne.symm q2L]
            · simp [g4, Ne.symm q2L]
            · intro r hr
              rcases List.mem_append.mp hr with z | z
              · exact g5 r z
              · rw [List.mem_singleton.mp z]
                exact nH4
          · rw [if_neg (by omega), List.append_nil]
            exact ⟨rs, g1, g2, g3, g4, g5⟩
        · obtain ⟨rs, g1, g2, g3, g4, g5⟩ := h
          rw [List.length_map, List.take_length] at g3
          have e5 : moreT xs (ksOf xs) row = moreOf xs (ksOf xs) row := rfl
          rw [e5] at g3
          walk_at "g"
          have hpl := g1.at0 h4
          have hz : qs.length + rs.length ≤ 720 := by
            have z1 := l3.len
            have z2 := g3.len
            have z3 := flat_le (f := moreOf xs (ksOf xs)) (rowsN xs (ksOf xs) i) (j + 1)
            rw [List.take_succ, hrow, List.map_append, List.flatten_append, List.length_append] at z3
            have z4 : ((rowsN xs (ksOf xs) i).map (moreOf xs (ksOf xs))).flatten.length ≤ fac xs.length := hrl
            have z5 : (List.map (moreOf xs (ksOf xs)) (Option.toList (some row))).flatten.length = (moreOf xs (ksOf xs) row).length := by simp
            omega
          refine w_extendR hpl g2 (by omega) ?_
          have n4 : pl ∉ rs := fun hm => by
            have z := g5 pl hm
            rw [h4] at z
            cases z
          refine ⟨_, _, qs ++ rs, rfl, (((f3.trans f34).trans g1).put (.inl npl)), upd_same, ?_, by simp [n3, n4]⟩
          have e6 : (((rowsN xs (ksOf xs) i).take (j + 1)).map (moreOf xs (ksOf xs))).flatten = (((rowsN xs (ksOf xs) i).take j).map (moreOf xs (ksOf xs))).flatten ++ moreOf xs (ksOf xs) row := by
            rw [List.take_succ, hrow]
            simp
          rw [e6]
          exact ListsAt.put ((l4.fr g1).app g3) (by simp [n3, n4])
      · rintro σ' H3 ⟨o4, o5, qs, rfl, f3, h3, l3, n3⟩
        rw [List.length_map, hls, List.take_length] at l3
        walk_at "g"
        exact ⟨_, _, _, _, pl, qs, rfl, f2.trans f3, h3, l3⟩
    · rintro σ' H2 ⟨o2, o3, o4, o5, pf, ps, rfl, f2, h2, l2⟩
      walk_at "g"
      have e := l2.len
      rw [show (xs.length : Int).toNat = xs.length by omega, rows_len (ksOf_nodup xs) hkm] at e
      rw [List.length_map, e]
      exact q _ f2
set_option maxHeartbeats 4000000 in
theorem ok_law_product (T : Txt K mg c) : DefAt P w K mg base "_law_product" s_law_product 1 ["some"] (spProduct K) := by
  refine T.f_law_product.ok sc_law_product (fun vs H Q E h => ?_) (fun _ _ _ _ _ _ us hl => match us, hl with | [_], _ => rfl) (fun f cdv A outer s H vs Q E hr h => ?_)
  · obtain ⟨a, xs, rfl, ha, hl, q⟩ := h
    rfl
  · obtain ⟨a, xs, rfl, ha, hl, q⟩ := h
    refine ⟨_, (pss_cons (ps_par (i := 1) (j := 2) rfl sc_law_product.nd rfl rfl (by decide) rfl rfl (pa_cons (pe_callB call_lenN (by rfl) T.n_len (by decide +kernel) (pa_cons (pv 0) pa_nil)) (pa_cons pe_int pa_nil)) (by rfl))
    (pss_cons (ps_for PassesOwn.never rfl (pi_list (pe_sortSet (by rfl) T.n_sorted (by rfl) T.n_set (pv 0))) (pg_name (i := 3) sc_law_product.nd rfl (Or.inl rfl)) (pss_cons (ps_set (i := 4) sc_law_product.nd rfl (Or.inl rfl) (pe_bm PySem.F.plainAttrs_list PySem.F.slot_list_count PySem.F.type_list_count mt_lcount (pv 0) (pa_cons (pv 3) pa_nil)))
    (pss_cons (ps_set (i := 5) sc_law_product.nd rfl (Or.inr rfl) (pe_op op_cat (pe_lst (pa_cons pe_int pa_nil)) (pe_op op_rep (pe_lst (pa_cons pe_int pa_nil)) (pv 4))))
    (pss_cons (ps_for PassesOwn.never rfl (pi_range1 (by rfl) T.n_range (pa_cons (pv 1) pa_nil)) (pg_name (i := 6) sc_law_product.nd rfl (Or.inl rfl)) (pss_one (ps_set (i := 5) sc_law_product.nd rfl (Or.inr rfl) (pe_op op_cat (pe_lst (pa_cons pe_int pa_nil)) (pe_lc (own := [("spot", 7)]) (tt := tYes) rfl sc_law_product.nd (pi_range1 (by rfl) T.n_range (pa_cons (pv 4) pa_nil)) (blkOk_by (N := sc_law_product_N) (sc := defScope s_law_product) (by decide +kernel)) (fun _ _ _ _ _ => (pg_name (i := 7) sc_law_product.nd rfl (Or.inl rfl))) (fun _ _ _ _ _ => pts_nil) (fun _ _ _ _ _ => (pe_op op_add (pe_ix (kc_ix (K := K) (r := rIxL) ix_list rfl) (pv 5) (pv 7) (fun _ _ => rfl)) (pe_ix (kc_ix (K := K) (r := rIxL) ix_list rfl) (pv 5) (pe_op op_add (pv 7) pe_int) (fun _ _ => rfl)))))))))
    (pss_one (ps_par (i := 2) (j := 1) rfl sc_law_product.nd rfl rfl (by decide) rfl rfl (pa_cons (pe_op op_mulW (pv 2) (pe_ix ix_list (pv 5) (pv 4) (fun _ _ => rfl))) (pa_cons (pe_op op_sub (pv 1) (pv 4)) pa_nil)) (by rfl)))))))
    (pss_one (ps_ret (pv 2))))), ?_⟩
    refine w_start (σ' := [some (.ref a), none, none, none, none, none, none, none]) rfl ?_
    walk_at "g"
    refine w_sortSE (SqL.of ha) (by omega) (fun ks p asc mem np => ?_)
    obtain rfl := ksOf_uniq asc mem
    have hkm : ∀ x ∈ xs, x ∈ ksOf xs := fun x h => ksOf_mem.mpr h
    have hsum := sumP_count xs (ksOf_nodup xs) hkm
    walk_at "g"
    refine f_list ((ksOf xs).map V.int) (fun i σ' H' => ∃ (F fr : Nat) (o3 o4 o5 o6 : Option V), σ' = [some (.ref a), some (.int fr), some (.int F), o3, o4, o5, o6, none] ∧ Fr [] H H' ∧ H' p = some (.lst ((ksOf xs).map V.int)) ∧ F * facP (fun k => xs.count k) ((ksOf xs).take i) * fac fr = fac xs.length ∧ fr + sumP (fun k => xs.count k) ((ksOf xs).take i) = xs.length) ?_ ?_ ?_ ?_
    · exact ⟨1, xs.length, none, none, none, none, rfl, Fr.refl.new np, upd_same, by simp [facP], by simp [sumP]⟩
    · rintro i σ' H' _ ⟨F, fr, o3, o4, o5, o6, rfl, f1, h1, e1, e2⟩
      exact .of h1
    · rintro i v σ' H' hv ⟨F, fr, o3, o4, o5, o6, rfl, f1, h1, e1, e2⟩
      obtain ⟨k, hk, rfl⟩ := map_at hv
      have ha1 := f1.at0 ha
      have tk : (ksOf xs).take (i + 1) = (ksOf xs).take i ++ [k] := by rw [List.take_succ, hk]; rfl
      have hle := sumP_take_le (fun k => xs.count k) (ksOf xs) (i + 1)
      rw [tk, sumP_snoc] at hle
      walk_at "g"
      rename_i q1 nq1 q2 nq2 q3 nq3
      have hmk : xs.count k ≤ fr := by omega
      obtain ⟨m, hm⟩ : ∃ m : Nat, xs.count k = m := ⟨_, rfl⟩
      rw [hm] at hmk hle ⊢
      rw [Int.toNat_natCast]
      refine w_catI (ns := [1]) (ms := List.replicate m 0) (at_upd (at_upd upd_same nq2) nq3) upd_same (by rw [List.length_replicate, List.length_singleton]; omega) (fun q4 nq4 => ?_)
      have e0 : ([1] ++ List.replicate m 0 : List Int) = pasc m 0 := (pasc_zero m).symm
      rw [e0]
      have f14 : Fr [] H' (upd (upd (upd (upd H' q1 (.lst [.int 1])) q2 (.lst [.int 0])) q3 (.lst ((List.replicate m 0).map V.int))) q4 (.lst ((pasc m 0).map V.int))) := (((Fr.refl.new nq1).new nq2).new nq3).new nq4
      have h4 : (upd (upd (upd (upd H' q1 (.lst [.int 1])) q2 (.lst [.int 0])) q3 (.lst ((List.replicate m 0).map V.int))) q4 (.lst ((pasc m 0).map V.int))) q4 = some (.lst ((pasc m 0).map V.int)) := upd_same
      generalize upd (upd (upd (upd H' q1 (.lst [.int 1])) q2 (.lst [.int 0])) q3 (.lst ((List.replicate m 0).map V.int))) q4 (.lst ((pasc m 0).map V.int)) = H4 at f14 h4 ⊢
      have f04 := f1.trans f14
      have hp4 := f14.at0 h1
      clear f14 nq1 nq2 nq3 nq4 f1 h1 ha1
      walk_at "g"
      refine f_range (fun j σ' H'' => ∃ (o6 : Option V) (pw : Addr), σ' = [some (.ref a), some (.int fr), some (.int F), some (.int k), some (.int m), some (.ref pw), o6, none] ∧ Fr [] H H'' ∧ H'' p = some (.lst ((ksOf xs).map V.int)) ∧ H'' pw = some (.lst ((pasc m j).map V.int))) ⟨o6, q4, rfl, f04, hp4, h4⟩ ?_ ?_
      · rintro j σ' H5 hj ⟨o6, pw, rfl, f5, hp5, h5⟩
        walk_at "g"
        rename_i q1 nq1
        have h51 := at_upd (u := .lst [.int 1]) h5 nq1
        have f51 : Fr [] H5 (upd H5 q1 (.lst [.int 1])) := Fr.refl.new nq1
        have h11 := upd_same (H := H5) (a := q1) (o := .lst [.int 1])
        generalize upd H5 q1 (.lst [.int 1]) = H6 at h51 f51 h11 ⊢
        have hpl := pasc_len m j
        refine l_range (fun L i H' => Fr [] H6 H' ∧ H' L = some (.lst (((List.range i).map fun t => (ch j t : Int) + ch j (t + 1)).map V.int))) (fun L hL => ⟨Fr.refl.new hL, upd_same⟩) (fun L i H' hL hi h => ?_) (fun L H' hL h => ?_)
        · obtain ⟨g1, g2⟩ := h
          have g5 := g1.at0 h51
          refine w_gname ⟨rfl, ?_⟩
          walk_at "g"
          rename_i n1 hn1 n2 hn2
          have hi : i < m := by simpa using hi
          rw [show ((0 : Int) + i).toNat = i by omega, pasc_at (by omega)] at hn1
          rw [show ((0 : Int) + i + 1).toNat = i + 1 by omega, pasc_at (by omega)] at hn2
          obtain rfl := Option.some.inj hn1
          obtain rfl := Option.some.inj hn2
          refine w_appE g2 (by simp; omega) ⟨g1.put (.inl hL), ?_⟩
          rw [upd_same, List.range_succ, List.map_append, List.map_append]
          rfl
        · obtain ⟨g1, g2⟩ := h
          rw [Int.toNat_natCast] at g2
          have g6 := g1.at0 h11
          walk_at "g"
          refine w_catI (ns := [1]) (ms := (List.range m).map fun t => (ch j t : Int) + ch j (t + 1)) g6 g2 (by simp; omega) (fun q2 nq2 => ?_)
          have e8 : ([1] ++ (List.range m).map fun t => (ch j t : Int) + ch j (t + 1) : List Int) = pasc m (j + 1) := (pasc_succ m j).symm
          rw [e8]
          walk_at "g"
          exact ⟨_, q2, rfl, ((f5.trans f51).trans g1).new nq2, at_upd (g1.at0 (f51.at0 hp5)) nq2, upd_same⟩
      · rintro σ' H5 ⟨o6, pw, rfl, f5, hp5, h5⟩
        rw [Int.toNat_natCast] at h5
        have hbig := big_mul (F := F) (f := fr) (m := m) (n := xs.length) hl (by
          rw [← e1, Nat.mul_assoc]
          exact Nat.le_mul_of_pos_right _ (Nat.mul_pos (facP_pos _ _) (fac_pos _))) (by omega) hmk
        walk_at "g"
        refine w_ixLm (SqL.of h5) (by omega) (by rw [pasc_len]; omega) (fun y hy => ?_)
        rw [Int.toNat_natCast, pasc_at (Nat.le_refl m)] at hy
        obtain rfl := Option.some.inj hy
        walk_at "g"
        have hnew := prod_turn e1 hmk
        refine ⟨F * ch fr m, fr - m, some (.int k), some (.int m), some (.ref pw), o6, ?_, f5, hp5, ?_, ?_⟩
        · rw [show ((fr - m : Nat) : Int) = (fr : Int) - m by omega, show ((F * ch fr m : Nat) : Int) = (F : Int) * ch fr m by push_cast; rfl]
          rfl
        · rw [tk, facP_snoc, hm]
          exact hnew
        · rw [tk, sumP_snoc, hm]
          omega
    · rintro σ' H' ⟨F, fr, o3, o4, o5, o6, rfl, f1, h1, e1, e2⟩
      rw [List.length_map, List.take_length] at e1 e2
      have : fr = 0 := by omega
      subst this
      have e3 := product_done (ksOf_nodup xs) hkm (by rw [← e1]; simp [fac] : F * facP (fun k => xs.count k) (ksOf xs) = fac xs.length)
      walk_at "g"
      rw [e3]
      exact q _ f1
theorem fine_tab {ns : List Int} {g : Nat} (hl : ns.length ≤ 200) (hg : g ≤ 1000) (h : ∀ x ∈ ns, 1 ≤ x ∧ x ≤ g) : Fine (dI (tab ns g)) := by
  refine fine_ints (fun y hy => ?_) (by rw [tab_len]; omega)
  obtain ⟨i, hi, rfl⟩ := tab_mem hy
  have := ct_bound (s := (i : Int) + 1) (M := 1000) (by omega) fun x hx => ⟨(h x hx).1, by have := h x hx; omega⟩
  omega
theorem Dn_le {xs : List Int} : Dn xs ≤ fac xs.length := by
  have h := mulN_le (fun k => xs.count k) (ksOf xs)
  rwa [sumP_count xs (ksOf_nodup xs) fun x h => ksOf_mem.mpr h] at h
theorem Dn_big {xs : List Int} (h : xs.length ≤ 100) : ((Dn xs : Nat) : Int).natAbs < 10 ^ 4300 := by
  rw [Int.natAbs_natCast]
  have h1 : fac xs.length < 2 ^ 801 := Nat.lt_of_le_of_lt (fac_le _ (by omega)) (Nat.pow_lt_pow_right (by decide) (by omega))
  have h2 : (2 : Nat) ^ 801 ≤ 10 ^ 4300 := Nat.le_trans (Nat.pow_le_pow_left (by decide) 801 : (2 : Nat) ^ 801 ≤ 10 ^ 801) (Nat.pow_le_pow_right (by decide) (by decide))
  exact Nat.lt_of_le_of_lt Dn_le (Nat.lt_of_lt_of_le h1 h2)
theorem due_of {xs : List Int} {ls : List (Int × Int)} (hx : ∀ x ∈ xs, 1 ≤ x) (h : TimesOf xs 0 ls) : (runs ls).2 = Dn xs := times_due (ksOf_nodup xs) (fun k => ksOf_mem) hx h (h.perm hx)
set_option maxHeartbeats 4000000 in
theorem ok_law (T : Txt K mg c) : GefAt P w K mg base "law" s_law 4 ["script"] (spLaw K) := by
  have D_law_rng := ok_law_rng (P := P) (w := w) (base := base) T
  have D_law_draw := ok_law_draw (P := P) (w := w) (base := base) T
  have D_law_some := ok_law_some (P := P) (w := w) (base := base) T
  have D_law_counted := ok_law_counted (P := P) (w := w) (base := base) T
  have D_law_orders := ok_law_orders (P := P) (w := w) (base := base) T
  have D_count_books := ok_count_books (P := P) (w := w) (base := base) T
  have D_law_product := ok_law_product (P := P) (w := w) (base := base) T
  refine T.f_law.okG sc_law (fun vs H Q E h => ?_) (fun _ _ _ _ _ _ us hl => match us, hl with | [_], _ => rfl) (fun f cdv A outer s H vs Q E hr gds h => ?_)
  · obtain ⟨a, ns, rfl, hS, hl, hbits, q⟩ := h
    rfl
  · obtain ⟨a, ns, rfl, hS, hl, hbits, q⟩ := h
    refine ⟨_, (pss_cons (ps_set (i := 1) sc_law.nd rfl (Or.inl rfl) (pe_callD D_law_rng (hr.mono (by decide)) (pa_cons (pv 0) pa_nil)))
    (pss_cons (ps_for PassesOwn.never rfl (pi_range1 (by rfl) T.n_range (pa_cons (pe_op op_add pe_int (pe_callB (call_min2N rfl) (by rfl) T.n_min (by decide +kernel) (pa_cons pe_int (pa_cons (pe_callB call_lenN (by rfl) T.n_len (by decide +kernel) (pa_cons (pv 0) pa_nil)) pa_nil)))) pa_nil)) (pg_name (i := 2) sc_law.nd rfl (Or.inl rfl)) (pss_cons (ps_set (i := 3) sc_law.nd rfl (Or.inl rfl) (pe_op op_add pe_int (pe_callD D_law_draw (hr.mono (by decide)) (pa_cons (pv 1) (pa_cons pe_int pa_nil)))))
    (pss_cons (ps_set (i := 4) sc_law.nd rfl (Or.inr rfl) (pe_callD D_law_some (hr.mono (by decide)) (pa_cons (pv 1) (pa_cons pe_int (pa_cons (pv 3) pa_nil)))))
    (pss_cons (ps_setLc (i := 5) (own := [("wide", 8)]) (tt := tYes) rfl sc_law.nd rfl rfl (sw_true rfl rfl rfl (by decide +kernel)) (pi_range2 (by rfl) T.n_range (pa_cons pe_int (pa_cons (pe_op op_add (pv 3) pe_int) pa_nil))) (blkOk_by (N := sc_law_N) (sc := defScope s_law) (by decide +kernel)) (fun _ _ _ _ _ => (pg_name (i := 8) sc_law.nd rfl (Or.inl rfl))) (fun _ _ _ _ _ => pts_nil) (fun _ _ _ _ _ => (pe_callD D_law_counted (hr.mono (by decide)) (pa_cons (pv 4) (pa_cons (pv 8) pa_nil)))))
    (pss_cons (ps_set (i := 6) sc_law.nd rfl (Or.inl rfl) (pe_callD D_law_orders (hr.mono (by decide)) (pa_cons (pv 4) pa_nil)))
    (pss_cons (ps_if (pt_cmpR op_ne (pe_callB (call_reprD gds (gu_of hr)) (by rfl) T.n_repr (by decide +kernel) (pa_cons (pe_lst (pa_cons (pe_callD D_count_books (hr.mono (by decide)) (pa_cons (pv 5) pa_nil)) (pa_cons (pe_callKD D_count_books (hr.mono (by decide)) (pk_cons (pv 5) pk_nil) kb_count_books_table) (pa_cons (pe_callD D_law_product (hr.mono (by decide)) (pa_cons (pv 4) pa_nil)) pa_nil)))) pa_nil)) (pe_callB (call_reprD gds (gu_of hr)) (by rfl) T.n_repr (by decide +kernel) (pa_cons (pe_op op_rep (pe_lst (pa_cons (pv 6) pa_nil)) pe_int) pa_nil)) (nomark _)) (pss_one (ps_ret pe_bl)) pss_nil)
    (pss_cons (ps_set (i := 3) sc_law.nd rfl (Or.inl rfl) (pe_op op_add pe_int (pe_callD D_law_draw (hr.mono (by decide)) (pa_cons (pv 1) (pa_cons (pe_ix ix_list (pe_lst (pa_cons pe_int (pa_cons pe_int pa_nil))) (pe_callD D_law_draw (hr.mono (by decide)) (pa_cons (pv 1) (pa_cons pe_int pa_nil))) (fun _ _ => rfl)) pa_nil)))))
    (pss_cons (ps_set (i := 4) sc_law.nd rfl (Or.inr rfl) (pe_callD D_law_some (hr.mono (by decide)) (pa_cons (pv 1) (pa_cons (pe_ix ix_list (pe_lst (pa_cons pe_int (pa_cons pe_int pa_nil))) (pe_callD D_law_draw (hr.mono (by decide)) (pa_cons (pv 1) (pa_cons pe_int pa_nil))) (fun _ _ => rfl)) (pa_cons (pv 3) pa_nil)))))
    (pss_cons (ps_setLc (i := 5) (own := [("wide", 8)]) (tt := tYes) rfl sc_law.nd rfl rfl (sw_true rfl rfl rfl (by decide +kernel)) (pi_range2 (by rfl) T.n_range (pa_cons pe_int (pa_cons (pe_op op_add (pv 3) pe_int) pa_nil))) (blkOk_by (N := sc_law_N) (sc := defScope s_law) (by decide +kernel)) (fun _ _ _ _ _ => (pg_name (i := 8) sc_law.nd rfl (Or.inl rfl))) (fun _ _ _ _ _ => pts_nil) (fun _ _ _ _ _ => (pe_callD D_law_counted (hr.mono (by decide)) (pa_cons (pv 4) (pa_cons (pv 8) pa_nil)))))
    (pss_cons (ps_set (i := 7) sc_law.nd rfl (Or.inl rfl) (pe_callB (call_reprD gds (gu_of hr)) (by rfl) T.n_repr (by decide +kernel) (pa_cons (pv 5) pa_nil)))
    (pss_one (ps_if (PW.pt (pw_or (pt_cmpR op_ne (pe_callB (call_reprBig T.nd_ (gu_of hr)) (by rfl) T.n_repr (by decide +kernel) (pa_cons (pe_callD D_count_books (hr.mono (by decide)) (pa_cons (pv 5) pa_nil)) pa_nil)) (pe_callB (call_reprBig T.nd_ (gu_of hr)) (by rfl) T.n_repr (by decide +kernel) (pa_cons (pe_callD D_law_product (hr.mono (by decide)) (pa_cons (pv 4) pa_nil)) pa_nil)) (nomark _)) (pw_or1 (pt_cmpR op_ne (pe_callB (call_reprD gds (gu_of hr)) (by rfl) T.n_repr (by decide +kernel) (pa_cons (pv 5) pa_nil)) (pv 7) (nomark _))))) (pss_one (ps_ret pe_bl)) pss_nil))))))))))))
    (pss_one (ps_ret (pe_and (pe_cmpR op_eq (pe_callD D_count_books (hr.mono (by decide)) (pa_cons (pe_lst pa_nil) pa_nil)) pe_int (nomark _)) (pe_and (pe_cmpR op_eq (pe_callD D_count_books (hr.mono (by decide)) (pa_cons (pe_lst (pa_cons pe_int (pa_cons pe_int (pa_cons pe_int (pa_cons pe_int (pa_cons pe_int pa_nil)))))) pa_nil)) pe_int (nomark _)) (pe_one (pe_cmpR op_eq (pe_callD D_count_books (hr.mono (by decide)) (pa_cons (pe_lst (pa_cons pe_int pa_nil)) pa_nil)) pe_int (nomark _))))))))), ?_⟩
    refine w_start (σ' := [some (.ref a), none, none, none, none, none, none, none, none]) rfl ?_
    walk_at "g"
    refine ⟨a, ns, rfl, hS, hl, fun r H1 f1 nr hr1 => ?_⟩
    walk_at "g"
    refine w_lenI (f1.seqL List.not_mem_nil hS) ?_
    walk_at "g"
    refine f_range (fun i σ' H' => ∃ (o2 o3 o4 o5 o6 o7 o8 : Option V) (k : Int), σ' = [some (.ref a), some (.ref r), o2, o3, o4, o5, o6, o7, o8] ∧ Rng H' r k ∧ k ≤ 3000 * i ∧ Fr [] H H') ⟨_, _, _, _, _, _, _, 0, rfl, hr1, by omega, f1⟩ ?_ ?_
    · rintro i σ' H2 hi ⟨o2, o3, o4, o5, o6, o7, o8, k, rfl, hp2, hk2, f2⟩
      have hi2 : i < 100 := by split at hi <;> omega
      walk_at "g"
      rename_i r3 k3 H3 r30 r31 hk3 hp3 f3
      obtain ⟨g, hg⟩ : ∃ g : Nat, (1 : Int) + r3 = g := ⟨(1 + r3).toNat, by omega⟩
      rw [hg]
      have hg1 : 1 ≤ g ∧ g ≤ 5 := by omega
      have f03 : Fr [] H H3 := f2.loc nr f3
      refine ⟨r, k3, 6, g, rfl, hp3, by omega, by omega, by omega, by omega, by omega, fun p xs k4 H4 lxs hxs hk4 hp4 f4 np h4 => ?_⟩
      have f04 : Fr [] H H4 := f03.loc nr f4
      have pr : p ≠ r := hp3.ne np
      have hx1 : ∀ x ∈ xs, 1 ≤ x := fun x h => (hxs x h).1
      have hD := fac6 (n := xs.length) (by simpa using lxs)
      have hD2 := Dn_le (xs := xs)
      clear f2 f3 f03 f4 hp2 hp3 np
      walk_at "g"
      refine l_range (fun L i H' => Fr [] H4 H' ∧ H' L = some (.lst ((tab xs i).map V.int))) (fun L hL => ⟨Fr.refl.new hL, upd_same⟩) (fun L i H' hL hi h => ?_) (fun L H5 hL h => ?_)
      · obtain ⟨g1, g2⟩ := h
        have ti := tab_len xs i
        refine w_gname ⟨rfl, ?_⟩
        walk_at "g"
        refine ⟨p, xs, _, rfl, g1.at0 h4, by omega, by omega, by omega, fun H2 f2 => ?_⟩
        have h2 := f2.at0 g2
        walk_at "g"
        refine ⟨(g1.trans f2).put (.inl hL), ?_⟩
        rw [upd_same, tab_succ, show (1 : Int) + i = i + 1 by omega]
      · obtain ⟨f5, h5⟩ := h
        rw [show ((g : Int) + 1 - 1).toNat = g by omega] at h5
        have h5p := f5.at0 h4
        have hp5 : Rng H5 r k4 := hp4.fr f5 List.not_mem_nil
        have f05 := f04.trans f5
        clear f04 f5 hp4 h4 hL
        walk_at "g"
        refine ⟨p, xs, rfl, h5p, by omega, fun H6 f6 => ?_⟩
        have h6 := f6.at0 h5
        have h6p := f6.at0 h5p
        have hp6 : Rng H6 r k4 := hp5.fr f6 List.not_mem_nil
        have f06 := f05.trans f6
        clear f6 f05 hp5 h5 h5p
        walk_at "g"
        refine ⟨L, xs, g, rfl, h6, by omega, by omega, hxs, fun ls H7 f7 hls => ?_⟩
        rw [due_of hx1 hls]
        have h7 := f7.at0 h6
        have h7p := f7.at0 h6p
        have hp7 : Rng H7 r k4 := hp6.fr f7 List.not_mem_nil
        have f07 := f06.trans f7
        clear f7 f06 hp6 h6 h6p hls
        walk_at "g"
        refine ⟨L, xs, g, rfl, h7, by omega, by omega, hxs, fun ls H8 f8 hls => ?_⟩
        rw [due_of hx1 hls]
        have h8p := f8.at0 h7p
        have hp8 : Rng H8 r k4 := hp7.fr f8 List.not_mem_nil
        have f08 := f07.trans f8
        clear f8 f07 hp7 h7 h7p hls
        walk_at "g"
        refine ⟨p, xs, rfl, h8p, by omega, fun H9 f9 => ?_⟩
        have hp9 : Rng H9 r k4 := hp8.fr f9 List.not_mem_nil
        have f09 := f08.trans f9
        clear f9 f08 hp8 h8p
        walk_at "g"
        rename_i p10 np10
        have fD : Fine (dI [(Dn xs : Int), Dn xs, Dn xs]) := fine_ints (fun x h => by
          have : x = Dn xs := by simpa using h
          omega) (by simp)
        refine w_reprD (dp_ints (ns := [(Dn xs : Int), Dn xs, Dn xs]) (SqL.of upd_same)) fD ?_
        walk_at "g"
        rename_i p11 np11 p12 np12
        refine w_reprD (dp_ints (ns := [(Dn xs : Int), Dn xs, Dn xs]) (SqL.of upd_same)) fD ?_
        have hp12 := ((hp9.new (o := .lst [.int (Dn xs), .int (Dn xs), .int (Dn xs)]) np10).new (o := .lst [.int (Dn xs)]) np11).new (o := .lst ((List.replicate (Int.toNat 3) (Dn xs : Int)).map V.int)) np12
        have f012 := ((f09.new (o := .lst [.int (Dn xs), .int (Dn xs), .int (Dn xs)]) np10).new (o := .lst [.int (Dn xs)]) np11).new (o := .lst ((List.replicate (Int.toNat 3) (Dn xs : Int)).map V.int)) np12
        generalize upd (upd (upd H9 p10 (.lst [.int (Dn xs), .int (Dn xs), .int (Dn xs)])) p11 (.lst [.int (Dn xs)])) p12 (.lst ((List.replicate (Int.toNat 3) (Dn xs : Int)).map V.int)) = H12 at hp12 f012 ⊢
        clear f09 hp9 np10 np11 np12
        walk_at "g"
        rename_i p13 np13 r14 k14 H14 r140 r141 hk14 hp14 f14 lo hlo r15 k15 H15 r150 r151 hk15 hp15 f15 p16 np16 r17 k17 H17 r170 r171 hk17 hp17 f17 mo hmo
        obtain ⟨g2, hg2⟩ : ∃ g2 : Nat, (1 : Int) + r15 = g2 := ⟨(1 + r15).toNat, by omega⟩
        rw [hg2]
        have hg3 : 1 ≤ g2 ∧ g2 ≤ 300 := by omega
        have hmo2 : 0 ≤ mo ∧ mo ≤ 100 := by omega
        have f017 : Fr [] H H17 := (((f012.new np13).loc nr f14).loc nr f15 |>.new np16).loc nr f17
        refine ⟨r, k17, mo, g2, rfl, hp17, hmo2.1, hmo2.2, by omega, by omega, by omega, fun p2 ys k18 H18 lys hys hk18 hp18 f18 np2 h18 => ?_⟩
        have f018 : Fr [] H H18 := f017.loc nr f18
        have hy1 : ∀ x ∈ ys, 1 ≤ x := fun x h => (hys x h).1
        have hyl : ys.length ≤ 100 := by omega
        have hbig := Dn_big hyl
        have hkk : k18 ≤ k + 2500 := by omega
        clear hlo hmo np13 np16 hp14 hp15 hp17 f14 f15 f17 f017 hp12 np2 lys fD hD hD2 hxs lxs hk14 hk15 hk17 hk18
        walk_at "g"
        refine l_range (fun L i H' => Fr [] H18 H' ∧ H' L = some (.lst ((tab ys i).map V.int))) (fun L hL => ⟨Fr.refl.new hL, upd_same⟩) (fun L i H' hL hi h => ?_) (fun L2 H19 hL h => ?_)
        · obtain ⟨g1, g2⟩ := h
          have ti := tab_len ys i
          refine w_gname ⟨rfl, ?_⟩
          walk_at "g"
          refine ⟨p2, ys, _, rfl, g1.at0 h18, by omega, by omega, by omega, fun H2 f2 => ?_⟩
          have h2 := f2.at0 g2
          walk_at "g"
          refine ⟨(g1.trans f2).put (.inl hL), ?_⟩
          rw [upd_same, tab_succ, show (1 : Int) + i = i + 1 by omega]
        · obtain ⟨f19, h19⟩ := h
          rw [show ((g2 : Int) + 1 - 1).toNat = g2 by omega] at h19
          have h19p := f19.at0 h18
          have hp19 : Rng H19 r k18 := hp18.fr f19 List.not_mem_nil
          have f019 := f018.trans f19
          have fT := fine_tab (ns := ys) (g := g2) (by omega) (by omega) hys
          clear f018 f19 hp18 h18 hL
          walk_at "g"
          refine w_reprD (dp_ints (ns := tab ys g2) (SqL.of h19)) fT ?_
          walk_at "g"
          refine ⟨L2, ys, g2, rfl, h19, by omega, by omega, hys, fun ls H20 f20 hls => ?_⟩
          rw [due_of hy1 hls]
          have h20 := f20.at0 h19
          have h20p := f20.at0 h19p
          have hp20 : Rng H20 r k18 := hp19.fr f20 List.not_mem_nil
          have f020 := f019.trans f20
          clear f20 f019 hp19 h19 h19p hls
          walk_at "g"
          refine w_reprBig hbig ?_
          walk_at "g"
          refine ⟨p2, ys, rfl, h20p, hyl, fun H21 f21 => ?_⟩
          have h21 := f21.at0 h20
          have hp21 : Rng H21 r k18 := hp20.fr f21 List.not_mem_nil
          have f021 := f020.trans f21
          clear f21 f020 hp20 h20 h20p
          walk_at "g"
          refine w_reprBig hbig ?_
          walk_at "g"
          refine w_reprD (dp_ints (ns := tab ys g2) (SqL.of h21)) fT ?_
          walk_at "g"
          exact ⟨_, _, _, _, _, _, _, k18, rfl, hp21, by omega, f021⟩
    · rintro σ' H2 ⟨o2, o3, o4, o5, o6, o7, o8, k, rfl, hp2, hk2, f2⟩
      walk_at "g"
      rename_i p3 np3
      refine ⟨p3, [], 0, rfl, upd_same, by omega, by simp, by simp, fun ls H4 f4 hls => ?_⟩
      rw [times_due (ks := []) (xs := []) .nil (by simp) (by simp) hls (hls.perm (by simp))]
      have e1 : mulN (fun k => ([] : List Int).count k) [] = 1 := by decide
      rw [e1]
      walk_at "g"
      rename_i p5 np5
      have f05 : Fr [] H H4 := (f2.new np3).trans f4
      refine ⟨p5, [5, 3, 3], 5, rfl, ?_, by omega, by simp, by simp, fun ls H6 f6 hls => ?_⟩
      · rw [show tab [5, 3, 3] 5 = [11, 7, 4, 4, 3] by decide +kernel]
        exact upd_same
      rw [times_due (ks := [3, 5]) (xs := [5, 3, 3]) (by decide) (by intro k; simp; omega) (by simp) hls (hls.perm (by simp))]
      have e2 : mulN (fun k => ([5, 3, 3] : List Int).count k) [3, 5] = 3 := (mulN_uniq (by decide +kernel)).symm
      rw [e2]
      walk_at "g"
      rename_i p7 np7
      refine ⟨p7, List.replicate 100 1, 1, rfl, ?_, by omega, by simp, by simp, fun ls H8 f8 hls => ?_⟩
      · rw [show tab (List.replicate 100 1) 1 = [100] by decide +kernel]
        exact upd_same
      rw [times_due (ks := [1]) (xs := List.replicate 100 1) (by decide) (by intro k; simp) (by simp) hls (hls.perm (by simp))]
      have e3 : mulN (fun k => (List.replicate 100 (1 : Int)).count k) [1] = 1 := (mulN_uniq (by decide +kernel)).symm
      rw [e3]
      walk_at "g"
      exact q _
end
/-! ### the end -/
theorem all_mk {l : PySem.W.OpenLaw} {w : World} {K : PySem.W.Frag} {h : Heap} {mg : Str → Option Value} {fa : Addr} (X : K.In h) (G : h.Ns mainGlobals mg) (hfa : mg "law" = some (.ref fa))
    {f1 : Addr} {od1 an1 : Option Addr} {sl1 : Array (Option Value)} {oc1 kV1 dc1 pm1 cd1 ct1 : Value}
    {f2 : Addr} {od2 an2 : Option Addr} {sl2 : Array (Option Value)} {oc2 kV2 dc2 pm2 cd2 ct2 : Value}
    {f3 : Addr} {od3 an3 : Option Addr} {sl3 : Array (Option Value)} {oc3 kV3 dc3 pm3 cd3 ct3 : Value}
    {f4 : Addr} {od4 an4 : Option Addr} {sl4 : Array (Option Value)} {oc4 kV4 dc4 pm4 cd4 ct4 : Value}
    {f5 : Addr} {od5 an5 : Option Addr} {sl5 : Array (Option Value)} {oc5 kV5 dc5 pm5 cd5 ct5 : Value}
    {f6 : Addr} {od6 an6 : Option Addr} {sl6 : Array (Option Value)} {oc6 kV6 dc6 pm6 cd6 ct6 : Value}
    {f7 : Addr} {od7 an7 : Option Addr} {sl7 : Array (Option Value)} {oc7 kV7 dc7 pm7 cd7 ct7 : Value}
    {f8 : Addr} {od8 an8 : Option Addr} {sl8 : Array (Option Value)} {oc8 kV8 dc8 pm8 cd8 ct8 : Value}
    {f9 : Addr} {od9 an9 : Option Addr} {sl9 : Array (Option Value)} {oc9 kV9 dc9 pm9 cd9 ct9 : Value}
    {f10 : Addr} {od10 an10 : Option Addr} {sl10 : Array (Option Value)} {oc10 kV10 dc10 pm10 cd10 ct10 : Value}
    (a1 : PySem.W.nsIn K mainGlobals "_law_rng" = some (some (.ref f1)))
    (l1 : K.lookup f1 = some ⟨oc1, od1, .func (PySem.W.fnOf "_law_rng" "_law_rng" (defArgs s_law_rng) (defBody s_law_rng) (defScope s_law_rng) .none kV1 dc1 pm1 an1 cd1 ct1), sl1⟩)
    (c1 : PySem.W.codeIn K cd1 "_law_rng" = true)
    (k1 : PySem.W.keepIn K (.ref f1) = true)
    (a2 : PySem.W.nsIn K mainGlobals "_law_draw" = some (some (.ref f2)))
    (l2 : K.lookup f2 = some ⟨oc2, od2, .func (PySem.W.fnOf "_law_draw" "_law_draw" (defArgs s_law_draw) (defBody s_law_draw) (defScope s_law_draw) .none kV2 dc2 pm2 an2 cd2 ct2), sl2⟩)
    (c2 : PySem.W.codeIn K cd2 "_law_draw" = true)
    (k2 : PySem.W.keepIn K (.ref f2) = true)
    (a3 : PySem.W.nsIn K mainGlobals "longer_counts" = some (some (.ref f3)))
    (l3 : K.lookup f3 = some ⟨oc3, od3, .func (PySem.W.fnOf "longer_counts" "longer_counts" (defArgs s_longer_counts) (defBody s_longer_counts) (defScope s_longer_counts) .none kV3 dc3 pm3 an3 cd3 ct3), sl3⟩)
    (c3 : PySem.W.codeIn K cd3 "longer_counts" = true)
    (k3 : PySem.W.keepIn K (.ref f3) = true)
    (a4 : PySem.W.nsIn K mainGlobals "times_of" = some (some (.ref f4)))
    (l4 : K.lookup f4 = some ⟨oc4, od4, .func (PySem.W.fnOf "times_of" "times_of" (defArgs s_times_of) (defBody s_times_of) (defScope s_times_of) .none kV4 dc4 pm4 an4 cd4 ct4), sl4⟩)
    (c4 : PySem.W.codeIn K cd4 "times_of" = true)
    (k4 : PySem.W.keepIn K (.ref f4) = true)
    (a5 : PySem.W.nsIn K mainGlobals "count_books" = some (some (.ref f5)))
    (l5 : K.lookup f5 = some ⟨oc5, od5, .func (PySem.W.fnOf "count_books" "count_books" (defArgs s_count_books) (defBody s_count_books) (defScope s_count_books) .none kV5 dc5 pm5 an5 cd5 ct5), sl5⟩)
    (c5 : PySem.W.codeIn K cd5 "count_books" = true)
    (k5 : PySem.W.keepIn K (.ref f5) = true)
    (a6 : PySem.W.nsIn K mainGlobals "_law_counted" = some (some (.ref f6)))
    (l6 : K.lookup f6 = some ⟨oc6, od6, .func (PySem.W.fnOf "_law_counted" "_law_counted" (defArgs s_law_counted) (defBody s_law_counted) (defScope s_law_counted) .none kV6 dc6 pm6 an6 cd6 ct6), sl6⟩)
    (c6 : PySem.W.codeIn K cd6 "_law_counted" = true)
    (k6 : PySem.W.keepIn K (.ref f6) = true)
    (a7 : PySem.W.nsIn K mainGlobals "_law_some" = some (some (.ref f7)))
    (l7 : K.lookup f7 = some ⟨oc7, od7, .func (PySem.W.fnOf "_law_some" "_law_some" (defArgs s_law_some) (defBody s_law_some) (defScope s_law_some) .none kV7 dc7 pm7 an7 cd7 ct7), sl7⟩)
    (c7 : PySem.W.codeIn K cd7 "_law_some" = true)
    (k7 : PySem.W.keepIn K (.ref f7) = true)
    (a8 : PySem.W.nsIn K mainGlobals "_law_orders" = some (some (.ref f8)))
    (l8 : K.lookup f8 = some ⟨oc8, od8, .func (PySem.W.fnOf "_law_orders" "_law_orders" (defArgs s_law_orders) (defBody s_law_orders) (defScope s_law_orders) .none kV8 dc8 pm8 an8 cd8 ct8), sl8⟩)
    (c8 : PySem.W.codeIn K cd8 "_law_orders" = true)
    (k8 : PySem.W.keepIn K (.ref f8) = true)
    (a9 : PySem.W.nsIn K mainGlobals "_law_product" = some (some (.ref f9)))
    (l9 : K.lookup f9 = some ⟨oc9, od9, .func (PySem.W.fnOf "_law_product" "_law_product" (defArgs s_law_product) (defBody s_law_product) (defScope s_law_product) .none kV9 dc9 pm9 an9 cd9 ct9), sl9⟩)
    (c9 : PySem.W.codeIn K cd9 "_law_product" = true)
    (k9 : PySem.W.keepIn K (.ref f9) = true)
    (a10 : PySem.W.nsIn K mainGlobals "law" = some (some (.ref f10)))
    (l10 : K.lookup f10 = some ⟨oc10, od10, .func (PySem.W.fnOf "law" "law" (defArgs s_law) (defBody s_law) (defScope s_law) .none kV10 dc10 pm10 an10 cd10 ct10), sl10⟩)
    (c10 : PySem.W.codeIn K cd10 "law" = true)
    (k10 : PySem.W.keepIn K (.ref f10) = true)
    (z_abs : PySem.W.nsIn K mainGlobals "abs" = some none)
    (z_len : PySem.W.nsIn K mainGlobals "len" = some none)
    (z_max : PySem.W.nsIn K mainGlobals "max" = some none)
    (z_min : PySem.W.nsIn K mainGlobals "min" = some none)
    (z_range : PySem.W.nsIn K mainGlobals "range" = some none)
    (z_repr : PySem.W.nsIn K mainGlobals "repr" = some none)
    (z_set : PySem.W.nsIn K mainGlobals "set" = some none)
    (z_sorted : PySem.W.nsIn K mainGlobals "sorted" = some none)
    (z_sum : PySem.W.nsIn K mainGlobals "sum" = some none)
    (nd_ : PySem.W.nsIn K cStatics "sys.int_max_str_digits" = some none) :
    ∃ fd : FuncData, (∀ (s : Shared) (v : Value), BindsTo s fd ⟨[v], []⟩ [("script", v)]) ∧ ∀ base : Heap, K.In base → base.Ns mainGlobals mg → FnG l.prog w K mg base 4 fa fd ["script"] (spLaw K) := by
  have T : Txt K mg ⟨()⟩ := ⟨trivial,
    PySem.W.mg_none_of X G z_abs,
    PySem.W.mg_none_of X G z_len,
    PySem.W.mg_none_of X G z_max,
    PySem.W.mg_none_of X G z_min,
    PySem.W.mg_none_of X G z_range,
    PySem.W.mg_none_of X G z_repr,
    PySem.W.mg_none_of X G z_set,
    PySem.W.mg_none_of X G z_sorted,
    PySem.W.mg_none_of X G z_sum,
    nd_,
    ⟨⟨_, _, PySem.W.mg_of X G a1, fun_mk (st := s_law_rng) l1 c1 k1⟩⟩,
    ⟨⟨_, _, PySem.W.mg_of X G a2, fun_mk (st := s_law_draw) l2 c2 k2⟩⟩,
    ⟨⟨_, _, PySem.W.mg_of X G a3, fun_mk (st := s_longer_counts) l3 c3 k3⟩⟩,
    ⟨⟨_, _, PySem.W.mg_of X G a4, fun_mk (st := s_times_of) l4 c4 k4⟩⟩,
    ⟨⟨_, _, PySem.W.mg_of X G a5, fun_mk (st := s_count_books) l5 c5 k5⟩⟩,
    ⟨⟨_, _, PySem.W.mg_of X G a6, fun_mk (st := s_law_counted) l6 c6 k6⟩⟩,
    ⟨⟨_, _, PySem.W.mg_of X G a7, fun_mk (st := s_law_some) l7 c7 k7⟩⟩,
    ⟨⟨_, _, PySem.W.mg_of X G a8, fun_mk (st := s_law_orders) l8 c8 k8⟩⟩,
    ⟨⟨_, _, PySem.W.mg_of X G a9, fun_mk (st := s_law_product) l9 c9 k9⟩⟩,
    ⟨⟨_, _, PySem.W.mg_of X G a10, fun_mk (st := s_law) l10 c10 k10⟩⟩⟩
  have e := hfa.symm.trans (PySem.W.mg_of X G a10)
  cases e
  refine ⟨PySem.W.fnOf "law" "law" (defArgs s_law) (defBody s_law) (defScope s_law) .none kV10 dc10 pm10 an10 cd10 ct10, fun s v => .of_eq rfl, fun base _ _ => ?_⟩
  obtain ⟨f, fd, hm, F, O, B⟩ := (ok_law (P := l.prog) (w := w) (base := base) T).ex
  have e2 := hm.symm.trans (PySem.W.mg_of X G a10)
  cases e2
  obtain ⟨oc, od, kV, doc, pm, an, cdv, ct, osl, rfl, lk, hcd⟩ := F.ex
  have e3 := lk.symm.trans l10
  cases e3
  exact O
theorem walk {l : PySem.W.OpenLaw} {q : Program} {loose : List Str} {XP : (Str → Option Value) → Heap → Prop} {YP : World → Heap → Prop} {d : DefRec} {K : Params → PySem.W.Frag} (hn : l.most = some 63) (hdf : d.params.defaults = [])
    (hY : ∀ (w : World) (h : Heap), YP w h → (K w.params).In h)
    (F : ∀ (w : World) (mg : Str → Option Value) (fa : Addr) (h : Heap), (K w.params).In h → h.Ns mainGlobals mg → mg d.name = some (.ref fa) →
      ∃ fd : FuncData, (∀ (s : Shared) (u : Value), BindsTo s fd ⟨[u], []⟩ [("script", u)]) ∧ ∀ base : Heap, (K w.params).In base → base.Ns mainGlobals mg → FnG l.prog w (K w.params) mg base 4 fa fd ["script"] (spLaw (K w.params))) :
    PySem.W.WalkO q loose XP YP l.row.toRowW d [] (fun f vs => PySem.call f vs) :=
  walk_G (n := 63) (k := 4) (x := "script") (sp := fun w => spLaw (K w.params)) hn (by decide) hdf ⟨rfl, by decide, by decide⟩ hY F (fun _ _ a ns hl hz hS => ⟨a, ns, rfl, hS, hl, hz, fun _ => rfl⟩)
end K12
open PySem PySem.W PyProof.Rows
set_option maxRecDepth 100000 in
set_option maxHeartbeats 0 in
theorem PySem.Challenge.cw_pagecounts_k12_books_of_a_table_counted_holds : PySem.Challenge.rw_pagecounts_k12_books_of_a_table_counted.Holds := by
  w_on; o_law; k_head; (case hw => w_witness2)
  k_fill
  refine K12.walk (l := PySem.Challenge.rw_pagecounts_k12_books_of_a_table_counted) rfl rfl (fun w h Y => PySem.W.kIn_of Y) ?F
  case F =>
    intro w mg fa h KX G hmg
    refine' K12.all_mk KX G hmg ?a1 ?l1 ?c1 ?k1 ?a2 ?l2 ?c2 ?k2 ?a3 ?l3 ?c3 ?k3 ?a4 ?l4 ?c4 ?k4 ?a5 ?l5 ?c5 ?k5 ?a6 ?l6 ?c6 ?k6 ?a7 ?l7 ?c7 ?k7 ?a8 ?l8 ?c8 ?k8 ?a9 ?l9 ?c9 ?k9 ?a10 ?l10 ?c10 ?k10 ?z_abs ?z_len ?z_max ?z_min ?z_range ?z_repr ?z_set ?z_sorted ?z_sum ?nd_
    (case a1 => k_is)
    (case l1 => k_is)
    (case c1 => k_is)
    (case k1 => k_is)
    (case a2 => k_is)
    (case l2 => k_is)
    (case c2 => k_is)
    (case k2 => k_is)
    (case a3 => k_is)
    (case l3 => k_is)
    (case c3 => k_is)
    (case k3 => k_is)
    (case a4 => k_is)
    (case l4 => k_is)
    (case c4 => k_is)
    (case k4 => k_is)
    (case a5 => k_is)
    (case l5 => k_is)
    (case c5 => k_is)
    (case k5 => k_is)
    (case a6 => k_is)
    (case l6 => k_is)
    (case c6 => k_is)
    (case k6 => k_is)
    (case a7 => k_is)
    (case l7 => k_is)
    (case c7 => k_is)
    (case k7 => k_is)
    (case a8 => k_is)
    (case l8 => k_is)
    (case c8 => k_is)
    (case k8 => k_is)
    (case a9 => k_is)
    (case l9 => k_is)
    (case c9 => k_is)
    (case k9 => k_is)
    (case a10 => k_is)
    (case l10 => k_is)
    (case c10 => k_is)
    (case k10 => k_is)
    (case z_abs => k_is)
    (case z_len => k_is)
    (case z_max => k_is)
    (case z_min => k_is)
    (case z_range => k_is)
    (case z_repr => k_is)
    (case z_set => k_is)
    (case z_sorted => k_is)
    (case z_sum => k_is)
    (case nd_ => k_is)
