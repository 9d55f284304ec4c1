import PyProof.Rows.All
import Wide.All
import OpenK.AllK
import Wide.FinOn
import HandS.ForMost
import HandS.TupAny
import HandS.More
import HandS.Style
import HandS.Conv
import HandS.Codes
import HandS.FStr
import HandS.IsInst
import HandS.Strs
import HandS.Replace
import HandS.Walk
import HandS.Dict
import HandS.Flow
import HandS.Iter
import HandS.MakeKwOnly
import PyProof.Rows.StrIntSpec
import PySem.Challenge.RW_layerwharf_k21_push_step_by_step
set_option Elab.async false
set_option maxRecDepth 100000
set_option maxHeartbeats 4000000
set_option linter.all false
/-! ## words of our own, for every law -/
namespace Lw
open PySem L2
open PyProof.Rows (envOfC)

/-! ### what calls what -/
structure Cal (P : Program) (w : World) (K : PySem.W.Frag) (mg : Str → Option Value) (base : Heap) (k : Nat) (x : Str) (sp : Sp) : Prop where
  ex : ∃ (f : Addr) (fd : FuncData) (ps : List Str), FnOk P w K mg base CX0 k f fd ps sp ∧ mg x = some (.ref f) ∧ PySem.W.keepIn K (.ref f) = true ∧ Binds K fd ps []
structure Met (P : Program) (w : World) (K : PySem.W.Frag) (mg : Str → Option Value) (base : Heap) (k : Nat) (C : Addr) (m : Str) (sp : Sp) : Prop where
  ex : ∃ (f : Addr) (fd : FuncData) (ps : List Str), Cls K C ∧ Meth K C m f ∧ FnOk P w K mg base CX0 k f fd ps sp ∧ Binds K fd ps []
structure Mak (P : Program) (w : World) (K : PySem.W.Frag) (mg : Str → Option Value) (base : Heap) (k : Nat) (x : Str) (C : Addr) (sp : Sp) : Prop where
  ex : ∃ (f : Addr) (fd : FuncData) (ps : List Str), Mk K C f ∧ FnOk P w K mg base CX0 k f fd ps sp ∧ mg x = some (.ref C) ∧ Binds K fd ps []
/-- a def of the module -/
structure DefAt (K : PySem.W.Frag) (mg : Str → Option Value) (x : Str) (st : Stmt) (ps : List Str) : Prop where
  ex : ∃ (f : Addr) (fd : FuncData), Fun K x x st f fd ∧ mg x = some (.ref f) ∧ Binds K fd ps []
/-- a method of a class -/
structure MetAt (K : PySem.W.Frag) (C : Addr) (m qual : Str) (st : Stmt) (ps : List Str) : Prop where
  ex : ∃ (f : Addr) (fd : FuncData), Fun K m qual st f fd ∧ Meth K C m f ∧ Binds K fd ps []
/-- a class's __init__ -/
structure IniAt (K : PySem.W.Frag) (mg : Str → Option Value) (x : Str) (C : Addr) (qual : Str) (st : Stmt) (ps : List Str) : Prop where
  ex : ∃ (f : Addr) (fd : FuncData), Fun K "__init__" qual st f fd ∧ Mk K C f ∧ mg x = some (.ref C) ∧ Binds K fd ps []
/-- .. with keyword-only parameters ks, n other ones -/
structure IniKw (K : PySem.W.Frag) (mg : Str → Option Value) (x : Str) (C : Addr) (qual : Str) (st : Stmt) (ps : List Str) (n : Nat) (ks : List Str) : Prop where
  ex : ∃ (f : Addr) (fd : FuncData), Fun K "__init__" qual st f fd ∧ Mk K C f ∧ mg x = some (.ref C) ∧ KBn K fd ps n ks (fun us ws => us ++ ws) (fun vs zs => vs ++ zs)
structure MakK (P : Program) (w : World) (K : PySem.W.Frag) (mg : Str → Option Value) (base : Heap) (k : Nat) (x : Str) (C : Addr) (n : Nat) (ks : List Str) (sp : Sp) : Prop where
  ex : ∃ (f : Addr) (fd : FuncData) (ps : List Str), Mk K C f ∧ FnOk P w K mg base CX0 k f fd ps sp ∧ mg x = some (.ref C) ∧ KBn K fd ps (n + 1) ks (fun us ws => us ++ ws) (fun vs zs => vs ++ zs)
section
variable {P : Program} {w : World} {K : PySem.W.Frag} {mg : Str → Option Value} {base : Heap}
theorem makK_mk {x qual : Str} {C : Addr} {st : Stmt} {N ps ks : List Str} {n k : Nat} {sp : Sp} (D : IniKw K mg x C qual st ps (n + 1) ks) (S : FnScope N ps (defScope st)) (len : ∀ vs H Q E, sp vs H Q E → vs.length = ps.length)
    (hbody : ∀ (f : Addr) (cdv : Value) (A : Around) (outer : List Env) (s : Shared) (H : Hp) (vs : List V) (Q : VK) (E : XK), Room k (A.deeper (envOfC qual (defScope st) s.heap.objs.size f cdv)) → sp vs H Q E →
      ∃ t, PSs (cxOf CX0 P w K mg base N qual (defScope st) f cdv A outer s H E).nox (defBody st) t ∧ t { nx := fun _ H' => Q .non H', rt := Q } (start N vs) H) : MakK P w K mg base (k + 1) x C n ks sp := by
  obtain ⟨f, fd, F, M, hm, hb⟩ := D.ex
  exact ⟨f, fd, ps, M, F.ok S len fun cdv A outer s H vs Q E hr h => hbody f cdv A outer s H vs Q E hr h, hm, hb⟩
theorem cal_mk {x : Str} {st : Stmt} {N ps : List Str} {k : Nat} {sp : Sp} (D : DefAt K mg x st ps) (S : FnScope N ps (defScope st)) (len : ∀ vs H Q E, sp vs H Q E → vs.length = ps.length)
    (hbody : ∀ (f : Addr) (cdv : Value) (A : Around) (outer : List Env) (s : Shared) (H : Hp) (vs : List V) (Q : VK) (E : XK), Room k (A.deeper (envOfC x (defScope st) s.heap.objs.size f cdv)) → sp vs H Q E →
      ∃ t, PSs (cxOf CX0 P w K mg base N x (defScope st) f cdv A outer s H E).nox (defBody st) t ∧ t { nx := fun _ H' => Q .non H', rt := Q } (start N vs) H) : Cal P w K mg base (k + 1) x sp := by
  obtain ⟨f, fd, F, hm, hb⟩ := D.ex
  exact ⟨f, fd, ps, F.ok S len fun cdv A outer s H vs Q E hr h => hbody f cdv A outer s H vs Q E hr h, hm, F.kp, hb⟩
theorem met_mk {m qual : Str} {C : Addr} {st : Stmt} {N ps : List Str} {k : Nat} {sp : Sp} (c : Cls K C) (D : MetAt K C m qual st ps) (S : FnScope N ps (defScope st)) (len : ∀ vs H Q E, sp vs H Q E → vs.length = ps.length)
    (hbody : ∀ (f : Addr) (cdv : Value) (A : Around) (outer : List Env) (s : Shared) (H : Hp) (vs : List V) (Q : VK) (E : XK), Room k (A.deeper (envOfC qual (defScope st) s.heap.objs.size f cdv)) → sp vs H Q E →
      ∃ t, PSs (cxOf CX0 P w K mg base N qual (defScope st) f cdv A outer s H E).nox (defBody st) t ∧ t { nx := fun _ H' => Q .non H', rt := Q } (start N vs) H) : Met P w K mg base (k + 1) C m sp := by
  obtain ⟨f, fd, F, hm, hb⟩ := D.ex
  exact ⟨f, fd, ps, c, hm, F.ok S len fun cdv A outer s H vs Q E hr h => hbody f cdv A outer s H vs Q E hr h, hb⟩
theorem mak_mk {x qual : Str} {C : Addr} {st : Stmt} {N ps : List Str} {k : Nat} {sp : Sp} (D : IniAt K mg x C qual st ps) (S : FnScope N ps (defScope st)) (len : ∀ vs H Q E, sp vs H Q E → vs.length = ps.length)
    (hbody : ∀ (f : Addr) (cdv : Value) (A : Around) (outer : List Env) (s : Shared) (H : Hp) (vs : List V) (Q : VK) (E : XK), Room k (A.deeper (envOfC qual (defScope st) s.heap.objs.size f cdv)) → sp vs H Q E →
      ∃ t, PSs (cxOf CX0 P w K mg base N qual (defScope st) f cdv A outer s H E).nox (defBody st) t ∧ t { nx := fun _ H' => Q .non H', rt := Q } (start N vs) H) : Mak P w K mg base (k + 1) x C sp := by
  obtain ⟨f, fd, F, M, hm, hb⟩ := D.ex
  exact ⟨f, fd, ps, M, F.ok S len fun cdv A outer s H vs Q E hr h => hbody f cdv A outer s H vs Q E hr h, hm, hb⟩
end
section
variable {X : Cx} {x m : Str} {C : Addr} {sp : Sp} {k j : Nat} {e o : Expr} {es : List Expr} {p pos apos : Pos} {ta : TE} {t : TA}
theorem pe_c (c : Cal X.prog X.w X.K X.mg X.base k x sp) (hr : Room j X.A) (hk : k ≤ j) (hg : Gl X x) (ha : PA X (e :: es) t)
    (hdb : (x == ("__debug__" : Str)) = false := by decide) (he : starEach (e :: es) X.env = (false, eval e X.env) :: starEach es X.env := by rfl) (hpl : (backTo pos (starEach es X.env)).any (·.1) = false := by rfl) :
    PE X (.Call (.Name x p) (e :: es) [] pos) (tCall sp [] E0 t) := by
  obtain ⟨f, fd, ps, F, hm, kp, b⟩ := c.ex
  exact pe_call F (hr.mono hk) hg hm kp b .nil pass0 ha hdb he hpl
theorem pe_mk (c : Mak X.prog X.w X.K X.mg X.base k x C sp) (hr : Room j X.A) (hk : k + 1 ≤ j) (hg : Gl X x) (ha : PA X (e :: es) t)
    (hdb : (x == ("__debug__" : Str)) = false := by decide) (he : starEach (e :: es) X.env = (false, eval e X.env) :: starEach es X.env := by rfl) (hpl : (backTo pos (starEach es X.env)).any (·.1) = false := by rfl) :
    PE X (.Call (.Name x p) (e :: es) [] pos) (tMake C sp [] E0 t) := by
  obtain ⟨f, fd, ps, M, F, hm, b⟩ := c.ex
  exact pe_make M F (hr.mono hk) hg hm b .nil pass0 ha hdb he hpl
theorem pe_mk0 (c : Mak X.prog X.w X.K X.mg X.base k x C sp) (hr : Room j X.A) (hk : k + 1 ≤ j) (hg : Gl X x) (hdb : (x == ("__debug__" : Str)) = false := by decide) :
    PE X (.Call (.Name x p) [] [] pos) (tMake C sp [] E0 tNil) := by
  obtain ⟨f, fd, ps, M, F, hm, b⟩ := c.ex
  exact pe_make0 M F (hr.mono hk) hg hm b .nil pass0 hdb
theorem pe_mkK {n : Nat} {ks : List Str} {kws : List Keyword} {tk : TA} (c : MakK X.prog X.w X.K X.mg X.base k x C n ks sp) (hr : Room j X.A) (hk : k + 1 ≤ j) (hg : Gl X x) (ha : PA X (e :: es) t) (hkw : PK X kws tk)
    (hall : (backToKw pos (keywordEach kws X.env)).all (·.1.isSome) = true := by rfl) (hks : (backToKw pos (keywordEach kws X.env)).filterMap (·.1) = ks := by rfl) (hdb : (x == ("__debug__" : Str)) = false := by decide)
    (he : starEach (e :: es) X.env = (false, eval e X.env) :: starEach es X.env := by rfl) (hpl : ((backTo pos (starEach (e :: es) X.env)).any (·.1) || (backToKw pos (keywordEach kws X.env)).any (·.1.isNone)) = false := by rfl) :
    PE X (.Call (.Name x p) (e :: es) kws pos) (tMakeK C n ks.length sp (fun vs zs => vs ++ zs) E0 t tk) := by
  obtain ⟨f, fd, ps, M, F, hm, b⟩ := c.ex
  exact pe_makeK M F (hr.mono hk) hg hm b pass0 ha hkw hall hks hdb he hpl
theorem pe_mt {pl : Sem Bool} (c : Met X.prog X.w X.K X.mg X.base k C m sp) (hr : Room j X.A) (hk : k ≤ j) (he : PE X o ta) (ha : PA X (e :: es) t)
    (hst : starEach (e :: es) X.env = (false, eval e X.env) :: starEach es X.env := by rfl) (hpl : (backTo pos (starEach es X.env)).any (·.1) = false := by rfl)
    (ht : eval (.Call (.Attribute o m apos) (e :: es) [] pos) X.env = (do
      let ov ← eval o X.env
      standAt apos.atName
      let (f, first) ← holding [ov] (getMethod ov m pl)
      callWith pos f first (backTo pos (starEach (e :: es) X.env)) (backToKw pos (keywordEach [] X.env))) := by rfl) :
    PE X (.Call (.Attribute o m apos) (e :: es) [] pos) (tMeth C m sp [] E0 ta t) := by
  obtain ⟨f, fd, ps, hc, hm, F, b⟩ := c.ex
  exact pe_meth (pl := pl) he hc hm F (hr.mono hk) b .nil pass0 ha hst hpl ht
theorem pe_mt0 {pl : Sem Bool} (c : Met X.prog X.w X.K X.mg X.base k C m sp) (hr : Room j X.A) (hk : k ≤ j) (he : PE X o ta)
    (ht : eval (.Call (.Attribute o m apos) [] [] pos) X.env = (do
      let ov ← eval o X.env
      standAt apos.atName
      let (f, first) ← holding [ov] (getMethod ov m pl)
      callWith pos f first (backTo pos (starEach [] X.env)) (backToKw pos (keywordEach [] X.env))) := by rfl) :
    PE X (.Call (.Attribute o m apos) [] [] pos) (tMeth C m sp [] E0 ta tNil) := by
  obtain ⟨f, fd, ps, hc, hm, F, b⟩ := c.ex
  exact pe_meth0 (pl := pl) he hc hm F (hr.mono hk) b .nil pass0 ht
theorem pe_gc {v : V} (hg : Gl X x) (h : ∃ u, X.mg x = some u ∧ RelV v u) (hd : (x == ("__debug__" : Str)) = false := by decide) : PE X (.Name x pos) (tC v) := by
  obtain ⟨u, hm, r⟩ := h
  exact pe_glob hg hm r hd
end

theorem _root_.L2.Same.new {H : Hp} {p : Addr} {o : HO} (h : H p = none) : Same H (upd H p o) := fun b u e => by rw [upd_ne (ne_of_none e h)]; exact e
theorem _root_.L2.Same.seqT {K : PySem.W.Frag} {H H' : Hp} {a : Addr} {xs : List V} (e : Same H H') (h : SqT K H a xs) : SqT K H' a xs := by
  rcases h with (h | ⟨o, h⟩) | h
  · exact .inl (.inl (e _ _ h))
  · exact .inl (.inr ⟨o, e _ _ h⟩)
  · exact .inr h
theorem _root_.L2.Same.thenNew {H H' : Hp} {p : Addr} {o : HO} (s : Same H H') (h : H' p = none) : Same H (upd H' p o) := s.trans (Same.new h)
/-- a list that a def made for itself grows -/
theorem _root_.L2.Same.grow {H H' : Hp} {p : Addr} {o : HO} (s : Same H H') (h : H p = none) : Same H (upd H' p o) := fun b u e => by
  rw [upd_ne (ne_of_none e h)]
  exact s b u e

theorem ix_tupK {X : Cx} (K : PySem.W.Frag) (h : X.K = K) : IxR X (rIxT K) := by subst h; exact ix_tup
theorem ix_listK {X : Cx} (K : PySem.W.Frag) (h : X.K = K) : IxR X (rIxL K) := by subst h; exact ix_list
/-! ### steps through a reading -/
def rStr (x : V) (A : Prop) : Prop := (∃ a, x = .str a) ∧ A
def rCatS : R2 := fun x y H Q => ∃ i j, x = .str i ∧ y = .str j ∧ i.length + j.length ≤ sizeLine ∧ Q (.str (i ++ j)) H
theorem op_cat_str {X : Cx} : OpR X (binaryOp .Add) rCatS := op_add_str
def rInt1 : List V → Hp → VK → Prop := fun xs H Q => (∃ i, xs = [.int i] ∧ Q (.int i) H) ∨ ∃ k, xs = [.bl k] ∧ Q (.int (if k then 1 else 0)) H
theorem call_int1' {X : Cx} : CallR X (.type "int") rInt1 := call_int1
def rLenQ (K : PySem.W.Frag) : List V → Hp → VK → Prop := fun xs H Q => ∃ p ys, xs = [.ref p] ∧ (SqL K H p ys ∨ SqT K H p ys) ∧ Q (.int ys.length) H
theorem call_len_seq' {X : Cx} : CallR X (.builtin "len") (rLenQ X.K) := call_len_seq
def rLenT : List V → Hp → VK → Prop := fun xs H Q => ∃ z, xs = [.str z] ∧ z.length ≤ sizeLine ∧ Q (.int z.length) H
theorem call_len_str' {X : Cx} : CallR X (.builtin "len") rLenT := call_len_str
def rLenD : List V → Hp → VK → Prop := fun xs H Q => ∃ a kvs, xs = [V.ref a] ∧ H a = some (.dK kvs) ∧ Q (.int kvs.length) H
theorem call_lenD' {X : Cx} : CallR X (.builtin "len") rLenD := call_lenD
def rReprB : List V → Hp → VK → Prop := fun xs H Q => ∃ b, xs = [.bl b] ∧ Q (.str (if b then "True" else "False")) H
theorem call_repr_bool {X : Cx} : CallR X (.builtin "repr") rReprB := by
  intro pins s σ H xs us Q I r h
  obtain ⟨b, rfl, q⟩ := h
  obtain ⟨u, rfl, rx⟩ := vals1 r
  cases rx
  exact PySem.P.repr_of_bool ⟨.str _, H, I.tok _, ⟨_, rfl⟩, q⟩
def rInSg : R2 := fun x y H Q => ∃ (c : Nat) (z : Str), x = .str (SX.S [c]) ∧ y = .str z ∧ Q (.bl (decide (c ∈ z.cps.toList))) H
def rNotInSg : R2 := fun x y H Q => ∃ (c : Nat) (z : Str), x = .str (SX.S [c]) ∧ y = .str z ∧ Q (.bl (!decide (c ∈ z.cps.toList))) H
theorem op_inSg {X : Cx} : OpR X (compareOp .In) rInSg := op_in_sign
theorem op_notInSg {X : Cx} : OpR X (compareOp .NotIn) rNotInSg := op_notIn_sign
def rOrd : List V → Hp → VK → Prop := fun xs H Q => ∃ x, xs = [.str x] ∧ x.length = 1 ∧ Q (.int (x.cps.getD 0 0 : Nat)) H
theorem call_ord' {X : Cx} : CallR X (.builtin "ord") rOrd := call_ord
def rIsN : R2 := fun x y H Q => y = .non ∧ Q (.bl (decide (x = .non))) H
def rNotN : R2 := fun x y H Q => y = .non ∧ Q (.bl (!decide (x = .non))) H
theorem op_isN' {X : Cx} : OpR X (compareOp .Is) rIsN := op_isN
theorem op_notN' {X : Cx} : OpR X (compareOp .IsNot) rNotN := op_notN
section
variable {σ : St} {H : Hp} {Q : VK} {K : PySem.W.Frag} {D : Ends} {ta tb te : TE} {tl : TA} {t u : TS} {c d : TT} {i : Nat} {v : V} {g : TG} {r : R2} {b : Bool}
theorem g_var (h : σ[i]? = some (some v)) (k : Q v H) : tVar i σ H Q := ⟨v, h, k⟩
theorem g_c (k : Q v H) : tC v σ H Q := k
theorem g_op (k : ta σ H fun x H1 => tb σ H1 fun y H2 => r x y H2 Q) : tOp r ta tb σ H Q := k
theorem g_I0 {f : Int → Int → V} {a b : Int} (k : Q (f a b) H) : rI0 f (.int a) (.int b) H Q := ⟨a, b, rfl, rfl, k⟩
theorem g_I {C : Int → Int → Prop} {f : Int → Int → V} {a b : Int} (h : C a b) (k : Q (f a b) H) : rI C f (.int a) (.int b) H Q := ⟨a, b, rfl, rfl, h, k⟩
theorem g_eq {x y : V} (h : scal x y = true) (k : Q (.bl (decide (x = y))) H) : rEq x y H Q := ⟨h, k⟩
theorem g_ne {x y : V} (h : scal x y = true) (k : Q (.bl (!decide (x = y))) H) : rNe x y H Q := ⟨h, k⟩
theorem g_nil {Q : List V → Hp → Prop} (k : Q [] H) : tNil σ H Q := k
theorem g_cons {Q : List V → Hp → Prop} (k : ta σ H fun x H1 => tl σ H1 fun xs H2 => Q (x :: xs) H2) : tCons ta tl σ H Q := k
theorem g_cb {r : List V → Hp → VK → Prop} (k : tl σ H fun vs H1 => r vs H1 Q) : tCB r tl σ H Q := k
theorem g_call {sp : Sp} {dvs : List V} {E : XK} (k : tl σ H fun vs H1 => sp (vs ++ dvs) H1 Q E) : tCall sp dvs E tl σ H Q := k
theorem g_test {Q : Bool → Hp → Prop} (k : te σ H fun x H1 => ∃ z, x = .bl z ∧ Q z H1) : tTest te σ H Q := k
theorem g_B {Q : Bool → Hp → Prop} (k : te σ H fun x H1 => ∃ z, x = .bl z ∧ Q z H1) : tB te σ H Q := k
theorem g_exb {Q : Bool → Prop} (k : Q b) : ∃ z, V.bl b = .bl z ∧ Q z := ⟨b, rfl, k⟩
theorem g_not {Q : Bool → Hp → Prop} (k : c σ H fun b H1 => Q (!b) H1) : tNot c σ H Q := k
theorem g_and {Q : Bool → Hp → Prop} (k : c σ H fun b H1 => if b = true then d σ H1 Q else Q false H1) : tAnd c d σ H Q := k
theorem g_or {Q : Bool → Hp → Prop} (k : c σ H fun b H1 => if b = true then Q true H1 else d σ H1 Q) : tOr c d σ H Q := k
/-- what follows holds of any new place with o -/
def New (o : HO) (H : Hp) (Q : Addr → Hp → Prop) : Prop := ∀ p H', H p = none → Same H H' → H' p = some o → Q p H'
theorem New.to {o : HO} {Q : Addr → Hp → Prop} (k : New o H Q) : ∀ p, H p = none → Q p (upd H p o) := fun p hp => k p _ hp (fun b u e => by rw [upd_ne (ne_of_none e hp)]; exact e) upd_same
theorem small100 {n : Nat} (h : n ≤ 100) : n ≤ sizeLine := Nat.le_trans h (by decide)
def kTup (Q : VK) (xs : List V) (H1 : Hp) : Prop := xs.length ≤ sizeLine ∧ ∀ p, H1 p = none → Q (.ref p) (upd H1 p (.tup xs))
def kLst (Q : VK) (xs : List V) (H1 : Hp) : Prop := xs.length ≤ sizeLine ∧ ∀ p, H1 p = none → Q (.ref p) (upd H1 p (.lst xs))
theorem g_tup (k : tl σ H (kTup Q)) : tTup tl σ H Q := k
theorem g_lst (k : tl σ H (kLst Q)) : tLst tl σ H Q := k
/-- behind the items of a display -/
theorem g_ktup {xs : List V} (h : xs.length ≤ 100) (k : ∀ p H', H p = none → Same H H' → H' p = some (.tup xs) → Q (.ref p) H') : kTup Q xs H := ⟨small100 h, New.to (Q := fun p H' => Q (.ref p) H') k⟩
theorem g_klst {xs : List V} (h : xs.length ≤ 100) (k : ∀ p H', H p = none → Same H H' → H' p = some (.lst xs) → Q (.ref p) H') : kLst Q xs H := ⟨small100 h, New.to (Q := fun p H' => Q (.ref p) H') k⟩
theorem g_gcons {u : TGs} {v : V} {r : List V} {Q : St → Hp → Prop} (k : g v σ H fun σ' H' => u r σ' H' Q) : gCons g u (v :: r) σ H Q := ⟨v, r, rfl, k⟩
theorem g_gnil {Q : St → Hp → Prop} (k : Q σ H) : gNil [] σ H Q := ⟨rfl, k⟩
theorem g_gtup {K : PySem.W.Frag} {a : Addr} {xs : List V} {n : Nat} {u : TGs} {Q : St → Hp → Prop} (h : SqT K H a xs) (hn : xs.length = n) (k : u xs σ H Q) : gTup K n u (.ref a) σ H Q := ⟨a, xs, rfl, h, hn, k⟩
theorem _root_.L2.Same.at {H H' : Hp} {a : Addr} {o : HO} (s : Same H H') (h : H a = some o) : H' a = some o := s _ _ h
/-- x in (..), a display of flat values -/
theorem g_kinT {K : PySem.W.Frag} {x : V} {xs : List V} {b : Bool} (hl : xs.length ≤ 100) (hx : flatV x = true) (hs : xs.all flatV = true) (hb : inV x xs = b) (k : ∀ H', Same H H' → Q (.bl b) H') : kTup (fun y H2 => rIn K false x y H2 Q) xs H :=
  g_ktup hl fun p H' _ s h => ⟨p, xs, rfl, .inr (SqT.of h), hx, hs, by rw [hb]; exact k H' s⟩
theorem g_kninT {K : PySem.W.Frag} {x : V} {xs : List V} {b : Bool} (hl : xs.length ≤ 100) (hx : flatV x = true) (hs : xs.all flatV = true) (hb : inV x xs = b) (k : ∀ H', Same H H' → Q (.bl (!b)) H') : kTup (fun y H2 => rIn K true x y H2 Q) xs H :=
  g_ktup hl fun p H' _ s h => ⟨p, xs, rfl, .inr (SqT.of h), hx, hs, by rw [hb]; exact k H' s⟩
theorem g_kinL {K : PySem.W.Frag} {x : V} {xs : List V} {b : Bool} (hl : xs.length ≤ 100) (hx : flatV x = true) (hs : xs.all flatV = true) (hb : inV x xs = b) (k : ∀ H', Same H H' → Q (.bl b) H') : kLst (fun y H2 => rIn K false x y H2 Q) xs H :=
  g_klst hl fun p H' _ s h => ⟨p, xs, rfl, .inl (SqL.of h), hx, hs, by rw [hb]; exact k H' s⟩
theorem g_kninL {K : PySem.W.Frag} {x : V} {xs : List V} {b : Bool} (hl : xs.length ≤ 100) (hx : flatV x = true) (hs : xs.all flatV = true) (hb : inV x xs = b) (k : ∀ H', Same H H' → Q (.bl (!b)) H') : kLst (fun y H2 => rIn K true x y H2 Q) xs H :=
  g_klst hl fun p H' _ s h => ⟨p, xs, rfl, .inl (SqL.of h), hx, hs, by rw [hb]; exact k H' s⟩
theorem ifT {b : Bool} {A B : Prop} (h : b = true) (k : A) : if b = true then A else B := by rw [if_pos h]; exact k
theorem ifF {b : Bool} {A B : Prop} (h : b = false) (k : B) : if b = true then A else B := by subst h; exact iteF k
theorem g_catA {a b : Addr} {xs ys : List V} (ha : H a = some (.tup xs)) (hb : H b = some (.tup ys)) (h0 : xs ≠ []) (hl : xs.length + ys.length ≤ 100) (k : ∀ p H', Same H H' → H' p = some (.tup (xs ++ ys)) → Q (.ref p) H') : rCatA K (.ref a) (.ref b) H Q :=
  ⟨a, b, xs, ys, rfl, rfl, SqT.of ha, SqT.of hb, small100 hl, fun z => absurd z h0, fun _ z => k a H (Same.refl H) (by subst z; rw [List.append_nil]; exact ha), fun _ _ p hp => k p _ (fun b u e => by rw [upd_ne (ne_of_none e hp)]; exact e) upd_same⟩
theorem g_slA {a : Addr} {xs : List V} {lo hi : Option Int} (ha : H a = some (.tup xs)) (k : ∀ p H', Same H H' → H' p = some (.tup (cutV xs lo hi)) → Q (.ref p) H') : rSlA K (.ref a) lo hi H Q := by
  refine ⟨a, xs, rfl, SqT.of ha, fun z => k a H (Same.refl H) ?_, fun _ p hp => k p _ (fun b u e => by rw [upd_ne (ne_of_none e hp)]; exact e) upd_same⟩
  have e : cutV xs lo hi = xs := by
    unfold cutV
    rw [z.1, z.2, List.drop_zero, Nat.sub_zero, List.take_length]
  rw [e]; exact ha
theorem g_rslS {x : Str} {lo hi : Option Int} (h : x.length ≤ sizeLine) (k : Q (.str (Txt.slice x lo hi)) H) : C8.rSlX (.str x) lo hi H Q := ⟨x, rfl, h, k⟩
theorem g_ifx (k : c σ H fun b H1 => if b = true then ta σ H1 Q else tb σ H1 Q) : tIf c ta tb σ H Q := k
/-- a field read -/
def rFld (K : PySem.W.Frag) (f : Str) (x : V) (H : Hp) (Q : VK) : Prop := ∃ a C dx fs v, x = .ref a ∧ H a = some (.ins C dx fs) ∧ Cls K C ∧ NoAttr K C f ∧ fs.lookup f = some v ∧ Q v H
theorem g_fld {f : Str} (k : ta σ H fun x H1 => rFld K f x H1 Q) : tFld K ta f σ H Q := k
theorem g_rfld {f : Str} {a C dx : Addr} {fs : List (Str × V)} (h : H a = some (.ins C dx fs)) (hc : Cls K C) (hn : NoAttr K C f) (hl : fs.lookup f = some v) (k : Q v H) : rFld K f (.ref a) H Q := ⟨a, C, dx, fs, v, rfl, h, hc, hn, hl, k⟩
/-- a method called -/
def rMeth (C : Addr) (m : Str) (sp : Sp) (x : V) (tl : TA) (σ : St) (H : Hp) (Q : VK) : Prop := ∃ a dx fs, x = .ref a ∧ H a = some (.ins C dx fs) ∧ fs.lookup m = none ∧ tl σ H fun vs H2 => sp (x :: (vs ++ [])) H2 Q E0
def rSFld (K : PySem.W.Frag) (f : Str) (y x : V) (H : Hp) (Q : Hp → Prop) : Prop := ∃ a C dx fs, x = .ref a ∧ H a = some (.ins C dx fs) ∧ Cls K C ∧ NoAttr K C f ∧ fs.length < 1000 ∧ Q (upd H a (.ins C dx (putF f y fs)))
theorem g_sfld {f : Str} (k : tb σ H fun y H1 => ta σ H1 fun x H2 => rSFld K f y x H2 fun H3 => D.nx σ H3) : sFld K ta tb f D σ H := k
theorem g_rsfld {f : Str} {y : V} {a C dx : Addr} {fs : List (Str × V)} {Q : Hp → Prop} (h : H a = some (.ins C dx fs)) (hc : Cls K C) (hn : NoAttr K C f) (hl : fs.length < 1000) (k : ∀ H', H' a = some (.ins C dx (putF f y fs)) → (∀ b, b ≠ a → H' b = H b) → Q H') : rSFld K f y (.ref a) H Q :=
  ⟨a, C, dx, fs, rfl, h, hc, hn, hl, k _ upd_same fun b hb => upd_ne hb⟩
theorem g_meth {C : Addr} {m : Str} {sp : Sp} (k : ta σ H fun x H1 => rMeth C m sp x tl σ H1 Q) : tMeth C m sp [] E0 ta tl σ H Q := k
theorem g_rmeth {C a dx : Addr} {m : Str} {sp : Sp} {fs : List (Str × V)} (h : H a = some (.ins C dx fs)) (hl : fs.lookup m = none) (k : tl σ H fun vs H2 => sp (.ref a :: (vs ++ [])) H2 Q E0) : rMeth C m sp (.ref a) tl σ H Q := ⟨a, dx, fs, rfl, h, hl, k⟩
def rMake (C : Addr) (sp : Sp) (vs : List V) (H1 : Hp) (Q : VK) : Prop := ∀ x dx, H1 x = none → H1 dx = none → dx ≠ x → sp (.ref x :: (vs ++ [])) (upd (upd H1 dx (.own x)) x (.ins C dx [])) (fun v H2 => v = .non ∧ Q (.ref x) H2) E0
theorem g_make {C : Addr} {sp : Sp} (k : tl σ H fun vs H1 => rMake C sp vs H1 Q) : tMake C sp [] E0 tl σ H Q := k
/-- a list that is changed in its place -/
theorem g_append {l : Addr} {xs : List V} {y : V} (h : H l = some (.lst xs)) (hz : xs.length < 100000) (k : ∀ H', H' l = some (.lst (xs ++ [y])) → (∀ b, b ≠ l → H' b = H b) → Q .non H') : rAppend (.ref l) [y] H Q :=
  ⟨l, xs, y, rfl, rfl, h, Nat.lt_of_lt_of_le hz (by decide), k _ upd_same fun b hb => upd_ne hb⟩
theorem g_tyL {p : Addr} {xs : List V} {A : Prop} (h : H p = some (.lst xs)) (k : A) : tyV K "list" (.ref p) H ∧ A := ⟨.inl ⟨rfl, _, SqL.of h⟩, k⟩
theorem g_tyS {x : Str} {A : Prop} (k : A) : tyV K "str" (.str x) H ∧ A := ⟨rfl, k⟩
theorem g_tyA {p : Addr} {o : Obj} {A : Prop} (h : K.lookup p = some o) (h1 : o.cls = .type "tuple") (h2 : o.dict = none) (k : A) : tyV K "tuple" (.ref p) H ∧ A := ⟨Or.inr (Or.inl ⟨rfl, o, h, h1, h2⟩), k⟩
theorem g_popAt {l : Addr} {xs : List V} {i : Nat} {y : V} (h : H l = some (.lst xs)) (hi : xs[i]? = some y) (hz : xs.length < 100000) (k : ∀ H', H' l = some (.lst (xs.eraseIdx i)) → (∀ b, b ≠ l → H' b = H b) → Q y H') : rPopAt (.ref l) [.int (i : Int)] H Q := by
  have hl := (List.getElem?_eq_some_iff.mp hi).1
  refine ⟨l, xs, (i : Int), i, y, rfl, rfl, h, by omega, by omega, ?_, hi, k _ upd_same fun b hb => upd_ne hb⟩
  exact (ixN_seq (n := xs.length) (i := (i : Int)) (j := i) (by unfold ixN; rw [if_pos (by omega), if_pos (by omega), Int.toNat_natCast])).1
theorem g_rix {p : Addr} {xs : List V} {j : Int} (h : SqL K H p xs) (ha : atI xs j = some v) (k : Q v H) : rIxL K (.ref p) (.int j) H Q := ⟨p, xs, j, v, rfl, rfl, h, ha, k⟩
theorem g_rixT {p : Addr} {xs : List V} {j : Int} (h : SqT K H p xs) (ha : atI xs j = some v) (k : Q v H) : rIxT K (.ref p) (.int j) H Q := ⟨p, xs, j, v, rfl, rfl, h, ha, k⟩
theorem g_sl {r : V → Option Int → Option Int → Hp → VK → Prop} {tl th : TO} (k : te σ H fun x H1 => tl σ H1 fun l H2 => th σ H2 fun u H3 => r x l u H3 Q) : tSl r te tl th σ H Q := k
theorem g_nopart {Q : Option Int → Hp → Prop} (k : Q none H) : tNoPart σ H Q := k
def rPart (x : V) (H : Hp) (Q : Option Int → Hp → Prop) : Prop := ∃ i, x = .int i ∧ Q (some i) H
theorem g_part {Q : Option Int → Hp → Prop} (k : te σ H fun x H1 => rPart x H1 Q) : tPart te σ H Q := k
theorem g_rpart {Q : Option Int → Hp → Prop} {a : Int} (k : Q (some a) H) : rPart (.int a) H Q := ⟨a, rfl, k⟩
theorem g_m1 {r : V → List V → Hp → VK → Prop} {to : TE} (k : to σ H fun x H1 => rStr x (te σ H1 fun y H2 => r x [y] H2 Q)) : tM1 r to te σ H Q := k
theorem g_m0 {r : V → List V → Hp → VK → Prop} {to : TE} (k : to σ H fun x H1 => rStr x (r x [] H1 Q)) : tM0 r to σ H Q := k
theorem g_rstr {x : Str} {A : Prop} (k : A) : rStr (.str x) A := ⟨⟨x, rfl⟩, k⟩
theorem g_bm0 {T : String} {r : V → List V → Hp → VK → Prop} {to : TE} (k : to σ H fun x H1 => tyV K T x H1 ∧ r x [] H1 Q) : tBM0 K T r to σ H Q := k
theorem g_bm {T : String} {r : V → List V → Hp → VK → Prop} {to : TE} {t : TA} (k : to σ H fun x H1 => tyV K T x H1 ∧ t σ H1 fun xs H2 => r x xs H2 Q) : tBM K T r to t σ H Q := k
theorem g_isB {a b : Bool} (k : Q (.bl (decide (a = b))) H) : rIsB (.bl a) (.bl b) H Q := ⟨a, b, rfl, rfl, k⟩
theorem g_notB {a b : Bool} (k : Q (.bl (!decide (a = b))) H) : rNotB (.bl a) (.bl b) H Q := ⟨a, b, rfl, rfl, k⟩
theorem g_andV (k : ta σ H fun x H1 => ∃ c, x = .bl c ∧ if c = true then tb σ H1 Q else Q (.bl false) H1) : tAndV ta tb σ H Q := k
theorem g_orV (k : ta σ H fun x H1 => ∃ c, x = .bl c ∧ if c = true then Q (.bl true) H1 else tb σ H1 Q) : tOrV ta tb σ H Q := k
theorem g_notV (k : ta σ H fun x H1 => ∃ c, x = .bl c ∧ Q (.bl (!c)) H1) : tNotV ta σ H Q := k
theorem g_isN {x : V} (k : Q (.bl (decide (x = .non))) H) : rIsN x .non H Q := ⟨rfl, k⟩
theorem g_notN {x : V} (k : Q (.bl (!decide (x = .non))) H) : rNotN x .non H Q := ⟨rfl, k⟩
theorem g_cat_str {a b : Str} (h : a.length + b.length ≤ sizeLine) (k : Q (.str (a ++ b)) H) : rCatS (.str a) (.str b) H Q := ⟨a, b, rfl, rfl, h, k⟩
theorem g_int1 {a : Int} (k : Q (.int a) H) : rInt1 [.int a] H Q := .inl ⟨a, rfl, k⟩
theorem g_int1b {b : Bool} (k : Q (.int (if b then 1 else 0)) H) : rInt1 [.bl b] H Q := .inr ⟨b, rfl, k⟩
theorem g_reprB {b : Bool} (k : Q (.str (if b then "True" else "False")) H) : rReprB [.bl b] H Q := ⟨b, rfl, k⟩
theorem g_cat {a b : Addr} {xs ys : List V} (ha : H a = some (.lst xs)) (hb : H b = some (.lst ys)) (hl : xs.length + ys.length ≤ 100000) (k : ∀ p H', H p = none → Same H H' → H' p = some (.lst (xs ++ ys)) → Q (.ref p) H') : rCat (.ref a) (.ref b) H Q :=
  ⟨a, b, xs, ys, rfl, rfl, ha, hb, Nat.le_trans hl (by decide), New.to (Q := fun p H' => Q (.ref p) H') k⟩
theorem g_slL {a : Addr} {xs : List V} {lo hi : Option Int} (h : SqL K H a xs) (k : ∀ p H', H p = none → Same H H' → H' p = some (.lst (cutV xs lo hi)) → Q (.ref p) H') : rSlL K (.ref a) lo hi H Q :=
  ⟨a, xs, rfl, h, New.to (Q := fun p H' => Q (.ref p) H') k⟩
theorem g_inSg {ch : Nat} {z : Str} (k : Q (.bl (decide (ch ∈ z.cps.toList))) H) : rInSg (.str (SX.S [ch])) (.str z) H Q := ⟨ch, z, rfl, rfl, k⟩
theorem g_notInSg {ch : Nat} {z : Str} (k : Q (.bl (!decide (ch ∈ z.cps.toList))) H) : rNotInSg (.str (SX.S [ch])) (.str z) H Q := ⟨ch, z, rfl, rfl, k⟩
theorem g_ord {ch : Nat} (k : Q (.int (ch : Int)) H) : rOrd [.str (SX.S [ch])] H Q := ⟨_, rfl, rfl, k⟩
theorem g_lenL {p : Addr} {ys : List V} (h : SqL K H p ys) (k : Q (.int ys.length) H) : rLenQ K [.ref p] H Q := ⟨p, ys, rfl, .inl h, k⟩
theorem g_lenU {p : Addr} {ys : List V} (h : SqT K H p ys) (k : Q (.int ys.length) H) : rLenQ K [.ref p] H Q := ⟨p, ys, rfl, .inr h, k⟩
theorem g_lenT {z : Str} (h : z.length ≤ sizeLine) (k : Q (.int z.length) H) : rLenT [.str z] H Q := ⟨z, rfl, h, k⟩
theorem g_lenD {a : Addr} {kvs : List (Key × V)} (h : H a = some (.dK kvs)) (k : Q (.int kvs.length) H) : rLenD [.ref a] H Q := ⟨a, kvs, rfl, h, k⟩
theorem g_setL {p : Addr} {xs : List V} {j : Int} {n : Nat} {Q : Hp → Prop} (h : H p = some (.lst xs)) (hj : ixN xs.length j = some n) (k : Q (upd H p (.lst (xs.set n v)))) : rSetL (.ref p) (.int j) v H Q := ⟨p, xs, j, n, rfl, rfl, h, hj, k⟩
theorem g_sub {ti : TE} {t : TSet} {Q : St → Hp → Prop} (k : te σ H fun o H1 => ti σ H1 fun i H2 => t o i v H2 fun H3 => Q σ H3) : gSub te ti t v σ H Q := k
theorem g_dget2 {tx : TE} (k : ta σ H fun x H1 => ∃ a, x = .ref a ∧ IsD H1 a ∧ tb σ H1 fun y H2 => tx σ H2 fun z H3 => ∃ o, DGet H3 a y o ∧ Q (o.getD z) H3) : tDGet2 ta tb tx σ H Q := k
theorem g_orD {b1 b2 : Bool} {Q : Bool → Hp → Prop} (h1 : ∀ Q : Bool → Hp → Prop, Q b1 H → c σ H Q) (h2 : ∀ Q : Bool → Hp → Prop, Q b2 H → d σ H Q) (k : Q (b1 || b2) H) : tOr c d σ H Q := by
  refine h1 _ ?_
  cases b1
  · exact h2 _ k
  · exact k
theorem g_andD {b1 b2 : Bool} {Q : Bool → Hp → Prop} (h1 : ∀ Q : Bool → Hp → Prop, Q b1 H → c σ H Q) (h2 : ∀ Q : Bool → Hp → Prop, Q b2 H → d σ H Q) (k : Q (b1 && b2) H) : tAnd c d σ H Q := by
  refine h1 _ ?_
  cases b1
  · exact k
  · exact h2 _ k
theorem g_rixS {x : Str} {j : Int} {ch : Nat} (h : x.length ≤ sizeLine) (ha : atI x.cps.toList j = some ch) (k : Q (.str (SX.S [ch])) H) : rIxS (.str x) (.int j) H Q := ⟨x, j, ch, rfl, rfl, h, ha, k⟩
/-- for .. in range(r) -/
def kFor1 (g : TG) (tb : TS) (D : Ends) (σ : St) (vs : List V) (H : Hp) : Prop := ∃ j : Int, vs = [.int j] ∧ -(2 ^ 62) ≤ j ∧ j < 2 ^ 62 ∧ ∃ W : Nat → Nat → St → Hp → Prop, (∃ m, W 0 m σ H) ∧ ∀ i m σ H, W i m σ H →
  ((Itr 0 j.toNat).stop i H ∧ D.nx σ H) ∨ ((Itr 0 j.toNat).go i H ∧ ∃ N : St → Hp → Prop, (∀ σ' H', N σ' H' → ∃ m', m' < m ∧ W (i + 1) m' σ' H') ∧ ∀ x H', (Itr 0 j.toNat).yld i H x H' → g x σ H' fun σ2 H2 => tb { D with nx := N, ct := N, bk := D.nx } σ2 H2)
theorem g_forR {tb : TS} (k : tl σ H (kFor1 g tb D σ)) : tFor (iRng1 tl) g tb D σ H := k
theorem g_for1 {tb : TS} {r : Int} (h0 : 0 ≤ r) (h1 : r ≤ 100000) (Pv : Nat → St → Hp → Prop) (hi : Pv 0 σ H) (hs : ∀ (i : Nat) σ H, i < r.toNat → Pv i σ H → g (.int (i : Int)) σ H fun σ2 H2 => tb { D with nx := Pv (i + 1), ct := Pv (i + 1), bk := D.nx } σ2 H2)
    (hd : ∀ σ H, Pv r.toNat σ H → D.nx σ H) : kFor1 g tb D σ [.int r] H :=
  ⟨r, rfl, by omega, by omega, for_range (lo := 0) (n := r.toNat) Pv hi (fun i σ H hi h => by rw [Int.zero_add]; exact hs i σ H hi h) hd⟩
/-! walks -/
def kFor (g : TG) (tb : TS) (D : Ends) (σ : St) (J : It) (H : Hp) : Prop := ∃ W : Nat → Nat → St → Hp → Prop, (∃ m, W 0 m σ H) ∧ ∀ i m σ H, W i m σ H →
  (J.stop i H ∧ D.nx σ H) ∨ (J.go i H ∧ ∃ N : St → Hp → Prop, (∀ σ' H', N σ' H' → ∃ m', m' < m ∧ W (i + 1) m' σ' H') ∧ ∀ x H', J.yld i H x H' → g x σ H' fun σ2 H2 => tb { D with nx := N, ct := N, bk := D.nx } σ2 H2)
theorem g_for {wi : TI} {tb : TS} (k : wi σ H (kFor g tb D σ)) : tFor wi g tb D σ H := k
def rItS (v : V) (H : Hp) (R : It → Hp → Prop) : Prop := ∃ x, v = .str x ∧ R (Its x) H
theorem g_iStr {R : It → Hp → Prop} (k : te σ H fun v H1 => rItS v H1 R) : iStr te σ H R := k
theorem g_ritS {x : Str} {R : It → Hp → Prop} (k : R (Its x) H) : rItS (.str x) H R := ⟨x, rfl, k⟩
def rItL (K : PySem.W.Frag) (v : V) (H : Hp) (R : It → Hp → Prop) : Prop := ∃ a, v = .ref a ∧ (∃ xs, SqL K H a xs) ∧ R (Itl K a) H
theorem g_iList {R : It → Hp → Prop} (k : te σ H fun v H1 => rItL K v H1 R) : iList K te σ H R := k
theorem g_ritL {a : Addr} {xs : List V} {R : It → Hp → Prop} (h : SqL K H a xs) (k : R (Itl K a) H) : rItL K (.ref a) H R := ⟨a, rfl, ⟨xs, h⟩, k⟩
def rItU (K : PySem.W.Frag) (v : V) (H : Hp) (R : It → Hp → Prop) : Prop := ∃ a, v = .ref a ∧ (∃ xs, SqT K H a xs) ∧ R (Itt K a) H
theorem g_iTup {R : It → Hp → Prop} (k : te σ H fun v H1 => rItU K v H1 R) : iTup K te σ H R := k
theorem g_ritU {a : Addr} {xs : List V} {R : It → Hp → Prop} (h : SqT K H a xs) (k : R (Itt K a) H) : rItU K (.ref a) H R := ⟨a, rfl, ⟨xs, h⟩, k⟩
def rItR (vs : List V) (H : Hp) (R : It → Hp → Prop) : Prop := ∃ j : Int, vs = [.int j] ∧ -(2 ^ 62) ≤ j ∧ j < 2 ^ 62 ∧ R (Itr 0 j.toNat) H
theorem g_iRng {R : It → Hp → Prop} (k : tl σ H fun vs H1 => rItR vs H1 R) : iRng1 tl σ H R := k
theorem g_ritR {r : Int} {R : It → Hp → Prop} (h0 : 0 ≤ r) (h1 : r ≤ 100000) (k : R (Itr 0 r.toNat) H) : rItR [.int r] H R := ⟨r, rfl, by omega, by omega, k⟩
/-- the signs of a text, each a text -/
def sgs (l : List Nat) : List V := l.map fun c => V.str (SX.S [c])
theorem walk_sgs {l : List Nat} : Walk (Its (SX.S l)) (sgs l).length (fun _ => True) (YAt (sgs l)) := by
  have e : (sgs l).length = (SX.S l).cps.size := by unfold sgs; simp
  rw [e]
  refine walk_str.mono (fun _ h => h) fun i H x H' hi _ h => ?_
  obtain ⟨h1, c, h2, h3⟩ := h
  refine ⟨h1, ?_⟩
  have h4 : l[i]? = some c := by simpa using h2
  unfold sgs
  rw [List.getElem?_map, h4, h3]
  rfl
theorem sgs_at {l : List Nat} {i : Nat} {x : V} (h : (sgs l)[i]? = some x) : ∃ c, l[i]? = some c ∧ V.str (SX.S [c]) = x := by
  unfold sgs at h
  rw [List.getElem?_map] at h
  cases e : l[i]? with
  | none => rw [e] at h; cases h
  | some c => rw [e] at h; exact ⟨c, rfl, Option.some.inj h⟩
theorem map_at {α : Type} {F : α → V} {l : List α} {i : Nat} {x : V} (h : (l.map F)[i]? = some x) : ∃ c, l[i]? = some c ∧ F c = x := by
  rw [List.getElem?_map] at h
  cases e : l[i]? with
  | none => rw [e] at h; cases h
  | some c => rw [e] at h; exact ⟨c, rfl, Option.some.inj h⟩
theorem sgs_len {l : List Nat} : (sgs l).length = l.length := by unfold sgs; rw [List.length_map]
theorem walk_rng {n : Nat} : Walk (Itr 0 n) ((List.range n).map fun (i : Nat) => V.int (i : Int)).length (fun _ => True) (YAt ((List.range n).map fun (i : Nat) => V.int (i : Int))) := by
  rw [List.length_map, List.length_range]
  refine walk_range.mono (fun _ h => h) fun i H x H' hi _ h => ?_
  obtain ⟨h1, h2⟩ := h
  refine ⟨h1, ?_⟩
  rw [List.getElem?_map, List.getElem?_range hi, h2]
  show some (V.int (i : Int)) = some (V.int (0 + (i : Int)))
  rw [Int.zero_add]
/-- a for over xs -/
theorem for_at {J : It} {xs : List V} {G : Hp → Prop} {tb : TS} (w : Walk J xs.length G (YAt xs)) (Pv : Nat → St → Hp → Prop) (h0 : Pv 0 σ H) (hG : ∀ i σ H, Pv i σ H → G H)
    (hs : ∀ i x σ H, xs[i]? = some x → Pv i σ H → g x σ H fun σ2 H2 => tb { D with nx := Pv (i + 1), ct := Pv (i + 1), bk := D.nx } σ2 H2) (hd : ∀ σ H, Pv xs.length σ H → D.nx σ H) : kFor g tb D σ J H :=
  for_it w Pv h0 (fun i σ H _ h => hG i σ H h) (fun i x σ H H' _ h y => by obtain ⟨e, hx⟩ := y; subst e; exact hs i x σ H' hx h) hd
/-- a comprehension -/
def kLc (g : TG) (tt : TT) (te : TE) (vs : List Nat) (σ : St) (Q : VK) (J : It) (H1 : Hp) : Prop := ∀ D, H1 D = none → ∃ W : Nat → Nat → Hp → Prop, (∃ m, W 0 m (upd H1 D (.lst []))) ∧ ∀ i m H, W i m H →
  (J.stop i H ∧ Q (.ref D) H) ∨ (J.go i H ∧ ∃ Nx : Hp → Prop, (∀ H', Nx H' → ∃ m', m' < m ∧ W (i + 1) m' H') ∧ ∀ x H', J.yld i H x H' → g x (wipe σ vs) H' fun σ2 H2 => wipe σ2 vs = wipe σ vs ∧ tt σ2 H2 fun b H3 =>
    if b = true then te σ2 H3 fun y H4 => ∃ acc, H4 D = some (.lst acc) ∧ acc.length < sizeLine ∧ Nx (upd H4 D (.lst (acc ++ [y]))) else Nx H3)
theorem g_lc {wi : TI} {tt : TT} {vs : List Nat} (k : wi σ H (kLc g tt te vs σ Q)) : tLc wi g tt te vs σ H Q := k
theorem take_ok {α : Type} {xs : List α} {i : Nat} {x : α} (h : xs[i]? = some x) : xs.take (i + 1) = xs.take i ++ [x] := by
  rw [List.take_add_one, h]
  rfl
/-- .. whose items hang on the item alone: xs filtered and mapped; the heap may grow meanwhile -/
theorem lc_map {J : It} {xs : List V} {G : Hp → Prop} {tt : TT} {vs : List Nat} (w : Walk J xs.length G (YAt xs)) (hG : ∀ H', Same H H' → G H') (hz : xs.length ≤ 100000) (p : V → Bool) (f : V → V)
    (hg : ∀ x ∈ xs, ∀ H' (R : St → Hp → Prop), Same H H' → (∀ σ2, wipe σ2 vs = wipe σ vs → (∀ H'' (R : Bool → Hp → Prop), Same H H'' → R (p x) H'' → tt σ2 H'' R) →
      (p x = true → ∀ H'' (R : VK), Same H H'' → (∀ H3, Same H'' H3 → R (f x) H3) → te σ2 H'' R) → R σ2 H') → g x (wipe σ vs) H' R)
    (k : ∀ q H', H q = none → Same H H' → H' q = some (.lst ((xs.filter p).map f)) → Q (.ref q) H') : kLc g tt te vs σ Q J H := by
  intro D hD
  refine lc_it w (fun i H2 => Same H H2 ∧ H2 D = some (.lst (((xs.take i).filter p).map f))) ⟨Same.new hD, upd_same⟩ (fun i H2 _ h => hG H2 h.1) (fun i x H2 H2' hi h y => ?_) (fun H2 h => ?_)
  · obtain ⟨e, hx⟩ := y
    subst e
    refine hg x (List.mem_of_getElem? hx) _ _ h.1 fun σ2 hw ht he => ⟨hw, ?_⟩
    refine ht _ _ h.1 ?_
    have hl : (((xs.take i).filter p).map f).length < sizeLine := by
      rw [List.length_map]
      have h1 := List.length_filter_le p (xs.take i)
      have h2 := List.length_take_le i xs
      exact Nat.lt_of_lt_of_le (show _ < 200000 by omega) (by decide)
    cases hp : p x with
    | true =>
      refine iteT ?_
      refine he hp _ _ h.1 fun H3 s3 => ⟨_, s3 _ _ h.2, hl, (h.1.trans s3).grow hD, ?_⟩
      rw [upd_same, take_ok hx, List.filter_append, List.map_append]
      simp [hp]
    | false =>
      refine iteF ?_
      refine ⟨h.1, ?_⟩
      rw [take_ok hx, List.filter_append]
      simpa [hp] using h.2
  · rw [List.take_length] at h
    exact k D H2 hD h.1 h.2
/-- .. whose items are laid anew: R x y H tells what y is, and hangs on tuples alone -/
theorem lc_new {J : It} {xs : List V} {G : Hp → Prop} {vs : List Nat} (R : V → V → Hp → Prop) (mono : ∀ x y H1 H2, (∀ b ys, H1 b = some (.tup ys) → H2 b = some (.tup ys)) → R x y H1 → R x y H2) (w : Walk J xs.length G (YAt xs)) (hG : ∀ H', Same H H' → G H') (hz : xs.length ≤ 100000)
    (hg : ∀ x ∈ xs, ∀ H' (Rk : St → Hp → Prop), Same H H' → (∀ σ2, wipe σ2 vs = wipe σ vs → (∀ H'' (R' : VK), Same H H'' → (∀ y H3, Same H'' H3 → R x y H3 → R' y H3) → te σ2 H'' R') → Rk σ2 H') → g x (wipe σ vs) H' Rk)
    (k : ∀ (q : Addr) (ys : List V) (H' : Hp), H q = none → Same H H' → ys.length = xs.length → (∀ (i : Nat) (x y : V), xs[i]? = some x → ys[i]? = some y → R x y H') → H' q = some (.lst ys) → Q (.ref q) H') : kLc g tYes te vs σ Q J H := by
  intro D hD
  refine lc_it w (fun i H2 => Same H H2 ∧ ∃ ys : List V, ys.length = i ∧ (∀ (j : Nat) (x y : V), xs[j]? = some x → ys[j]? = some y → R x y H2) ∧ H2 D = some (.lst ys)) ⟨Same.new hD, [], rfl, (fun j x y _ h => (by cases h)), upd_same⟩ (fun i H2 _ h => hG H2 h.1) (fun i x H2 H2' hi h y => ?_) (fun H2 h => ?_)
  · obtain ⟨e, hx⟩ := y
    subst e
    obtain ⟨s1, ys, h1, h2, h3⟩ := h
    refine hg x (List.mem_of_getElem? hx) _ _ s1 fun σ2 hw he => ⟨hw, ?_⟩
    show te σ2 H2' _
    refine he _ _ s1 fun y H3 s3 r3 => ⟨_, s3 _ _ h3, ?_, (s1.trans s3).grow hD, ys ++ [y], by rw [List.length_append, h1]; rfl, fun j x' y' hx' hy' => ?_, upd_same⟩
    · rw [h1]
      exact Nat.lt_of_lt_of_le (show i < 200000 by omega) (by decide)
    · have tk : ∀ b zs, H3 b = some (.tup zs) → (upd H3 D (.lst (ys ++ [y]))) b = some (.tup zs) := fun b zs e => by
        rw [upd_ne (ne_of e (s3 _ _ h3) (by intro z; cases z))]; exact e
      by_cases hj : j < ys.length
      · rw [List.getElem?_append_left hj] at hy'
        exact mono _ _ _ _ (fun b zs e => tk b zs (s3 _ _ e)) (h2 j x' y' hx' hy')
      · rw [List.getElem?_append_right (by omega)] at hy'
        cases hz : j - ys.length with
        | zero =>
          rw [hz] at hy'
          cases hy'
          have : j = i := by omega
          subst this
          rw [hx] at hx'
          cases hx'
          exact mono _ _ _ _ tk r3
        | succ n => rw [hz] at hy'; cases hy'
  · obtain ⟨s1, ys, h1, h2, h3⟩ := h
    exact k D ys H2 hD s1 h1 h2 h3
theorem g_cut {t u : TS} (Mid : St → Hp → Prop) (h1 : t { D with nx := Mid } σ H) (h2 : ∀ σ' H', Mid σ' H' → u D σ' H') : C8.tCut t u D σ H := ⟨Mid, h1, h2⟩
/-! statements -/
theorem g_seq (k : t { D with nx := u D } σ H) : tSeq t u D σ H := k
theorem g_asg (k : te σ H fun x H1 => g x σ H1 D.nx) : tAsg te g D σ H := k
theorem g_name {Q : St → Hp → Prop} (k : Q (σ.set i (some v)) H) : gName i v σ H Q := k
theorem g_ret (k : te σ H D.rt) : tRet te D σ H := k
theorem g_drop (k : te σ H fun _ H1 => D.nx σ H1) : tDrop te D σ H := k
theorem g_next (k : D.nx σ H) : tNext D σ H := k
theorem g_ifs (k : c σ H fun b H1 => if b = true then t D σ H1 else u D σ H1) : tIfS c t u D σ H := k
theorem g_pnx {nx bk ct : St → Hp → Prop} {rt : VK} (k : nx σ H) : Ends.nx ⟨nx, rt, bk, ct⟩ σ H := k
theorem g_prt {nx bk ct : St → Hp → Prop} {rt : VK} (k : rt v H) : Ends.rt ⟨nx, rt, bk, ct⟩ v H := k
theorem g_pbk {nx bk ct : St → Hp → Prop} {rt : VK} (k : bk σ H) : Ends.bk ⟨nx, rt, bk, ct⟩ σ H := k
theorem g_pct {nx bk ct : St → Hp → Prop} {rt : VK} (k : ct σ H) : Ends.ct ⟨nx, rt, bk, ct⟩ σ H := k
/-! ways -/
theorem ifp {p A B : Prop} [Decidable p] (h : p) (k : A) : if decide p = true then A else B := by rw [if_pos (decide_eq_true h)]; exact k
theorem ifn {p A B : Prop} [Decidable p] (h : ¬ p) (k : B) : if decide p = true then A else B := by rw [if_neg (by simp [h])]; exact k
theorem if2 {p A B : Prop} [Decidable p] (h1 : p → A) (h2 : ¬ p → B) : if decide p = true then A else B := by
  by_cases h : p
  · exact ifp h (h1 h)
  · exact ifn h (h2 h)
theorem ifnp {p A B : Prop} [Decidable p] (h : p) (k : B) : if (!decide p) = true then A else B := by rw [if_neg (by simp [h])]; exact k
theorem ifnn {p A B : Prop} [Decidable p] (h : ¬ p) (k : A) : if (!decide p) = true then A else B := by rw [if_pos (by simp [h])]; exact k
theorem ifn2 {p A B : Prop} [Decidable p] (h1 : p → B) (h2 : ¬ p → A) : if (!decide p) = true then A else B := by
  by_cases h : p
  · exact ifnp h (h1 h)
  · exact ifnn h (h2 h)
theorem ifb {b : Bool} {A B : Prop} (h1 : b = true → A) (h2 : b = false → B) : if b = true then A else B := by
  cases b
  · exact iteF (h2 rfl)
  · exact iteT (h1 rfl)
theorem int_eq {a b : Int} : (V.int a = V.int b) ↔ a = b := ⟨fun h => V.int.inj h, fun h => by rw [h]⟩
theorem str_eq {a b : Str} : (V.str a = V.str b) ↔ a = b := ⟨fun h => V.str.inj h, fun h => by rw [h]⟩
theorem bl_eq {a b : Bool} : (V.bl a = V.bl b) ↔ a = b := ⟨fun h => V.bl.inj h, fun h => by rw [h]⟩
end
/-! one step of a reading: the keys are ours -/

/-! ### steps of the heap: whose objects changed (c tells each object's owner) -/
structure Stp (I : Nat → Prop) (c c' : Addr → Nat) (H H' : Hp) : Prop where
  keep : ∀ b o, H b = some o → ¬ I (c b) → H' b = some o
  col : ∀ b o, H b = some o → c' b = c b
  tup : ∀ b xs, H b = some (.tup xs) → H' b = some (.tup xs)
  fre : ∀ b, H' b = none → H b = none
namespace Stp
variable {I J : Nat → Prop} {c c' c'' : Addr → Nat} {H H' H'' : Hp}
theorem refl : Stp I c c H H := ⟨fun _ _ h _ => h, fun _ _ _ => rfl, fun _ _ h => h, fun _ h => h⟩
theorem some' (s : Stp I c c' H H') {b : Addr} {o : HO} (h : H b = some o) : ∃ o', H' b = some o' := by
  cases e : H' b with
  | none => rw [s.fre b e] at h; cases h
  | some o' => exact ⟨o', rfl⟩
theorem trans (a : Stp I c c' H H') (b : Stp I c' c'' H' H'') : Stp I c c'' H H'' := by
  refine ⟨fun x o h n => b.keep x o (a.keep x o h n) (by rw [a.col x o h]; exact n), fun x o h => ?_, fun x xs h => b.tup x xs (a.tup x xs h), fun x h => a.fre x (b.fre x h)⟩
  obtain ⟨o', h'⟩ := a.some' h
  rw [b.col x o' h', a.col x o h]
theorem mono (a : Stp I c c' H H') (h : ∀ i, I i → J i) : Stp J c c' H H' := ⟨fun x o e n => a.keep x o e fun z => n (h _ z), a.col, a.tup, a.fre⟩
theorem same (h : Same H H') : Stp I c c H H' := ⟨fun x o e _ => h x o e, fun _ _ _ => rfl, fun x xs e => h x _ e, fun _ e => h.free e⟩
theorem own {b : Addr} {o o' : HO} (h : H b = some o) (hi : I (c b)) (ht : ∀ xs, o ≠ .tup xs) : Stp I c c H (upd H b o') := by
  refine ⟨fun x u e n => ?_, fun _ _ _ => rfl, fun x xs e => ?_, fun x e => ?_⟩
  · rw [upd_ne (fun z => n (by rw [z]; exact hi))]; exact e
  · rw [upd_ne (fun z => ht xs (by subst z; rw [h] at e; exact Option.some.inj e))]; exact e
  · by_cases z : x = b
    · subst z; rw [upd_same] at e; cases e
    · rw [upd_ne z] at e; exact e
/-- one own object changed -/
theorem ch {b : Addr} {o o' : HO} (h : H b = some o) (hi : I (c b)) (ht : ∀ xs, o ≠ .tup xs) (h' : H' b = some o') (k : ∀ x, x ≠ b → H' x = H x) : Stp I c c H H' := by
  refine ⟨fun x u e n => ?_, fun _ _ _ => rfl, fun x xs e => ?_, fun x e => ?_⟩
  · rw [k x (fun z => n (by rw [z]; exact hi))]; exact e
  · rw [k x (fun z => ht xs (by subst z; rw [h] at e; exact Option.some.inj e))]; exact e
  · by_cases z : x = b
    · subst z; rw [h'] at e; cases e
    · rw [k x z] at e; exact e
theorem sameC (h : Same H H') (hc : ∀ b o, H b = some o → c' b = c b) : Stp I c c' H H' := ⟨fun x o e _ => h x o e, hc, fun x xs e => h x _ e, fun _ e => h.free e⟩
theorem new {p : Addr} {o : HO} (h : H p = none) : Stp I c c H (upd H p o) := same fun b u e => by rw [upd_ne (ne_of_none e h)]; exact e
/-- a new object gets its owner -/
def paint (c : Addr → Nat) (p : Addr) (i : Nat) : Addr → Nat := fun b => if b = p then i else c b
theorem paint_same {p : Addr} {i : Nat} : paint c p i p = i := by unfold paint; rw [if_pos rfl]
theorem paint_ne {p b : Addr} {i : Nat} (h : b ≠ p) : paint c p i b = c b := by unfold paint; rw [if_neg h]
theorem newc {p : Addr} {o : HO} {i : Nat} (h : H p = none) : Stp I c (paint c p i) H (upd H p o) :=
  ⟨fun b u e _ => by rw [upd_ne (ne_of_none e h)]; exact e, fun b u e => paint_ne (ne_of_none e h), fun b xs e => by rw [upd_ne (ne_of_none e h)]; exact e, fun b e => by
    by_cases z : b = p
    · subst z; rw [upd_same] at e; cases e
    · rw [upd_ne z] at e; exact e⟩
end Stp
end Lw
namespace Lw
open PySem L2
open PyProof.Rows (envOfC)
theorem lk_eq {k : Str} {v : V} {l : List (Str × V)} : List.lookup k ((k, v) :: l) = some v := by simp [List.lookup]
theorem lk_ne {k k' : Str} {v : V} {l : List (Str × V)} (h : (k == k') = false) : List.lookup k ((k', v) :: l) = l.lookup k := by simp [List.lookup, h]
theorem lk_no {m : Str} : ∀ {l : List (Str × V)}, (l.map (·.1)).all (fun f => !(m == f)) = true → l.lookup m = none
  | [], _ => rfl
  | (k, v) :: l, h => by
    have h : (!(m == k) && (l.map (·.1)).all (fun f => !(m == f))) = true := h
    rw [Bool.and_eq_true, Bool.not_eq_true'] at h
    rw [lk_ne h.1]
    exact lk_no h.2
theorem putF_le {f : Str} {y : V} : ∀ {fs : List (Str × V)}, (putF f y fs).length ≤ fs.length + 1
  | [] => Nat.le_refl _
  | (k, v) :: r => by
    show (if k = f then _ else _ : List (Str × V)).length ≤ _
    split
    · exact Nat.le_succ _
    · exact Nat.succ_le_succ putF_le
theorem pf_eq {k : Str} {y v : V} {l : List (Str × V)} : putF k y ((k, v) :: l) = (k, y) :: l := by
  show (if k = k then _ else _) = _
  rw [if_pos rfl]
theorem pf_ne {k k' : Str} {y v : V} {l : List (Str × V)} (h : ¬ k' = k) : putF k y ((k', v) :: l) = (k', v) :: putF k y l := by
  show (if k' = k then _ else _) = _
  rw [if_neg h]
theorem empty_S : ("" : Str) = SX.S [] := by decide +kernel
theorem join_empty (l : List Nat) : Txt.join ("" : Str) (l.map fun c => SX.S [c]) = SX.S l := by
  have e : (l.map fun c => SX.S [c]) = (l.map fun c => [c]).map SX.S := by rw [List.map_map]; rfl
  rw [empty_S, e, SX.join_S]
  have h : ∀ l : List Nat, TL.joinL [] (l.map fun c => [c]) = l := by
    intro l
    induction l with
    | nil => rfl
    | cons a r ih =>
      cases r with
      | nil => rfl
      | cons b r => 
        show [a] ++ ([] ++ TL.joinL [] ((b :: r).map fun c => [c])) = a :: b :: r
        rw [ih]
        rfl
  rw [h]
theorem sum_ones (l : List Nat) : ((l.map fun c => SX.S [c]).map (·.length)).sum = l.length := by
  induction l with
  | nil => rfl
  | cons a r ih =>
    rw [List.map_cons, List.map_cons, List.sum_cons, ih, SX.S_len, List.length_cons]
    simp only [List.length_cons, List.length_nil]
    omega
theorem join_flat (l : List (List Nat)) : Txt.join ("" : Str) (l.map SX.S) = SX.S l.flatten := by
  rw [empty_S, SX.join_S]
  have h : ∀ l : List (List Nat), TL.joinL [] l = l.flatten := by
    intro l
    induction l with
    | nil => rfl
    | cons a r ih =>
      cases r with
      | nil => show a = a ++ []; rw [List.append_nil]
      | cons b r =>
        show a ++ ([] ++ TL.joinL [] (b :: r)) = _
        rw [ih]
        rfl
  rw [h]
theorem sum_flat (l : List (List Nat)) : ((l.map SX.S).map (·.length)).sum = l.flatten.length := by
  rw [SX.lens, List.length_flatten]
theorem L2x_sameN {I : Nat → Prop} {c : Addr → Nat} {H H' : Hp} {p : Addr} {i : Nat} (s : Same H H') (n : H p = none) : Stp I c (Stp.paint c p i) H H' := Stp.sameC s fun b o e => Stp.paint_ne (ne_of_none e n)
end Lw
local macro_rules | `(tactic| walk_at "lw side") => `(tactic| first | assumption | decide | omega | exact Or.inr ⟨by decide, by decide⟩ | exact Or.inl ⟨by decide, by decide⟩ | exact ⟨by decide, by decide⟩ | exact ⟨by omega, by omega⟩)
local macro_rules | `(tactic| walk_at "lw ne") => `(tactic| first | assumption | exact Ne.symm (by assumption) | exact L2.ne_of_none (by assumption) (by assumption) | exact Ne.symm (L2.ne_of_none (by assumption) (by assumption)))
local macro_rules | `(tactic| walk_at "lw hp") => `(tactic| first | assumption | exact L2.upd_same | (refine Eq.trans (L2.upd_ne (by walk_at "lw ne")) ?_; walk_at "lw hp"))
local macro_rules | `(tactic| walk_at "lw sq") => `(tactic| first | assumption | exact L2.SqL.of (by walk_at "lw hp") | exact L2.SqT.of (by walk_at "lw hp"))
local macro_rules | `(tactic| walk_at "lw go") => `(tactic| first
  | (with_reducible refine Lw.g_seq ?_)
  | ((with_reducible refine' Lw.g_var ?h1 ?k1); (case h1 => rfl))
  | (with_reducible refine Lw.g_c ?_)
  | (with_reducible refine Lw.g_op ?_)
  | (with_reducible refine Lw.g_I0 ?_)
  | ((with_reducible refine' Lw.g_I ?h1 ?k1); (case h1 => walk_at "lw side"))
  | ((with_reducible refine' Lw.g_eq ?h1 ?k1); (case h1 => rfl))
  | ((with_reducible refine' Lw.g_ne ?h1 ?k1); (case h1 => rfl))
  | (with_reducible refine Lw.g_nil ?_)
  | (with_reducible refine Lw.g_cons ?_)
  | (with_reducible refine Lw.g_cb ?_)
  | (with_reducible refine Lw.g_call ?_)
  | (with_reducible refine Lw.g_test ?_)
  | (with_reducible refine Lw.g_B ?_)
  | (with_reducible refine Lw.g_exb ?_)
  | (with_reducible refine Lw.g_not ?_)
  | (with_reducible refine Lw.g_and ?_)
  | (with_reducible refine Lw.g_or ?_)
  | (with_reducible refine Lw.g_tup ?_)
  | (with_reducible refine Lw.g_lst ?_)
  | (with_reducible refine Lw.g_ifx ?_)
  | (with_reducible refine Lw.g_fld ?_)
  | (with_reducible refine Lw.g_asg ?_)
  | (with_reducible refine Lw.g_name ?_)
  | (with_reducible refine Lw.g_ret ?_)
  | (with_reducible refine Lw.g_drop ?_)
  | (with_reducible refine Lw.g_next ?_)
  | (with_reducible refine Lw.g_ifs ?_)
  | (with_reducible refine Lw.g_pnx ?_)
  | (with_reducible refine Lw.g_prt ?_)
  | (with_reducible refine Lw.g_pbk ?_)
  | (with_reducible refine Lw.g_pct ?_)
  | (with_reducible refine Lw.g_sl ?_)
  | (with_reducible refine Lw.g_nopart ?_)
  | (with_reducible refine Lw.g_part ?_)
  | (with_reducible refine Lw.g_rpart ?_)
  | (with_reducible refine Lw.g_m1 ?_)
  | (with_reducible refine Lw.g_m0 ?_)
  | (with_reducible refine Lw.g_rstr ?_)
  | (with_reducible refine Lw.g_bm0 ?_)
  | (with_reducible refine Lw.g_bm ?_)
  | (with_reducible refine Lw.g_isN ?_)
  | (with_reducible refine Lw.g_isB ?_)
  | (with_reducible refine Lw.g_notB ?_)
  | (with_reducible refine Lw.g_andV ?_)
  | (with_reducible refine Lw.g_orV ?_)
  | (with_reducible refine Lw.g_notV ?_)
  | (with_reducible refine Lw.g_notN ?_)
  | (with_reducible refine L2.iteT ?_)
  | (with_reducible refine L2.iteF ?_)
  | (with_reducible refine Lw.g_int1 ?_)
  | (with_reducible refine Lw.g_int1b ?_)
  | (with_reducible refine Lw.g_sub ?_)
  | (with_reducible refine Lw.g_forR ?_)
  | (with_reducible refine Lw.g_for ?_)
  | (with_reducible refine Lw.g_lc ?_)
  | (with_reducible refine Lw.g_iStr ?_)
  | (with_reducible refine Lw.g_ritS ?_)
  | (with_reducible refine Lw.g_tyS ?_)
  | (with_reducible refine Lw.g_iList ?_)
  | (with_reducible refine Lw.g_iTup ?_)
  | (with_reducible refine Lw.g_iRng ?_)
  | (with_reducible refine Lw.g_inSg ?_)
  | (with_reducible refine Lw.g_notInSg ?_)
  | (with_reducible refine Lw.g_ord ?_)
  | (with_reducible refine Lw.g_reprB ?_)
  | (with_reducible refine Lw.g_sfld ?_)
  | (with_reducible refine Lw.g_meth ?_)
  | (with_reducible refine Lw.g_make ?_)
  | (with_reducible refine Lw.g_dget ?_)
  | (with_reducible refine Lw.g_din ?_)
  | (with_reducible refine Lw.g_dnotin ?_)
  | (with_reducible refine Lw.g_dput ?_)
  | (with_reducible refine Lw.g_ddel ?_)
  | (with_reducible refine Lw.g_dpop1 ?_)
  | (with_reducible refine Lw.g_dget1 ?_)
  | (with_reducible refine Lw.g_iKeys ?_)
  | (with_reducible refine Lw.g_fldaug ?_)
  | ((with_reducible refine' Lw.g_lenL ?h1 ?k1); (case h1 => walk_at "lw sq"))
  | ((with_reducible refine' Lw.g_lenD ?h1 ?k1); (case h1 => walk_at "lw hp")))
local macro_rules | `(tactic| walk_at "lw") => `(tactic| repeat walk_at "lw go")
local macro_rules | `(tactic| walk_at "lw hp") => `(tactic| first | assumption | exact L2.upd_same | exact L2.Same.at (by assumption) (by walk_at "lw hp") | (refine Eq.trans (L2.upd_ne (by walk_at "lw ne")) ?_; walk_at "lw hp"))
local macro_rules | `(tactic| walk_at "lw go") => `(tactic| first
  | ((with_reducible refine Lw.g_kinT (b := true) (by decide) rfl rfl (by decide +kernel) ?_); intro _ _)
  | ((with_reducible refine Lw.g_kinT (b := false) (by decide) rfl rfl (by decide +kernel) ?_); intro _ _)
  | ((with_reducible refine Lw.g_kninT (b := true) (by decide) rfl rfl (by decide +kernel) ?_); intro _ _)
  | ((with_reducible refine Lw.g_kninT (b := false) (by decide) rfl rfl (by decide +kernel) ?_); intro _ _)
  | ((with_reducible refine Lw.g_kinL (b := true) (by decide) rfl rfl (by decide +kernel) ?_); intro _ _)
  | ((with_reducible refine Lw.g_kinL (b := false) (by decide) rfl rfl (by decide +kernel) ?_); intro _ _)
  | ((with_reducible refine Lw.g_kninL (b := true) (by decide) rfl rfl (by decide +kernel) ?_); intro _ _)
  | ((with_reducible refine Lw.g_kninL (b := false) (by decide) rfl rfl (by decide +kernel) ?_); intro _ _)
  | (with_reducible refine Lw.g_pairs1 ?_)
  | (with_reducible refine Lw.g_pairs0 ?_)
  | (with_reducible refine Lw.g_gcons ?_)
  | (with_reducible refine Lw.g_gnil ?_)
  | (with_reducible refine Lw.ifT (by decide +kernel) ?_)
  | (with_reducible refine Lw.ifF (by decide +kernel) ?_))
local macro_rules | `(tactic| walk_at "lw same") => `(tactic| first | assumption | exact L2.Same.refl _ | (refine L2.Same.trans ?_ (by assumption); walk_at "lw same"))
local macro_rules | `(tactic| walk_at "lw go") => `(tactic| first
  | ((with_reducible refine' Lw.g_rfld (f := "layers") ?h1 ?h2 ?h3 Lw.f_Pusher_layers ?k1); (case h1 => walk_at "lw hp"); (case h2 => exact Lw.Txt.cl_Pusher (by assumption)); (case h3 => exact Lw.Txt.na_Pusher_layers (by assumption)))
  | ((with_reducible refine' Lw.g_rfld (f := "name") ?h1 ?h2 ?h3 Lw.f_Pusher_name ?k1); (case h1 => walk_at "lw hp"); (case h2 => exact Lw.Txt.cl_Pusher (by assumption)); (case h3 => exact Lw.Txt.na_Pusher_name (by assumption)))
  | ((with_reducible refine' Lw.g_rfld (f := "platform") ?h1 ?h2 ?h3 Lw.f_Pusher_platform ?k1); (case h1 => walk_at "lw hp"); (case h2 => exact Lw.Txt.cl_Pusher (by assumption)); (case h3 => exact Lw.Txt.na_Pusher_platform (by assumption)))
  | ((with_reducible refine' Lw.g_rfld (f := "number") ?h1 ?h2 ?h3 Lw.f_Pusher_number ?k1); (case h1 => walk_at "lw hp"); (case h2 => exact Lw.Txt.cl_Pusher (by assumption)); (case h3 => exact Lw.Txt.na_Pusher_number (by assumption)))
  | ((with_reducible refine' Lw.g_rfld (f := "done") ?h1 ?h2 ?h3 Lw.f_Pusher_done ?k1); (case h1 => walk_at "lw hp"); (case h2 => exact Lw.Txt.cl_Pusher (by assumption)); (case h3 => exact Lw.Txt.na_Pusher_done (by assumption)))
  | ((with_reducible refine' Lw.g_rfld (f := "step") ?h1 ?h2 ?h3 Lw.f_Pusher_step ?k1); (case h1 => walk_at "lw hp"); (case h2 => exact Lw.Txt.cl_Pusher (by assumption)); (case h3 => exact Lw.Txt.na_Pusher_step (by assumption)))
  | ((with_reducible refine' Lw.g_rfld (f := "claim") ?h1 ?h2 ?h3 Lw.f_Pusher_claim ?k1); (case h1 => walk_at "lw hp"); (case h2 => exact Lw.Txt.cl_Pusher (by assumption)); (case h3 => exact Lw.Txt.na_Pusher_claim (by assumption)))
  | ((with_reducible refine' Lw.g_rfld (f := "place") ?h1 ?h2 ?h3 Lw.f_Pusher_place ?k1); (case h1 => walk_at "lw hp"); (case h2 => exact Lw.Txt.cl_Pusher (by assumption)); (case h3 => exact Lw.Txt.na_Pusher_place (by assumption)))
  | ((with_reducible refine' Lw.g_rfld (f := "upload") ?h1 ?h2 ?h3 Lw.f_Pusher_upload ?k1); (case h1 => walk_at "lw hp"); (case h2 => exact Lw.Txt.cl_Pusher (by assumption)); (case h3 => exact Lw.Txt.na_Pusher_upload (by assumption)))
  | ((with_reducible refine' Lw.g_rfld (f := "at") ?h1 ?h2 ?h3 Lw.f_Pusher_at ?k1); (case h1 => walk_at "lw hp"); (case h2 => exact Lw.Txt.cl_Pusher (by assumption)); (case h3 => exact Lw.Txt.na_Pusher_at (by assumption)))
  | ((with_reducible refine' Lw.g_rmeth ?h1 (Lw.f_Pusher_no (by decide +kernel)) ?k1); (case h1 => walk_at "lw hp")))
local macro_rules | `(tactic| walk_at "lw go") => `(tactic| first
  | ((with_reducible refine' Lw.g_md_step ?h1 ?k1); (case h1 => walk_at "lw hp"))
  | ((with_reducible refine' Lw.g_md_claim ?h1 ?k1); (case h1 => walk_at "lw hp"))
  | ((with_reducible refine' Lw.g_md_upload ?h1 ?k1); (case h1 => walk_at "lw hp"))
  | ((with_reducible refine' Lw.g_md_at ?h1 ?k1); (case h1 => walk_at "lw hp"))
  | ((with_reducible refine' Lw.g_md_place ?h1 ?k1); (case h1 => walk_at "lw hp")))

/-! ## dicts: the steps -/
namespace Lw
open PySem L2 PySem.Spec
open PyProof.Rows (envOfC sortedS risingS)
/-- the key behind a value -/
def kI (i : Int) : Key := .inl i
def kS (x : Str) : Key := .inr x
section
variable {σ : L2.St} {H : Hp} {Q : VK} {K : PySem.W.Frag} {D : Ends} {ta tb te tx : TE} {tl : TA} {t u : TS} {i : Nat} {v : V} {g : TG}
def rDGet (x y : V) (H : Hp) (Q : VK) : Prop := ∃ a v, x = .ref a ∧ DGet H a y (some v) ∧ Q v H
theorem g_dget (k : ta σ H fun x H1 => tb σ H1 fun y H2 => rDGet x y H2 Q) : tDGet ta tb σ H Q := k
theorem g_rdgetI {a : Addr} {kvs : List (Key × V)} {j : Int} (h : Rd H a (.dK kvs)) (hv : valV kvs (kI j) = some v) (k : Q v H) : rDGet (.ref a) (.int j) H Q := ⟨a, v, rfl, .inl ⟨kvs, kI j, h, rfl, hv.symm⟩, k⟩
theorem g_rdgetS {a : Addr} {kvs : List (Key × V)} {z : Str} (h : Rd H a (.dK kvs)) (hv : valV kvs (kS z) = some v) (k : Q v H) : rDGet (.ref a) (.str z) H Q := ⟨a, v, rfl, .inl ⟨kvs, kS z, h, rfl, hv.symm⟩, k⟩
def rDIn (y x : V) (H : Hp) (Q : VK) : Prop := ∃ a o, x = .ref a ∧ DGet H a y o ∧ Q (.bl o.isSome) H
theorem g_din (k : ta σ H fun y H1 => tb σ H1 fun x H2 => rDIn y x H2 Q) : tDIn ta tb σ H Q := k
theorem g_rdinI {a : Addr} {kvs : List (Key × V)} {j : Int} (h : Rd H a (.dK kvs)) (k : Q (.bl (valV kvs (kI j)).isSome) H) : rDIn (.int j) (.ref a) H Q := ⟨a, _, rfl, .inl ⟨kvs, kI j, h, rfl, rfl⟩, k⟩
theorem g_rdinS {a : Addr} {kvs : List (Key × V)} {z : Str} (h : Rd H a (.dK kvs)) (k : Q (.bl (valV kvs (kS z)).isSome) H) : rDIn (.str z) (.ref a) H Q := ⟨a, _, rfl, .inl ⟨kvs, kS z, h, rfl, rfl⟩, k⟩
def rDNotIn (y x : V) (H : Hp) (Q : VK) : Prop := ∃ a o, x = .ref a ∧ DGet H a y o ∧ Q (.bl (!o.isSome)) H
theorem g_dnotin (k : ta σ H fun y H1 => tb σ H1 fun x H2 => rDNotIn y x H2 Q) : tDNotIn ta tb σ H Q := k
theorem g_rdnotinI {a : Addr} {kvs : List (Key × V)} {j : Int} (h : Rd H a (.dK kvs)) (k : Q (.bl (!(valV kvs (kI j)).isSome)) H) : rDNotIn (.int j) (.ref a) H Q := ⟨a, _, rfl, .inl ⟨kvs, kI j, h, rfl, rfl⟩, k⟩
theorem g_rdnotinS {a : Addr} {kvs : List (Key × V)} {z : Str} (h : Rd H a (.dK kvs)) (k : Q (.bl (!(valV kvs (kS z)).isSome)) H) : rDNotIn (.str z) (.ref a) H Q := ⟨a, _, rfl, .inl ⟨kvs, kS z, h, rfl, rfl⟩, k⟩
def rDPut (x y v : V) (H : Hp) (R : Hp → Prop) : Prop := ∃ a H', x = .ref a ∧ DPut H a y v H' ∧ R H'
theorem g_dput (k : te σ H fun v H1 => ta σ H1 fun x H2 => tb σ H2 fun y H3 => rDPut x y v H3 fun H4 => D.nx σ H4) : sDPut ta tb te D σ H := k
theorem g_rdputI {a : Addr} {kvs : List (Key × V)} {j : Int} {R : Hp → Prop} (h : H a = some (.dK kvs)) (hl : kvs.length < 100000) (k : ∀ H', H' a = some (.dK (putK kvs (kI j) v)) → (∀ b, b ≠ a → H' b = H b) → R H') : rDPut (.ref a) (.int j) v H R :=
  ⟨a, _, rfl, .inl ⟨kvs, kI j, h, rfl, Nat.lt_of_lt_of_le hl (by decide), rfl⟩, k _ upd_same fun b hb => upd_ne hb⟩
theorem g_rdputS {a : Addr} {kvs : List (Key × V)} {z : Str} {R : Hp → Prop} (h : H a = some (.dK kvs)) (hl : kvs.length < 100000) (k : ∀ H', H' a = some (.dK (putK kvs (kS z) v)) → (∀ b, b ≠ a → H' b = H b) → R H') : rDPut (.ref a) (.str z) v H R :=
  ⟨a, _, rfl, .inl ⟨kvs, kS z, h, rfl, Nat.lt_of_lt_of_le hl (by decide), rfl⟩, k _ upd_same fun b hb => upd_ne hb⟩
def rDDel (x y : V) (H : Hp) (R : Hp → Prop) : Prop := ∃ a kvs k, x = .ref a ∧ H a = some (.dK kvs) ∧ y = kV k ∧ (valV kvs k).isSome = true ∧ R (upd H a (.dK (dropK kvs k)))
theorem g_ddel (k : ta σ H fun x H1 => tb σ H1 fun y H2 => rDDel x y H2 fun H3 => D.nx σ H3) : sDDel ta tb D σ H := k
theorem g_rddelI {a : Addr} {kvs : List (Key × V)} {j : Int} {R : Hp → Prop} (h : H a = some (.dK kvs)) (hs : (valV kvs (kI j)).isSome = true) (k : ∀ H', H' a = some (.dK (dropK kvs (kI j))) → (∀ b, b ≠ a → H' b = H b) → R H') : rDDel (.ref a) (.int j) H R :=
  ⟨a, kvs, kI j, rfl, h, rfl, hs, k _ upd_same fun b hb => upd_ne hb⟩
theorem g_rddelS {a : Addr} {kvs : List (Key × V)} {z : Str} {R : Hp → Prop} (h : H a = some (.dK kvs)) (hs : (valV kvs (kS z)).isSome = true) (k : ∀ H', H' a = some (.dK (dropK kvs (kS z))) → (∀ b, b ≠ a → H' b = H b) → R H') : rDDel (.ref a) (.str z) H R :=
  ⟨a, kvs, kS z, rfl, h, rfl, hs, k _ upd_same fun b hb => upd_ne hb⟩
def rIsD (x : V) (H : Hp) (A : Addr → Prop) : Prop := ∃ a, x = .ref a ∧ IsD H a ∧ A a
theorem g_risd {a : Addr} {kvs : List (Key × V)} {A : Addr → Prop} (h : Rd H a (.dK kvs)) (k : A a) : rIsD (.ref a) H A := ⟨a, rfl, .inl ⟨kvs, h⟩, k⟩
def rDPop (a : Addr) (y : V) (H : Hp) (Q : VK) : Prop := ∃ kvs k v, H a = some (.dK kvs) ∧ y = kV k ∧ valV kvs k = some v ∧ Q v (upd H a (.dK (dropK kvs k)))
theorem g_dpop1 (k : ta σ H fun x H1 => rIsD x H1 fun a => tb σ H1 fun y H2 => rDPop a y H2 Q) : tDPop1 ta tb σ H Q := k
theorem g_rdpopI {a : Addr} {kvs : List (Key × V)} {j : Int} (h : H a = some (.dK kvs)) (hv : valV kvs (kI j) = some v) (k : ∀ H', H' a = some (.dK (dropK kvs (kI j))) → (∀ b, b ≠ a → H' b = H b) → Q v H') : rDPop a (.int j) H Q :=
  ⟨kvs, kI j, v, h, rfl, hv, k _ upd_same fun b hb => upd_ne hb⟩
theorem g_rdpopS {a : Addr} {kvs : List (Key × V)} {z : Str} (h : H a = some (.dK kvs)) (hv : valV kvs (kS z) = some v) (k : ∀ H', H' a = some (.dK (dropK kvs (kS z))) → (∀ b, b ≠ a → H' b = H b) → Q v H') : rDPop a (.str z) H Q :=
  ⟨kvs, kS z, v, h, rfl, hv, k _ upd_same fun b hb => upd_ne hb⟩
def rDGet1 (a : Addr) (y : V) (H : Hp) (Q : VK) : Prop := ∃ o, DGet H a y o ∧ Q (o.getD .non) H
theorem g_dget1 (k : ta σ H fun x H1 => rIsD x H1 fun a => tb σ H1 fun y H2 => rDGet1 a y H2 Q) : tDGet1 ta tb σ H Q := k
theorem g_rdget1I {a : Addr} {kvs : List (Key × V)} {j : Int} (h : Rd H a (.dK kvs)) (k : Q ((valV kvs (kI j)).getD .non) H) : rDGet1 a (.int j) H Q := ⟨_, .inl ⟨kvs, kI j, h, rfl, rfl⟩, k⟩
theorem g_rdget1S {a : Addr} {kvs : List (Key × V)} {z : Str} (h : Rd H a (.dK kvs)) (k : Q ((valV kvs (kS z)).getD .non) H) : rDGet1 a (.str z) H Q := ⟨_, .inl ⟨kvs, kS z, h, rfl, rfl⟩, k⟩
theorem g_dnew (k : ∀ p H', H p = none → Same H H' → H' p = some (.dK []) → Q (.ref p) H') : tDNewK σ H Q := New.to (Q := fun p H' => Q (.ref p) H') k
/-- {k: v, ..} -/
def rDisp (p : Addr) (ps : List (V × V)) (H2 : Hp) (Q : VK) : Prop := H2 p = some (.dK []) ∧ ∃ kvs : List (Key × V), ps = kvs.map (fun kv => (kV kv.1, kv.2)) ∧ kvs.length ≤ 15 ∧ Q (.ref p) (upd H2 p (.dK (mergeK [] kvs)))
theorem g_disp {trs : List (TE × TE)} (k : ∀ p H', H p = none → Same H H' → H' p = some (.dK []) → tPairs trs σ H' fun ps H2 => rDisp p ps H2 Q) : tDisp trs σ H Q := fun p hp => k p _ hp (Same.new hp) upd_same
theorem g_pairs0 {Q : List (V × V) → Hp → Prop} (k : Q [] H) : tPairs [] σ H Q := k
theorem g_pairs1 {trs : List (TE × TE)} {Q : List (V × V) → Hp → Prop} (k : ta σ H fun x H1 => tb σ H1 fun y H2 => tPairs trs σ H2 fun ps H3 => Q ((x, y) :: ps) H3) : tPairs ((ta, tb) :: trs) σ H Q := k
theorem g_rdisp {p : Addr} {ps : List (V × V)} {kvs : List (Key × V)} (h : H p = some (.dK [])) (e : ps = kvs.map (fun kv => (kV kv.1, kv.2))) (hl : kvs.length ≤ 15) (k : ∀ H', H' p = some (.dK (mergeK [] kvs)) → (∀ b, b ≠ p → H' b = H b) → Q (.ref p) H') : rDisp p ps H Q := ⟨h, kvs, e, hl, k _ upd_same fun b hb => upd_ne hb⟩
/-- a loop over a dict's keys -/
theorem g_lock {d : Addr} {kvs : List (Key × V)} (h : H d = some (.dK kvs)) (k : ∀ od H', H' d = some (.frz od (.dK kvs)) → (∀ b, b ≠ d → H' b = H b) →
    t ⟨fun σ' H' => H' d = some (.frz od (.dK kvs)) ∧ D.nx σ' (upd H' d (.dK kvs)), fun v H' => H' d = some (.frz od (.dK kvs)) ∧ D.rt v (upd H' d (.dK kvs)), fun σ' H' => H' d = some (.frz od (.dK kvs)) ∧ D.bk σ' (upd H' d (.dK kvs)), fun σ' H' => H' d = some (.frz od (.dK kvs)) ∧ D.ct σ' (upd H' d (.dK kvs))⟩ σ H') : tLock t D σ H :=
  ⟨d, _, h, trivial, fun od => k od _ upd_same fun b hb => upd_ne hb⟩
def rItK (x : V) (H : Hp) (R : It → Hp → Prop) : Prop := ∃ d o, x = .ref d ∧ ((∃ kvs, H d = some (.frz o (.dK kvs)) ∧ R (Itk d o kvs) H) ∨ ∃ kvs, H d = some (.frz o (.dT kvs)) ∧ R (Itkt d o kvs) H)
theorem g_iKeys {R : It → Hp → Prop} (k : te σ H fun v H1 => rItK v H1 R) : iKeys te σ H R := k
theorem g_ritK {d : Addr} {o : Obj} {kvs : List (Key × V)} {R : It → Hp → Prop} (h : H d = some (.frz o (.dK kvs))) (k : R (Itk d o kvs) H) : rItK (.ref d) H R := ⟨d, o, rfl, .inl ⟨kvs, h, k⟩⟩
theorem walk_ks {d : Addr} {o : Obj} {kvs : List (Key × V)} : Walk (Itk d o kvs) (kvs.map fun kv => kV kv.1).length (fun H => H d = some (.frz o (.dK kvs))) (YAt (kvs.map fun kv => kV kv.1)) := by
  rw [List.length_map]
  refine walk_keys.mono (fun _ h => h) fun i H x H' hi _ h => ?_
  obtain ⟨h1, k, v, h2, h3⟩ := h
  refine ⟨h1, ?_⟩
  rw [List.getElem?_map, h2, h3]
  rfl
def rFldAug (K : PySem.W.Frag) (f : Str) (x : V) (tv : TE) (rd : V → V → Hp → VK → Prop) (D : Ends) (σ : L2.St) (H1 : Hp) : Prop := ∃ a C dx fs v, x = .ref a ∧ H1 a = some (.ins C dx fs) ∧ Cls K C ∧ NoAttr K C f ∧ fs.lookup f = some v ∧
  tv σ H1 fun y H2 => rd v y H2 fun z H3 => ∃ dx' fs', H3 a = some (.ins C dx' fs') ∧ fs'.length < 1000 ∧ D.nx σ (upd H3 a (.ins C dx' (putF f z fs')))
theorem g_fldaug {rd : V → V → Hp → VK → Prop} {f : Str} (k : ta σ H fun x H1 => rFldAug K f x te rd D σ H1) : sFldAug K ta te rd f D σ H := k
/-- self.f += an int -/
theorem g_rfldaugI {f : Str} {a C dx : Addr} {fs : List (Str × V)} {m j : Int} (h : H a = some (.ins C dx fs)) (hc : Cls K C) (hn : NoAttr K C f) (hl : fs.lookup f = some (.int m)) (hz : fs.length < 1000)
    (hv : ∀ R : VK, R (.int j) H → te σ H R) (k : ∀ H', H' a = some (.ins C dx (putF f (.int (m + j)) fs)) → (∀ b, b ≠ a → H' b = H b) → D.nx σ H') : rFldAug K f (.ref a) te rAdd D σ H :=
  ⟨a, C, dx, fs, _, rfl, h, hc, hn, hl, hv _ ⟨m, j, rfl, rfl, dx, fs, h, hz, k _ upd_same fun b hb => upd_ne hb⟩⟩
end
/-! ### dicts whose keys stand in a list, their values a function -/
section
variable {α : Type} {F : α → Key} {G : α → V}
theorem valV_cons {p : Key × V} {r : List (Key × V)} {k : Key} : valV (p :: r) k = if p.1 = k then some p.2 else valV r k := by
  by_cases h : p.1 = k
  · rw [if_pos h, valV_pos h]
  · rw [if_neg h, valV_neg h]
/-- a dict of the keys ks with the values A -/
def mkD (ks : List Int) (A : Int → V) : List (Key × V) := ks.map fun i => (kI i, A i)
theorem mkD_len {ks : List Int} {A : Int → V} : (mkD ks A).length = ks.length := List.length_map _
theorem valV_mkD {ks : List Int} {A : Int → V} {i : Int} : valV (mkD ks A) (kI i) = if i ∈ ks then some (A i) else none := by
  induction ks with
  | nil => rfl
  | cons j r ih =>
    show valV ((kI j, A j) :: mkD r A) (kI i) = _
    rw [valV_cons, ih]
    by_cases h : j = i
    · subst h
      simp [kI]
    · have h2 : ¬ (kI j = kI i) := fun z => h (Sum.inl.inj z)
      have h3 : ¬ (i = j) := fun z => h z.symm
      simp [h2, h3]
theorem mkD_congr {ks : List Int} {A B : Int → V} (h : ∀ i ∈ ks, A i = B i) : mkD ks A = mkD ks B := List.map_congr_left fun i hi => by rw [h i hi]
theorem putK_mkD_new {ks : List Int} {A : Int → V} {i : Int} {v : V} (h : i ∉ ks) : putK (mkD ks A) (kI i) v = mkD (ks ++ [i]) (fun j => if j = i then v else A j) := by
  unfold putK
  rw [valV_any, valV_mkD, if_neg h]
  have e : mkD ks (fun j => if j = i then v else A j) = mkD ks A := mkD_congr fun j hj => if_neg fun z => h (by rw [← z]; exact hj)
  show (if none.isSome = true then _ else _) = _
  rw [if_neg (by decide)]
  show mkD ks A ++ [(kI i, v)] = (ks ++ [i]).map _
  rw [List.map_append, ← e]
  show _ = _ ++ [(kI i, if i = i then v else A i)]
  rw [if_pos rfl]
  rfl
theorem putK_mkD_old {ks : List Int} {A : Int → V} {i : Int} {v : V} (h : i ∈ ks) : putK (mkD ks A) (kI i) v = mkD ks (fun j => if j = i then v else A j) := by
  unfold putK
  rw [valV_any, valV_mkD, if_pos h]
  show (if (some (A i)).isSome = true then _ else _) = _
  rw [if_pos (show (some (A i)).isSome = true from rfl)]
  unfold mkD
  rw [List.map_map]
  refine List.map_congr_left fun j _ => ?_
  show (if kI j = kI i then (kI j, v) else (kI j, A j)) = (kI j, if j = i then v else A j)
  by_cases hj : j = i
  · rw [if_pos (by rw [hj]), if_pos hj]
  · rw [if_neg (show ¬ kI j = kI i from fun z => hj (Sum.inl.inj z)), if_neg hj]
theorem dropK_mkD {ks : List Int} {A : Int → V} {i : Int} : dropK (mkD ks A) (kI i) = mkD (ks.filter fun j => decide (j ≠ i)) A := by
  unfold dropK mkD
  rw [List.filter_map]
  congr 1
  refine List.filter_congr fun j _ => ?_
  show decide (kI j ≠ kI i) = decide (j ≠ i)
  rw [decide_eq_decide]
  exact ⟨fun h z => h (by rw [z]), fun h z => h (Sum.inl.inj z)⟩
theorem mkD_keys {ks : List Int} {A : Int → V} : (mkD ks A).map (·.1) = ks.map Sum.inl := by
  unfold mkD
  rw [List.map_map]
  rfl
theorem mkD_kV {ks : List Int} {A : Int → V} : ((mkD ks A).map fun kv => kV kv.1) = ks.map V.int := by
  unfold mkD
  rw [List.map_map]
  rfl
/-- .. of texts -/
def mkS (ks : List Str) (A : Str → V) : List (Key × V) := ks.map fun i => (kS i, A i)
theorem mkS_len {ks : List Str} {A : Str → V} : (mkS ks A).length = ks.length := List.length_map _
theorem valV_mkS {ks : List Str} {A : Str → V} {i : Str} : valV (mkS ks A) (kS i) = if i ∈ ks then some (A i) else none := by
  induction ks with
  | nil => rfl
  | cons j r ih =>
    show valV ((kS j, A j) :: mkS r A) (kS i) = _
    rw [valV_cons, ih]
    by_cases h : j = i
    · subst h
      simp [kS]
    · have h2 : ¬ (kS j = kS i) := fun z => h (Sum.inr.inj z)
      have h3 : ¬ (i = j) := fun z => h z.symm
      simp [h2, h3]
theorem mkS_congr {ks : List Str} {A B : Str → V} (h : ∀ i ∈ ks, A i = B i) : mkS ks A = mkS ks B := List.map_congr_left fun i hi => by rw [h i hi]
theorem putK_mkS_new {ks : List Str} {A : Str → V} {i : Str} {v : V} (h : i ∉ ks) : putK (mkS ks A) (kS i) v = mkS (ks ++ [i]) (fun j => if j = i then v else A j) := by
  unfold putK
  rw [valV_any, valV_mkS, if_neg h]
  have e : mkS ks (fun j => if j = i then v else A j) = mkS ks A := mkS_congr fun j hj => if_neg fun z => h (by rw [← z]; exact hj)
  show (if none.isSome = true then _ else _) = _
  rw [if_neg (by decide)]
  show mkS ks A ++ [(kS i, v)] = (ks ++ [i]).map _
  rw [List.map_append, ← e]
  show _ = _ ++ [(kS i, if i = i then v else A i)]
  rw [if_pos rfl]
  rfl
theorem putK_mkS_old {ks : List Str} {A : Str → V} {i : Str} {v : V} (h : i ∈ ks) : putK (mkS ks A) (kS i) v = mkS ks (fun j => if j = i then v else A j) := by
  unfold putK
  rw [valV_any, valV_mkS, if_pos h]
  show (if (some (A i)).isSome = true then _ else _) = _
  rw [if_pos (show (some (A i)).isSome = true from rfl)]
  unfold mkS
  rw [List.map_map]
  refine List.map_congr_left fun j _ => ?_
  show (if kS j = kS i then (kS j, v) else (kS j, A j)) = (kS j, if j = i then v else A j)
  by_cases hj : j = i
  · rw [if_pos (by rw [hj]), if_pos hj]
  · rw [if_neg (show ¬ kS j = kS i from fun z => hj (Sum.inr.inj z)), if_neg hj]
theorem dropK_mkS {ks : List Str} {A : Str → V} {i : Str} : dropK (mkS ks A) (kS i) = mkS (ks.filter fun j => decide (j ≠ i)) A := by
  unfold dropK mkS
  rw [List.filter_map]
  congr 1
  refine List.filter_congr fun j _ => ?_
  show decide (kS j ≠ kS i) = decide (j ≠ i)
  rw [decide_eq_decide]
  exact ⟨fun h z => h (by rw [z]), fun h z => h (Sum.inr.inj z)⟩
theorem mkS_keys {ks : List Str} {A : Str → V} : (mkS ks A).map (·.1) = ks.map Sum.inr := by
  unfold mkS
  rw [List.map_map]
  rfl
theorem mkS_kV {ks : List Str} {A : Str → V} : ((mkS ks A).map fun kv => kV kv.1) = ks.map V.str := by
  unfold mkS
  rw [List.map_map]
  rfl
end
/-! ### sorted lists that hold the same are the same -/
theorem int_sorted_eq {a b : List Int} (h : a.Perm b) (ha : a.Pairwise (· ≤ ·)) (hb : b.Pairwise (· ≤ ·)) : a = b :=
  List.Perm.eq_of_pairwise (le := (· ≤ ·)) (fun x y _ _ h1 h2 => Int.le_antisymm h1 h2) ha hb h
theorem sortedS_pw : ∀ (l : List Str), sortedS l = true → l.Pairwise (fun a b => a.cps.toList ≤ b.cps.toList)
  | [], _ => .nil
  | [x], _ => .cons (fun y hy => nomatch hy) .nil
  | x :: y :: r, h => by
    have h1 : (!ltCps y.cps.toList x.cps.toList && risingS y r) = true := h
    rw [Bool.and_eq_true, Bool.not_eq_true', PyProof.Rows.ltCps_eq, decide_eq_false_iff_not, List.not_lt] at h1
    have ih := sortedS_pw (y :: r) h1.2
    refine .cons (fun z hz => ?_) ih
    rcases List.mem_cons.mp hz with e | hz
    · subst e; exact h1.1
    · exact List.le_trans h1.1 (List.rel_of_pairwise_cons ih hz)
theorem str_ext {a b : Str} (h : a.cps.toList = b.cps.toList) : a = b := by
  cases a; cases b
  simp only [Str.mk.injEq]
  exact Array.toList_inj.mp h
theorem str_sorted_eq {a b : List Str} (h : a.Perm b) (ha : sortedS a = true) (hb : sortedS b = true) : a = b :=
  List.Perm.eq_of_pairwise (le := fun a b => a.cps.toList ≤ b.cps.toList) (fun x y _ _ h1 h2 => str_ext (List.le_antisymm h1 h2)) (sortedS_pw a ha) (sortedS_pw b hb) h
theorem nodup_few {α : Type} [DecidableEq α] : ∀ {l D : List α}, l.Nodup → (∀ x ∈ l, x ∈ D) → l.length ≤ D.length
  | [], _, _, _ => Nat.zero_le _
  | x :: l, D, hn, h => by
    obtain ⟨h1, h2⟩ := List.nodup_cons.mp hn
    have hx := h x List.mem_cons_self
    have ih := nodup_few (l := l) (D := D.erase x) h2 fun y hy => (List.mem_erase_of_ne (fun z => h1 (by rw [← z]; exact hy))).mpr (h y (List.mem_cons_of_mem _ hy))
    rw [List.length_erase_of_mem hx] at ih
    have : 0 < D.length := List.length_pos_of_mem hx
    rw [List.length_cons]
    omega
theorem nodup_take {α : Type} {l : List α} {i : Nat} {x : α} (h : l.Nodup) (e : l[i]? = some x) : x ∉ l.take i := by
  obtain ⟨hl, hx⟩ := List.getElem?_eq_some_iff.mp e
  have h2 : l.take i ++ x :: l.drop (i + 1) = l := by
    rw [← hx, ← List.drop_eq_getElem_cons hl, List.take_append_drop]
  rw [← h2, List.nodup_append] at h
  exact fun z => h.2.2 x z x List.mem_cons_self rfl
theorem perm_same {α : Type} [DecidableEq α] {a b : List α} (ha : a.Nodup) (hb : b.Nodup) (h : ∀ x, x ∈ a ↔ x ∈ b) : a.Perm b := (List.perm_ext_iff_of_nodup ha hb).mpr h
end Lw
local macro_rules | `(tactic| walk_at "lw side") => `(tactic| first | assumption | decide | omega | exact Or.inr ⟨by decide, by decide⟩ | exact Or.inl ⟨by decide, by decide⟩ | exact ⟨by decide, by decide⟩ | exact ⟨by omega, by omega⟩)
local macro_rules | `(tactic| walk_at "lw ne") => `(tactic| first | assumption | exact Ne.symm (by assumption) | exact L2.ne_of_none (by assumption) (by assumption) | exact Ne.symm (L2.ne_of_none (by assumption) (by assumption)))
local macro_rules | `(tactic| walk_at "lw hp") => `(tactic| first | assumption | exact L2.upd_same | (refine Eq.trans (L2.upd_ne (by walk_at "lw ne")) ?_; walk_at "lw hp"))
local macro_rules | `(tactic| walk_at "lw sq") => `(tactic| first | assumption | exact L2.SqL.of (by walk_at "lw hp") | exact L2.SqT.of (by walk_at "lw hp"))
local macro_rules | `(tactic| walk_at "lw go") => `(tactic| first
  | (with_reducible refine Lw.g_seq ?_)
  | ((with_reducible refine' Lw.g_var ?h1 ?k1); (case h1 => rfl))
  | (with_reducible refine Lw.g_c ?_)
  | (with_reducible refine Lw.g_op ?_)
  | (with_reducible refine Lw.g_I0 ?_)
  | ((with_reducible refine' Lw.g_I ?h1 ?k1); (case h1 => walk_at "lw side"))
  | ((with_reducible refine' Lw.g_eq ?h1 ?k1); (case h1 => rfl))
  | ((with_reducible refine' Lw.g_ne ?h1 ?k1); (case h1 => rfl))
  | (with_reducible refine Lw.g_nil ?_)
  | (with_reducible refine Lw.g_cons ?_)
  | (with_reducible refine Lw.g_cb ?_)
  | (with_reducible refine Lw.g_call ?_)
  | (with_reducible refine Lw.g_test ?_)
  | (with_reducible refine Lw.g_B ?_)
  | (with_reducible refine Lw.g_exb ?_)
  | (with_reducible refine Lw.g_not ?_)
  | (with_reducible refine Lw.g_and ?_)
  | (with_reducible refine Lw.g_or ?_)
  | (with_reducible refine Lw.g_tup ?_)
  | (with_reducible refine Lw.g_lst ?_)
  | (with_reducible refine Lw.g_ifx ?_)
  | (with_reducible refine Lw.g_fld ?_)
  | (with_reducible refine Lw.g_asg ?_)
  | (with_reducible refine Lw.g_name ?_)
  | (with_reducible refine Lw.g_ret ?_)
  | (with_reducible refine Lw.g_drop ?_)
  | (with_reducible refine Lw.g_next ?_)
  | (with_reducible refine Lw.g_ifs ?_)
  | (with_reducible refine Lw.g_pnx ?_)
  | (with_reducible refine Lw.g_prt ?_)
  | (with_reducible refine Lw.g_pbk ?_)
  | (with_reducible refine Lw.g_pct ?_)
  | (with_reducible refine Lw.g_sl ?_)
  | (with_reducible refine Lw.g_nopart ?_)
  | (with_reducible refine Lw.g_part ?_)
  | (with_reducible refine Lw.g_rpart ?_)
  | (with_reducible refine Lw.g_m1 ?_)
  | (with_reducible refine Lw.g_m0 ?_)
  | (with_reducible refine Lw.g_rstr ?_)
  | (with_reducible refine Lw.g_bm0 ?_)
  | (with_reducible refine Lw.g_bm ?_)
  | (with_reducible refine Lw.g_isN ?_)
  | (with_reducible refine Lw.g_isB ?_)
  | (with_reducible refine Lw.g_notB ?_)
  | (with_reducible refine Lw.g_andV ?_)
  | (with_reducible refine Lw.g_orV ?_)
  | (with_reducible refine Lw.g_notV ?_)
  | (with_reducible refine Lw.g_notN ?_)
  | (with_reducible refine L2.iteT ?_)
  | (with_reducible refine L2.iteF ?_)
  | (with_reducible refine Lw.g_int1 ?_)
  | (with_reducible refine Lw.g_int1b ?_)
  | (with_reducible refine Lw.g_sub ?_)
  | (with_reducible refine Lw.g_forR ?_)
  | (with_reducible refine Lw.g_for ?_)
  | (with_reducible refine Lw.g_lc ?_)
  | (with_reducible refine Lw.g_iStr ?_)
  | (with_reducible refine Lw.g_ritS ?_)
  | (with_reducible refine Lw.g_tyS ?_)
  | (with_reducible refine Lw.g_iList ?_)
  | (with_reducible refine Lw.g_iTup ?_)
  | (with_reducible refine Lw.g_iRng ?_)
  | (with_reducible refine Lw.g_inSg ?_)
  | (with_reducible refine Lw.g_notInSg ?_)
  | (with_reducible refine Lw.g_ord ?_)
  | (with_reducible refine Lw.g_reprB ?_)
  | (with_reducible refine Lw.g_sfld ?_)
  | (with_reducible refine Lw.g_meth ?_)
  | (with_reducible refine Lw.g_make ?_)
  | (with_reducible refine Lw.g_dget ?_)
  | (with_reducible refine Lw.g_din ?_)
  | (with_reducible refine Lw.g_dnotin ?_)
  | (with_reducible refine Lw.g_dput ?_)
  | (with_reducible refine Lw.g_ddel ?_)
  | (with_reducible refine Lw.g_dpop1 ?_)
  | (with_reducible refine Lw.g_dget1 ?_)
  | (with_reducible refine Lw.g_iKeys ?_)
  | (with_reducible refine Lw.g_fldaug ?_)
  | ((with_reducible refine' Lw.g_lenL ?h1 ?k1); (case h1 => walk_at "lw sq"))
  | ((with_reducible refine' Lw.g_lenD ?h1 ?k1); (case h1 => walk_at "lw hp")))
local macro_rules | `(tactic| walk_at "lw") => `(tactic| repeat walk_at "lw go")
local macro_rules | `(tactic| walk_at "lw hp") => `(tactic| first | assumption | exact L2.upd_same | exact L2.Same.at (by assumption) (by walk_at "lw hp") | (refine Eq.trans (L2.upd_ne (by walk_at "lw ne")) ?_; walk_at "lw hp"))
local macro_rules | `(tactic| walk_at "lw go") => `(tactic| first
  | ((with_reducible refine Lw.g_kinT (b := true) (by decide) rfl rfl (by decide +kernel) ?_); intro _ _)
  | ((with_reducible refine Lw.g_kinT (b := false) (by decide) rfl rfl (by decide +kernel) ?_); intro _ _)
  | ((with_reducible refine Lw.g_kninT (b := true) (by decide) rfl rfl (by decide +kernel) ?_); intro _ _)
  | ((with_reducible refine Lw.g_kninT (b := false) (by decide) rfl rfl (by decide +kernel) ?_); intro _ _)
  | ((with_reducible refine Lw.g_kinL (b := true) (by decide) rfl rfl (by decide +kernel) ?_); intro _ _)
  | ((with_reducible refine Lw.g_kinL (b := false) (by decide) rfl rfl (by decide +kernel) ?_); intro _ _)
  | ((with_reducible refine Lw.g_kninL (b := true) (by decide) rfl rfl (by decide +kernel) ?_); intro _ _)
  | ((with_reducible refine Lw.g_kninL (b := false) (by decide) rfl rfl (by decide +kernel) ?_); intro _ _)
  | (with_reducible refine Lw.g_pairs1 ?_)
  | (with_reducible refine Lw.g_pairs0 ?_)
  | (with_reducible refine Lw.g_gcons ?_)
  | (with_reducible refine Lw.g_gnil ?_)
  | (with_reducible refine Lw.ifT (by decide +kernel) ?_)
  | (with_reducible refine Lw.ifF (by decide +kernel) ?_))
local macro_rules | `(tactic| walk_at "lw same") => `(tactic| first | assumption | exact L2.Same.refl _ | (refine L2.Same.trans ?_ (by assumption); walk_at "lw same"))
local macro_rules | `(tactic| walk_at "lw go") => `(tactic| first
  | ((with_reducible refine' Lw.g_rfld (f := "layers") ?h1 ?h2 ?h3 Lw.f_Pusher_layers ?k1); (case h1 => walk_at "lw hp"); (case h2 => exact Lw.Txt.cl_Pusher (by assumption)); (case h3 => exact Lw.Txt.na_Pusher_layers (by assumption)))
  | ((with_reducible refine' Lw.g_rfld (f := "name") ?h1 ?h2 ?h3 Lw.f_Pusher_name ?k1); (case h1 => walk_at "lw hp"); (case h2 => exact Lw.Txt.cl_Pusher (by assumption)); (case h3 => exact Lw.Txt.na_Pusher_name (by assumption)))
  | ((with_reducible refine' Lw.g_rfld (f := "platform") ?h1 ?h2 ?h3 Lw.f_Pusher_platform ?k1); (case h1 => walk_at "lw hp"); (case h2 => exact Lw.Txt.cl_Pusher (by assumption)); (case h3 => exact Lw.Txt.na_Pusher_platform (by assumption)))
  | ((with_reducible refine' Lw.g_rfld (f := "number") ?h1 ?h2 ?h3 Lw.f_Pusher_number ?k1); (case h1 => walk_at "lw hp"); (case h2 => exact Lw.Txt.cl_Pusher (by assumption)); (case h3 => exact Lw.Txt.na_Pusher_number (by assumption)))
  | ((with_reducible refine' Lw.g_rfld (f := "done") ?h1 ?h2 ?h3 Lw.f_Pusher_done ?k1); (case h1 => walk_at "lw hp"); (case h2 => exact Lw.Txt.cl_Pusher (by assumption)); (case h3 => exact Lw.Txt.na_Pusher_done (by assumption)))
  | ((with_reducible refine' Lw.g_rfld (f := "step") ?h1 ?h2 ?h3 Lw.f_Pusher_step ?k1); (case h1 => walk_at "lw hp"); (case h2 => exact Lw.Txt.cl_Pusher (by assumption)); (case h3 => exact Lw.Txt.na_Pusher_step (by assumption)))
  | ((with_reducible refine' Lw.g_rfld (f := "claim") ?h1 ?h2 ?h3 Lw.f_Pusher_claim ?k1); (case h1 => walk_at "lw hp"); (case h2 => exact Lw.Txt.cl_Pusher (by assumption)); (case h3 => exact Lw.Txt.na_Pusher_claim (by assumption)))
  | ((with_reducible refine' Lw.g_rfld (f := "place") ?h1 ?h2 ?h3 Lw.f_Pusher_place ?k1); (case h1 => walk_at "lw hp"); (case h2 => exact Lw.Txt.cl_Pusher (by assumption)); (case h3 => exact Lw.Txt.na_Pusher_place (by assumption)))
  | ((with_reducible refine' Lw.g_rfld (f := "upload") ?h1 ?h2 ?h3 Lw.f_Pusher_upload ?k1); (case h1 => walk_at "lw hp"); (case h2 => exact Lw.Txt.cl_Pusher (by assumption)); (case h3 => exact Lw.Txt.na_Pusher_upload (by assumption)))
  | ((with_reducible refine' Lw.g_rfld (f := "at") ?h1 ?h2 ?h3 Lw.f_Pusher_at ?k1); (case h1 => walk_at "lw hp"); (case h2 => exact Lw.Txt.cl_Pusher (by assumption)); (case h3 => exact Lw.Txt.na_Pusher_at (by assumption)))
  | ((with_reducible refine' Lw.g_rmeth ?h1 (Lw.f_Pusher_no (by decide +kernel)) ?k1); (case h1 => walk_at "lw hp")))
local macro_rules | `(tactic| walk_at "lw go") => `(tactic| first
  | ((with_reducible refine' Lw.g_md_step ?h1 ?k1); (case h1 => walk_at "lw hp"))
  | ((with_reducible refine' Lw.g_md_claim ?h1 ?k1); (case h1 => walk_at "lw hp"))
  | ((with_reducible refine' Lw.g_md_upload ?h1 ?k1); (case h1 => walk_at "lw hp"))
  | ((with_reducible refine' Lw.g_md_at ?h1 ?k1); (case h1 => walk_at "lw hp"))
  | ((with_reducible refine' Lw.g_md_place ?h1 ?k1); (case h1 => walk_at "lw hp")))

/-! ## a number as sixteen hexadecimal signs -/
namespace Lw
open PySem L2
/-- the signs of n in the base 16, with zeros in front, sixteen at least -/
def hexT (n : Nat) : Str := ⟨(List.replicate (16 - ((Nat.toDigits 16 n).map Char.toNat).length) 48 ++ (Nat.toDigits 16 n).map Char.toNat).toArray⟩
def spec16 : Str := "016x"
def fs16 : Builtin.Float.FormatSpec := { fill := 48, align := 61, width := some 16, type := some 120 }
section
open Builtin Builtin.Float
theorem spec_reads : parseFormatSpec spec16.cps.toList "int" 62 = .ok fs16 := by
  first | rfl | decide +kernel | kernel_rfl
theorem digs_ne (n : Nat) : ((Nat.toDigits 16 n).map Char.toNat).isEmpty = false := by
  have h := PyProof.Rows.tDigits_len_ge 16 n
  cases e : Nat.toDigits 16 n with
  | nil => rw [e] at h; simp at h
  | cons a b => rfl
theorem field16 (n : Nat) : PyProof.Rows.intField' fs16 false [] ((Nat.toDigits 16 n).map Char.toNat) [] 4 = hexT n :=
  PyProof.Rows.intField'_zero_nonneg fs16 _ 4 rfl rfl (digs_ne n) rfl rfl
theorem hex_len {n : Nat} (h : n < 2 ^ 64) : (hexT n).length ≤ 100000 := by
  have h1 := PyProof.Rows.tDigits_len_le 16 n
  have h2 : (Nat.toDigits 16 n).length ≤ 16 := by
    have e := (Nat.length_toDigits_le_iff (b := 16) (n := n) (k := 16) (by decide) (by decide)).mpr (by simpa using h)
    exact e
  unfold hexT Str.length
  simp only [List.size_toArray, List.length_append, List.length_replicate, List.length_map]
  omega
section
variable {prog : Program} {w : World} {A : Around} {E : Value → Shared → Prop} {s : Shared}
set_option maxRecDepth 100000 in
theorem format_hex {n : Nat} {t : Tok} {Q : Value → Shared → Prop} (hn : n < 2 ^ 64) (h : Q (.str (hexT n) (s.toks + 1)) { s with toks := s.toks + 1 + 1 }) :
    wpAny (model prog w) A (formatField (.int (n : Int) t) spec16) Q E s := by
  show wpAny _ _ (holding [.int (n : Int) t] (pyFormat (.int (n : Int) t) spec16)) Q E s
  refine wpAny_holding ?_
  unfold pyFormat
  refine wpAny_bind (wpAny_mkStr ?_ (by decide +kernel))
  refine wpAny_bind (m := callSpecial? (.int (n : Int) t) (Str.ofString "__format__") [.str spec16 s.toks]) (wpAny_callSpecial?_slot (name := Str.ofString "__format__") (typeIs_int _ (n : Int) t) PyProof.Rows.slot_int_format ?_)
  refine wpAny_call (codeAny_call_builtin PyProof.Rows.slot_int_format.plain PyProof.Rows.entry_int_format (PyProof.Rows.slot_int_format.check _ _ _ _ _ _ _ _ (typeIs_int _ (n : Int) t) (PyProof.Rows.args_int_format _ _) ?_))
  have e1 : (spec16.length == 0) = false := by decide +kernel
  have e2 : ((spec16.cps.toList.drop 1).any (· ≥ 128) || (spec16.cps.getD 0 0 ≥ 128 && !([60, 62, 61, 94] : List Nat).contains (spec16.cps.getD 1 0))) = false := by decide +kernel
  unfold Builtin.«int.__format__»
  simp only [selfAndOne, noKeywords, Int.intOfSelf, asInt?, asStr?, List.isEmpty_nil, if_true, pure_bind, bind_pure, bind_assoc, e1, e2, Bool.false_eq_true, if_false,
    show (Value.str spec16 s.toks == Value.none) = false from rfl]
  refine wpAny_bind (wpAny_typeNameOf (T := "str") (typeIs_str _ _ _) (by decide) fun _ => ?_)
  refine wpAny_bind (PyProof.Rows.wpAny_typeNameOfCut_int ?_)
  simp only [spec_reads]
  rw [if_pos (by decide)]
  obtain ⟨f, hf, hty, hpr, hz, hal, hw, hgr, hsg⟩ : ∃ f, f = fs16 ∧ f.type = some 120 ∧ f.precision = none ∧ f.noNeg0 = false ∧ f.alt = false ∧ f.width.getD 0 ≤ 100000 ∧ f.grouping = none ∧ f.sign = none := ⟨fs16, rfl, rfl, rfl, rfl, rfl, by decide, rfl, rfl⟩
  have ef := field16 n
  have hl : (hexT n).length ≤ sizeLine := Nat.le_trans (hex_len hn) (by decide)
  rw [← hf] at ef ⊢
  simp only [hty, Option.getD_some]
  show wpAny _ _ (if _ then _ else _) _ _ _
  rw [if_neg (by simp [hpr])]
  show wpAny _ _ (if _ then _ else _) _ _ _
  rw [if_neg (by simp [hz])]
  show wpAny _ _ (if _ then _ else _) _ _ _
  rw [if_neg (by decide)]
  have hw' : ¬ (f.width.getD 0 > 100000) := by omega
  have eneg : decide ((n : Int) < 0) = false := decide_eq_false (by omega)
  simp only [show ((120 : Nat) == 98) = false from rfl, show ((120 : Nat) == 111) = false from rfl, show ((120 : Nat) == 120) = true from rfl, show ((120 : Nat) == 88) = false from rfl, show ((16 : Nat) == 10) = false from rfl, Bool.false_eq_true, if_false, if_true, hw', hal, eneg, Int.natAbs_natCast]
  show wpAny _ _ (retStr _) _ _ _
  unfold retStr
  rw [← ef] at hl h
  have em : (Nat.toDigits 16 n).map Char.toNat = (Nat.toDigits 16 n).map (fun c => c.toNat) := rfl
  rw [em] at hl h
  refine wpAny_bind (wpAny_mkStr (wpAny_pure ?_) ?hs2)
  case hs2 =>
    conv => lhs; arg 1; whnf
    simp only [PyProof.Rows.intField', hgr, hsg, Bool.false_eq_true, if_false] at hl ⊢
    exact hl
  dsimp only
  refine wpAny_bind (wpAny_isInstance (typeIs_str _ _ _) isSubtype_str_str (wpAny_pure ?_))
  conv => arg 1; arg 1; whnf
  simp only [PyProof.Rows.intField', hgr, hsg, Bool.false_eq_true, if_false] at h ⊢
  exact h
end
end
section
variable {X : Cx}
/-- {e:016x} -/
def rHex (x : V) (H : Hp) (Q : VK) : Prop := ∃ n : Nat, x = .int (n : Int) ∧ n < 2 ^ 64 ∧ Q (.str (hexT n)) H
def tHex (te : TE) : TE := fun σ H Q => te σ H fun x H1 => rHex x H1 Q
theorem g_hex {te : TE} {σ : L2.St} {H : Hp} {Q : VK} (k : te σ H fun x H1 => rHex x H1 Q) : tHex te σ H Q := k
theorem pe_hex {e spec : Expr} {te : TE} {pos : Pos} (he : PE X e te) (hs : PE X spec (tC (.str spec16))) : PE X (.FormattedValue e (-1) (some spec) pos) (tHex te) := by
  refine ⟨fun pins s σ H Q I h => ?_⟩
  refine wpAny_FormattedValue_spec (thn (he.run pins s σ H _ I h) fun v s1 hv => ?_)
  obtain ⟨x, H1, I1, r1, n, rfl, hn, q⟩ := hv
  obtain ⟨t, rfl⟩ := r1
  refine thn (hs.run pins s1 σ H1 (fun y H2 => y = .str spec16 ∧ Q (.str (hexT n)) H2) I1 ⟨rfl, q⟩) fun u s2 hu => ?_
  obtain ⟨y, H2, I2, r2, rfl, q2⟩ := hu
  obtain ⟨t2, rfl⟩ := r2
  exact ⟨spec16, t2, rfl, format_hex hn ⟨.str (hexT n), H2, I2.tok _, ⟨_, rfl⟩, q2⟩⟩
end
end Lw

namespace Lw
open PySem L2
def kinds3 : List Str := ["layer", "image", "bundle"]
end Lw
namespace Lw
open PySem L2
open PyProof.Rows (envOfC)
def top (i : Nat) : Stmt := PySem.Challenge.pw_layerwharf_k21_push_step_by_step.main.body.getD i (.Pass ⟨0, 0, 0, 0⟩)
abbrev s_address_of : Stmt := top 3
abbrev n_address_of : List Str := ["kind", "text", "value", "character"]
theorem sc_address_of : FnScope n_address_of ["kind", "text"] (defScope s_address_of) := ⟨rfl, rfl, rfl, by decide +kernel, rfl, by decide +kernel, by decide +kernel⟩
abbrev s_image_text : Stmt := top 5
abbrev n_image_text : List Str := ["layers", "address"]
theorem sc_image_text : FnScope n_image_text ["layers"] (defScope s_image_text) := ⟨rfl, rfl, rfl, by decide +kernel, rfl, by decide +kernel, by decide +kernel⟩
abbrev s_bundle_text : Stmt := top 6
abbrev n_bundle_text : List Str := ["entries", "platform", "address"]
theorem sc_bundle_text : FnScope n_bundle_text ["entries"] (defScope s_bundle_text) := ⟨rfl, rfl, rfl, by decide +kernel, rfl, by decide +kernel, by decide +kernel⟩
abbrev s_Pusher___init__ : Stmt := inClass (top 9) 0
abbrev n_Pusher___init__ : List Str := ["self", "layers", "name", "platform", "number"]
theorem sc_Pusher___init__ : FnScope n_Pusher___init__ ["self", "layers", "name", "platform", "number"] (defScope s_Pusher___init__) := ⟨rfl, rfl, rfl, by decide +kernel, rfl, by decide +kernel, by decide +kernel⟩
abbrev s_Pusher_layer_address : Stmt := inClass (top 9) 1
abbrev n_Pusher_layer_address : List Str := ["self"]
theorem sc_Pusher_layer_address : FnScope n_Pusher_layer_address ["self"] (defScope s_Pusher_layer_address) := ⟨rfl, rfl, rfl, by decide +kernel, rfl, by decide +kernel, by decide +kernel⟩
abbrev s_Pusher_image : Stmt := inClass (top 9) 2
abbrev n_Pusher_image : List Str := ["self", "text"]
theorem sc_Pusher_image : FnScope n_Pusher_image ["self"] (defScope s_Pusher_image) := ⟨rfl, rfl, rfl, by decide +kernel, rfl, by decide +kernel, by decide +kernel⟩
abbrev s_Pusher_bundle : Stmt := inClass (top 9) 3
abbrev n_Pusher_bundle : List Str := ["self"]
theorem sc_Pusher_bundle : FnScope n_Pusher_bundle ["self"] (defScope s_Pusher_bundle) := ⟨rfl, rfl, rfl, by decide +kernel, rfl, by decide +kernel, by decide +kernel⟩
abbrev s_Pusher_address : Stmt := inClass (top 9) 4
abbrev n_Pusher_address : List Str := ["self"]
theorem sc_Pusher_address : FnScope n_Pusher_address ["self"] (defScope s_Pusher_address) := ⟨rfl, rfl, rfl, by decide +kernel, rfl, by decide +kernel, by decide +kernel⟩
abbrev s_Pusher_request : Stmt := inClass (top 9) 5
abbrev n_Pusher_request : List Str := ["self", "step", "text"]
theorem sc_Pusher_request : FnScope n_Pusher_request ["self"] (defScope s_Pusher_request) := ⟨rfl, rfl, rfl, by decide +kernel, rfl, by decide +kernel, by decide +kernel⟩
abbrev s_Pusher_go : Stmt := inClass (top 9) 6
abbrev n_Pusher_go : List Str := ["self", "step"]
theorem sc_Pusher_go : FnScope n_Pusher_go ["self", "step"] (defScope s_Pusher_go) := ⟨rfl, rfl, rfl, by decide +kernel, rfl, by decide +kernel, by decide +kernel⟩
abbrev s_Pusher_go_layer : Stmt := inClass (top 9) 7
abbrev n_Pusher_go_layer : List Str := ["self", "place"]
theorem sc_Pusher_go_layer : FnScope n_Pusher_go_layer ["self", "place"] (defScope s_Pusher_go_layer) := ⟨rfl, rfl, rfl, by decide +kernel, rfl, by decide +kernel, by decide +kernel⟩
abbrev s_Pusher_take : Stmt := inClass (top 9) 8
abbrev n_Pusher_take : List Str := ["self", "reply", "kind", "step"]
theorem sc_Pusher_take : FnScope n_Pusher_take ["self", "reply"] (defScope s_Pusher_take) := ⟨rfl, rfl, rfl, by decide +kernel, rfl, by decide +kernel, by decide +kernel⟩
abbrev s_Pusher_take_kept : Stmt := inClass (top 9) 9
abbrev n_Pusher_take_kept : List Str := ["self", "reply", "address"]
theorem sc_Pusher_take_kept : FnScope n_Pusher_take_kept ["self", "reply"] (defScope s_Pusher_take_kept) := ⟨rfl, rfl, rfl, by decide +kernel, rfl, by decide +kernel, by decide +kernel⟩
abbrev s_Pusher_take_upload : Stmt := inClass (top 9) 10
abbrev n_Pusher_take_upload : List Str := ["self", "reply"]
theorem sc_Pusher_take_upload : FnScope n_Pusher_take_upload ["self", "reply"] (defScope s_Pusher_take_upload) := ⟨rfl, rfl, rfl, by decide +kernel, rfl, by decide +kernel, by decide +kernel⟩
abbrev s_Pusher_take_part : Stmt := inClass (top 9) 11
abbrev n_Pusher_take_part : List Str := ["self", "reply"]
theorem sc_Pusher_take_part : FnScope n_Pusher_take_part ["self", "reply"] (defScope s_Pusher_take_part) := ⟨rfl, rfl, rfl, by decide +kernel, rfl, by decide +kernel, by decide +kernel⟩
abbrev s_Pusher_take_put : Stmt := inClass (top 9) 12
abbrev n_Pusher_take_put : List Str := ["self", "reply", "due"]
theorem sc_Pusher_take_put : FnScope n_Pusher_take_put ["self", "reply"] (defScope s_Pusher_take_put) := ⟨rfl, rfl, rfl, by decide +kernel, rfl, by decide +kernel, by decide +kernel⟩
abbrev s_Pusher_take_name : Stmt := inClass (top 9) 13
abbrev n_Pusher_take_name : List Str := ["self", "reply"]
theorem sc_Pusher_take_name : FnScope n_Pusher_take_name ["self", "reply"] (defScope s_Pusher_take_name) := ⟨rfl, rfl, rfl, by decide +kernel, rfl, by decide +kernel, by decide +kernel⟩
abbrev s__law_state : Stmt := top 11
abbrev n__law_state : List Str := ["_law_script", "_law_cells", "_law_cell"]
theorem sc__law_state : FnScope n__law_state ["_law_script"] (defScope s__law_state) := ⟨rfl, rfl, rfl, by decide +kernel, rfl, by decide +kernel, by decide +kernel⟩
abbrev s__law_take : Stmt := top 12
abbrev n__law_take : List Str := ["_law_state_here", "_law_most", "_law_cells", "_law_at", "_law_cell", "_law_mixed"]
theorem sc__law_take : FnScope n__law_take ["_law_state_here", "_law_most"] (defScope s__law_take) := ⟨rfl, rfl, rfl, by decide +kernel, rfl, by decide +kernel, by decide +kernel⟩
abbrev s__law_text : Stmt := top 14
abbrev n__law_text : List Str := ["_law_state_here", "_law_most", "_law_k"]
theorem sc__law_text : FnScope n__law_text ["_law_state_here", "_law_most"] (defScope s__law_text) := ⟨rfl, rfl, rfl, by decide +kernel, rfl, by decide +kernel, by decide +kernel⟩
abbrev s__law_pusher : Stmt := top 15
abbrev n__law_pusher : List Str := ["_law_state_here", "_law_layers", "_law_platform", "_law_k"]
theorem sc__law_pusher : FnScope n__law_pusher ["_law_state_here"] (defScope s__law_pusher) := ⟨rfl, rfl, rfl, by decide +kernel, rfl, by decide +kernel, by decide +kernel⟩
abbrev s__law_blobs : Stmt := top 16
abbrev n__law_blobs : List Str := ["_law_pusher_here", "_law_image", "_law_blobs_here", "_law_text_here"]
theorem sc__law_blobs : FnScope n__law_blobs ["_law_pusher_here"] (defScope s__law_blobs) := ⟨rfl, rfl, rfl, by decide +kernel, rfl, by decide +kernel, by decide +kernel⟩
abbrev s__law_target : Stmt := top 17
abbrev n__law_target : List Str := ["_law_pusher_here", "_law_blobs_here"]
theorem sc__law_target : FnScope n__law_target ["_law_pusher_here"] (defScope s__law_target) := ⟨rfl, rfl, rfl, by decide +kernel, rfl, by decide +kernel, by decide +kernel⟩
abbrev s__law_layer : Stmt := top 18
abbrev n__law_layer : List Str := ["_law_pusher_here", "_law_model"]
theorem sc__law_layer : FnScope n__law_layer ["_law_pusher_here", "_law_model"] (defScope s__law_layer) := ⟨rfl, rfl, rfl, by decide +kernel, rfl, by decide +kernel, by decide +kernel⟩
abbrev s__law_request : Stmt := top 19
abbrev n__law_request : List Str := ["_law_pusher_here", "_law_model", "_law_step", "_law_claim", "_law_text_here", "_law_blobs_here", "_law_blob"]
theorem sc__law_request : FnScope n__law_request ["_law_pusher_here", "_law_model"] (defScope s__law_request) := ⟨rfl, rfl, rfl, by decide +kernel, rfl, by decide +kernel, by decide +kernel⟩
abbrev s__law_place : Stmt := top 20
abbrev n__law_place : List Str := ["_law_pusher_here", "_law_place_here"]
theorem sc__law_place : FnScope n__law_place ["_law_pusher_here", "_law_place_here"] (defScope s__law_place) := ⟨rfl, rfl, rfl, by decide +kernel, rfl, by decide +kernel, by decide +kernel⟩
abbrev s__law_layer_step : Stmt := top 21
abbrev n__law_layer_step : List Str := ["_law_pusher_here", "_law_model", "_law_reply_here", "_law_step", "_law_address"]
theorem sc__law_layer_step : FnScope n__law_layer_step ["_law_pusher_here", "_law_model", "_law_reply_here"] (defScope s__law_layer_step) := ⟨rfl, rfl, rfl, by decide +kernel, rfl, by decide +kernel, by decide +kernel⟩
abbrev s__law_end_step : Stmt := top 22
abbrev n__law_end_step : List Str := ["_law_pusher_here", "_law_model", "_law_reply_here", "_law_step", "_law_text_here", "_law_blob"]
theorem sc__law_end_step : FnScope n__law_end_step ["_law_pusher_here", "_law_model", "_law_reply_here"] (defScope s__law_end_step) := ⟨rfl, rfl, rfl, by decide +kernel, rfl, by decide +kernel, by decide +kernel⟩
abbrev s__law_next : Stmt := top 23
abbrev n__law_next : List Str := ["_law_pusher_here", "_law_model", "_law_reply_here", "_law_step"]
theorem sc__law_next : FnScope n__law_next ["_law_pusher_here", "_law_model", "_law_reply_here"] (defScope s__law_next) := ⟨rfl, rfl, rfl, by decide +kernel, rfl, by decide +kernel, by decide +kernel⟩
abbrev s__law_reply : Stmt := top 24
abbrev n__law_reply : List Str := ["_law_state_here", "_law_pusher_here", "_law_model", "_law_kind", "_law_step", "_law_claim", "_law_upload", "_law_address", "_law_fitting", "_law_others", "_law_blob"]
theorem sc__law_reply : FnScope n__law_reply ["_law_state_here", "_law_pusher_here", "_law_model"] (defScope s__law_reply) := ⟨rfl, rfl, rfl, by decide +kernel, rfl, by decide +kernel, by decide +kernel⟩
abbrev s_law : Stmt := top 25
abbrev n_law : List Str := ["_law_script", "_law_state_here", "_law_pusher_here", "_law_number", "_law_model", "_law_turn", "_law_reply_here", "_law_step", "_law_place_here"]
theorem sc_law : FnScope n_law ["_law_script"] (defScope s_law) := ⟨rfl, rfl, rfl, by decide +kernel, rfl, by decide +kernel, by decide +kernel⟩
/-- the fields of Pusher -/
def f_Pusher (x_layers x_name x_platform x_number x_done x_step x_claim x_place x_upload x_at : V) : List (Str × V) := [("layers", x_layers), ("name", x_name), ("platform", x_platform), ("number", x_number), ("done", x_done), ("step", x_step), ("claim", x_claim), ("place", x_place), ("upload", x_upload), ("at", x_at)]
theorem f_Pusher_layers {x_layers x_name x_platform x_number x_done x_step x_claim x_place x_upload x_at : V} : (f_Pusher x_layers x_name x_platform x_number x_done x_step x_claim x_place x_upload x_at).lookup ("layers" : Str) = some x_layers := lk_eq
theorem f_Pusher_put_layers {x_layers x_name x_platform x_number x_done x_step x_claim x_place x_upload x_at y : V} : putF "layers" y (f_Pusher x_layers x_name x_platform x_number x_done x_step x_claim x_place x_upload x_at) = f_Pusher y x_name x_platform x_number x_done x_step x_claim x_place x_upload x_at := pf_eq
theorem f_Pusher_name {x_layers x_name x_platform x_number x_done x_step x_claim x_place x_upload x_at : V} : (f_Pusher x_layers x_name x_platform x_number x_done x_step x_claim x_place x_upload x_at).lookup ("name" : Str) = some x_name := (lk_ne (by decide +kernel)).trans (lk_eq)
theorem f_Pusher_put_name {x_layers x_name x_platform x_number x_done x_step x_claim x_place x_upload x_at y : V} : putF "name" y (f_Pusher x_layers x_name x_platform x_number x_done x_step x_claim x_place x_upload x_at) = f_Pusher x_layers y x_platform x_number x_done x_step x_claim x_place x_upload x_at := (pf_ne (by decide +kernel)).trans (congrArg _ (pf_eq))
theorem f_Pusher_platform {x_layers x_name x_platform x_number x_done x_step x_claim x_place x_upload x_at : V} : (f_Pusher x_layers x_name x_platform x_number x_done x_step x_claim x_place x_upload x_at).lookup ("platform" : Str) = some x_platform := (lk_ne (by decide +kernel)).trans ((lk_ne (by decide +kernel)).trans (lk_eq))
theorem f_Pusher_put_platform {x_layers x_name x_platform x_number x_done x_step x_claim x_place x_upload x_at y : V} : putF "platform" y (f_Pusher x_layers x_name x_platform x_number x_done x_step x_claim x_place x_upload x_at) = f_Pusher x_layers x_name y x_number x_done x_step x_claim x_place x_upload x_at := (pf_ne (by decide +kernel)).trans (congrArg _ ((pf_ne (by decide +kernel)).trans (congrArg _ (pf_eq))))
theorem f_Pusher_number {x_layers x_name x_platform x_number x_done x_step x_claim x_place x_upload x_at : V} : (f_Pusher x_layers x_name x_platform x_number x_done x_step x_claim x_place x_upload x_at).lookup ("number" : Str) = some x_number := (lk_ne (by decide +kernel)).trans ((lk_ne (by decide +kernel)).trans ((lk_ne (by decide +kernel)).trans (lk_eq)))
theorem f_Pusher_put_number {x_layers x_name x_platform x_number x_done x_step x_claim x_place x_upload x_at y : V} : putF "number" y (f_Pusher x_layers x_name x_platform x_number x_done x_step x_claim x_place x_upload x_at) = f_Pusher x_layers x_name x_platform y x_done x_step x_claim x_place x_upload x_at := (pf_ne (by decide +kernel)).trans (congrArg _ ((pf_ne (by decide +kernel)).trans (congrArg _ ((pf_ne (by decide +kernel)).trans (congrArg _ (pf_eq))))))
theorem f_Pusher_done {x_layers x_name x_platform x_number x_done x_step x_claim x_place x_upload x_at : V} : (f_Pusher x_layers x_name x_platform x_number x_done x_step x_claim x_place x_upload x_at).lookup ("done" : Str) = some x_done := (lk_ne (by decide +kernel)).trans ((lk_ne (by decide +kernel)).trans ((lk_ne (by decide +kernel)).trans ((lk_ne (by decide +kernel)).trans (lk_eq))))
theorem f_Pusher_put_done {x_layers x_name x_platform x_number x_done x_step x_claim x_place x_upload x_at y : V} : putF "done" y (f_Pusher x_layers x_name x_platform x_number x_done x_step x_claim x_place x_upload x_at) = f_Pusher x_layers x_name x_platform x_number y x_step x_claim x_place x_upload x_at := (pf_ne (by decide +kernel)).trans (congrArg _ ((pf_ne (by decide +kernel)).trans (congrArg _ ((pf_ne (by decide +kernel)).trans (congrArg _ ((pf_ne (by decide +kernel)).trans (congrArg _ (pf_eq))))))))
theorem f_Pusher_step {x_layers x_name x_platform x_number x_done x_step x_claim x_place x_upload x_at : V} : (f_Pusher x_layers x_name x_platform x_number x_done x_step x_claim x_place x_upload x_at).lookup ("step" : Str) = some x_step := (lk_ne (by decide +kernel)).trans ((lk_ne (by decide +kernel)).trans ((lk_ne (by decide +kernel)).trans ((lk_ne (by decide +kernel)).trans ((lk_ne (by decide +kernel)).trans (lk_eq)))))
theorem f_Pusher_put_step {x_layers x_name x_platform x_number x_done x_step x_claim x_place x_upload x_at y : V} : putF "step" y (f_Pusher x_layers x_name x_platform x_number x_done x_step x_claim x_place x_upload x_at) = f_Pusher x_layers x_name x_platform x_number x_done y x_claim x_place x_upload x_at := (pf_ne (by decide +kernel)).trans (congrArg _ ((pf_ne (by decide +kernel)).trans (congrArg _ ((pf_ne (by decide +kernel)).trans (congrArg _ ((pf_ne (by decide +kernel)).trans (congrArg _ ((pf_ne (by decide +kernel)).trans (congrArg _ (pf_eq))))))))))
theorem f_Pusher_claim {x_layers x_name x_platform x_number x_done x_step x_claim x_place x_upload x_at : V} : (f_Pusher x_layers x_name x_platform x_number x_done x_step x_claim x_place x_upload x_at).lookup ("claim" : Str) = some x_claim := (lk_ne (by decide +kernel)).trans ((lk_ne (by decide +kernel)).trans ((lk_ne (by decide +kernel)).trans ((lk_ne (by decide +kernel)).trans ((lk_ne (by decide +kernel)).trans ((lk_ne (by decide +kernel)).trans (lk_eq))))))
theorem f_Pusher_put_claim {x_layers x_name x_platform x_number x_done x_step x_claim x_place x_upload x_at y : V} : putF "claim" y (f_Pusher x_layers x_name x_platform x_number x_done x_step x_claim x_place x_upload x_at) = f_Pusher x_layers x_name x_platform x_number x_done x_step y x_place x_upload x_at := (pf_ne (by decide +kernel)).trans (congrArg _ ((pf_ne (by decide +kernel)).trans (congrArg _ ((pf_ne (by decide +kernel)).trans (congrArg _ ((pf_ne (by decide +kernel)).trans (congrArg _ ((pf_ne (by decide +kernel)).trans (congrArg _ ((pf_ne (by decide +kernel)).trans (congrArg _ (pf_eq))))))))))))
theorem f_Pusher_place {x_layers x_name x_platform x_number x_done x_step x_claim x_place x_upload x_at : V} : (f_Pusher x_layers x_name x_platform x_number x_done x_step x_claim x_place x_upload x_at).lookup ("place" : Str) = some x_place := (lk_ne (by decide +kernel)).trans ((lk_ne (by decide +kernel)).trans ((lk_ne (by decide +kernel)).trans ((lk_ne (by decide +kernel)).trans ((lk_ne (by decide +kernel)).trans ((lk_ne (by decide +kernel)).trans ((lk_ne (by decide +kernel)).trans (lk_eq)))))))
theorem f_Pusher_put_place {x_layers x_name x_platform x_number x_done x_step x_claim x_place x_upload x_at y : V} : putF "place" y (f_Pusher x_layers x_name x_platform x_number x_done x_step x_claim x_place x_upload x_at) = f_Pusher x_layers x_name x_platform x_number x_done x_step x_claim y x_upload x_at := (pf_ne (by decide +kernel)).trans (congrArg _ ((pf_ne (by decide +kernel)).trans (congrArg _ ((pf_ne (by decide +kernel)).trans (congrArg _ ((pf_ne (by decide +kernel)).trans (congrArg _ ((pf_ne (by decide +kernel)).trans (congrArg _ ((pf_ne (by decide +kernel)).trans (congrArg _ ((pf_ne (by decide +kernel)).trans (congrArg _ (pf_eq))))))))))))))
theorem f_Pusher_upload {x_layers x_name x_platform x_number x_done x_step x_claim x_place x_upload x_at : V} : (f_Pusher x_layers x_name x_platform x_number x_done x_step x_claim x_place x_upload x_at).lookup ("upload" : Str) = some x_upload := (lk_ne (by decide +kernel)).trans ((lk_ne (by decide +kernel)).trans ((lk_ne (by decide +kernel)).trans ((lk_ne (by decide +kernel)).trans ((lk_ne (by decide +kernel)).trans ((lk_ne (by decide +kernel)).trans ((lk_ne (by decide +kernel)).trans ((lk_ne (by decide +kernel)).trans (lk_eq))))))))
theorem f_Pusher_put_upload {x_layers x_name x_platform x_number x_done x_step x_claim x_place x_upload x_at y : V} : putF "upload" y (f_Pusher x_layers x_name x_platform x_number x_done x_step x_claim x_place x_upload x_at) = f_Pusher x_layers x_name x_platform x_number x_done x_step x_claim x_place y x_at := (pf_ne (by decide +kernel)).trans (congrArg _ ((pf_ne (by decide +kernel)).trans (congrArg _ ((pf_ne (by decide +kernel)).trans (congrArg _ ((pf_ne (by decide +kernel)).trans (congrArg _ ((pf_ne (by decide +kernel)).trans (congrArg _ ((pf_ne (by decide +kernel)).trans (congrArg _ ((pf_ne (by decide +kernel)).trans (congrArg _ ((pf_ne (by decide +kernel)).trans (congrArg _ (pf_eq))))))))))))))))
theorem f_Pusher_at {x_layers x_name x_platform x_number x_done x_step x_claim x_place x_upload x_at : V} : (f_Pusher x_layers x_name x_platform x_number x_done x_step x_claim x_place x_upload x_at).lookup ("at" : Str) = some x_at := (lk_ne (by decide +kernel)).trans ((lk_ne (by decide +kernel)).trans ((lk_ne (by decide +kernel)).trans ((lk_ne (by decide +kernel)).trans ((lk_ne (by decide +kernel)).trans ((lk_ne (by decide +kernel)).trans ((lk_ne (by decide +kernel)).trans ((lk_ne (by decide +kernel)).trans ((lk_ne (by decide +kernel)).trans (lk_eq)))))))))
theorem f_Pusher_put_at {x_layers x_name x_platform x_number x_done x_step x_claim x_place x_upload x_at y : V} : putF "at" y (f_Pusher x_layers x_name x_platform x_number x_done x_step x_claim x_place x_upload x_at) = f_Pusher x_layers x_name x_platform x_number x_done x_step x_claim x_place x_upload y := (pf_ne (by decide +kernel)).trans (congrArg _ ((pf_ne (by decide +kernel)).trans (congrArg _ ((pf_ne (by decide +kernel)).trans (congrArg _ ((pf_ne (by decide +kernel)).trans (congrArg _ ((pf_ne (by decide +kernel)).trans (congrArg _ ((pf_ne (by decide +kernel)).trans (congrArg _ ((pf_ne (by decide +kernel)).trans (congrArg _ ((pf_ne (by decide +kernel)).trans (congrArg _ ((pf_ne (by decide +kernel)).trans (congrArg _ (pf_eq))))))))))))))))))
theorem f_Pusher_no {x_layers x_name x_platform x_number x_done x_step x_claim x_place x_upload x_at : V} {m : Str} (h : (["layers", "name", "platform", "number", "done", "step", "claim", "place", "upload", "at"] : List Str).all (fun f => !(m == f)) = true) : (f_Pusher x_layers x_name x_platform x_number x_done x_step x_claim x_place x_upload x_at).lookup m = none := lk_no h
theorem f_Pusher_len {x_layers x_name x_platform x_number x_done x_step x_claim x_place x_upload x_at : V} : (f_Pusher x_layers x_name x_platform x_number x_done x_step x_claim x_place x_upload x_at).length < 1000 := (by decide : 10 < 1000)
theorem f_Pusher_mk {x_layers x_name x_platform x_number x_done x_step x_claim x_place x_upload x_at : V} : putF "at" x_at (putF "upload" x_upload (putF "place" x_place (putF "claim" x_claim (putF "step" x_step (putF "done" x_done (putF "number" x_number (putF "platform" x_platform (putF "name" x_name (putF "layers" x_layers ([])))))))))) = f_Pusher x_layers x_name x_platform x_number x_done x_step x_claim x_place x_upload x_at := by
  unfold f_Pusher; simp only [putF]; first | rfl | (repeat' (first | rfl | rw [if_neg (by decide +kernel)]))
structure Txt (w : World) (K : PySem.W.Frag) (mg : Str → Option Value) (C_Pusher : Addr) (a_KINDS : Addr) : Prop where
  cl_Pusher : Cls K C_Pusher
  na_Pusher_layers : NoAttr K C_Pusher "layers"
  na_Pusher_name : NoAttr K C_Pusher "name"
  na_Pusher_platform : NoAttr K C_Pusher "platform"
  na_Pusher_number : NoAttr K C_Pusher "number"
  na_Pusher_done : NoAttr K C_Pusher "done"
  na_Pusher_step : NoAttr K C_Pusher "step"
  na_Pusher_claim : NoAttr K C_Pusher "claim"
  na_Pusher_place : NoAttr K C_Pusher "place"
  na_Pusher_upload : NoAttr K C_Pusher "upload"
  na_Pusher_at : NoAttr K C_Pusher "at"
  i_Pusher : IniKw K mg "Pusher" C_Pusher "Pusher.__init__" s_Pusher___init__ ["self", "layers", "name", "platform", "number"] 3 ["platform", "number"]
  m_Pusher_layer_address : MetAt K C_Pusher "layer_address" "Pusher.layer_address" s_Pusher_layer_address ["self"]
  m_Pusher_image : MetAt K C_Pusher "image" "Pusher.image" s_Pusher_image ["self"]
  m_Pusher_bundle : MetAt K C_Pusher "bundle" "Pusher.bundle" s_Pusher_bundle ["self"]
  m_Pusher_address : MetAt K C_Pusher "address" "Pusher.address" s_Pusher_address ["self"]
  m_Pusher_request : MetAt K C_Pusher "request" "Pusher.request" s_Pusher_request ["self"]
  m_Pusher_go : MetAt K C_Pusher "go" "Pusher.go" s_Pusher_go ["self", "step"]
  m_Pusher_go_layer : MetAt K C_Pusher "go_layer" "Pusher.go_layer" s_Pusher_go_layer ["self", "place"]
  m_Pusher_take : MetAt K C_Pusher "take" "Pusher.take" s_Pusher_take ["self", "reply"]
  m_Pusher_take_kept : MetAt K C_Pusher "take_kept" "Pusher.take_kept" s_Pusher_take_kept ["self", "reply"]
  m_Pusher_take_upload : MetAt K C_Pusher "take_upload" "Pusher.take_upload" s_Pusher_take_upload ["self", "reply"]
  m_Pusher_take_part : MetAt K C_Pusher "take_part" "Pusher.take_part" s_Pusher_take_part ["self", "reply"]
  m_Pusher_take_put : MetAt K C_Pusher "take_put" "Pusher.take_put" s_Pusher_take_put ["self", "reply"]
  m_Pusher_take_name : MetAt K C_Pusher "take_name" "Pusher.take_name" s_Pusher_take_name ["self", "reply"]
  d_address_of : DefAt K mg "address_of" s_address_of ["kind", "text"]
  d_image_text : DefAt K mg "image_text" s_image_text ["layers"]
  d_bundle_text : DefAt K mg "bundle_text" s_bundle_text ["entries"]
  d__law_state : DefAt K mg "_law_state" s__law_state ["_law_script"]
  d__law_take : DefAt K mg "_law_take" s__law_take ["_law_state_here", "_law_most"]
  d__law_text : DefAt K mg "_law_text" s__law_text ["_law_state_here", "_law_most"]
  d__law_pusher : DefAt K mg "_law_pusher" s__law_pusher ["_law_state_here"]
  d__law_blobs : DefAt K mg "_law_blobs" s__law_blobs ["_law_pusher_here"]
  d__law_target : DefAt K mg "_law_target" s__law_target ["_law_pusher_here"]
  d__law_layer : DefAt K mg "_law_layer" s__law_layer ["_law_pusher_here", "_law_model"]
  d__law_request : DefAt K mg "_law_request" s__law_request ["_law_pusher_here", "_law_model"]
  d__law_place : DefAt K mg "_law_place" s__law_place ["_law_pusher_here", "_law_place_here"]
  d__law_layer_step : DefAt K mg "_law_layer_step" s__law_layer_step ["_law_pusher_here", "_law_model", "_law_reply_here"]
  d__law_end_step : DefAt K mg "_law_end_step" s__law_end_step ["_law_pusher_here", "_law_model", "_law_reply_here"]
  d__law_next : DefAt K mg "_law_next" s__law_next ["_law_pusher_here", "_law_model", "_law_reply_here"]
  d__law_reply : DefAt K mg "_law_reply" s__law_reply ["_law_state_here", "_law_pusher_here", "_law_model"]
  n_abs : mg "abs" = none
  n_int : mg "int" = none
  n_len : mg "len" = none
  n_list : mg "list" = none
  n_min : mg "min" = none
  n_ord : mg "ord" = none
  n_range : mg "range" = none
  n_repr : mg "repr" = none
  g_PART : ∃ u, mg "PART" = some u ∧ RelV (.int 4) u
  g_PRIME : ∃ u, mg "PRIME" = some u ∧ RelV (.int 2305843009213693951) u
  g_KINDS : ∃ u, mg "KINDS" = some u ∧ RelV (.ref a_KINDS) u
  at_KINDS : ∃ o its n, K.lookup a_KINDS = some o ∧ o.cls = .type "tuple" ∧ o.dict = none ∧ o.data = .seq its n ∧ its.size ≤ sizeLine ∧ Vals (kinds3.map V.str) its.toList
end Lw
local macro_rules | `(tactic| walk_at "lw side") => `(tactic| first | assumption | decide | omega | exact Or.inr ⟨by decide, by decide⟩ | exact Or.inl ⟨by decide, by decide⟩ | exact ⟨by decide, by decide⟩ | exact ⟨by omega, by omega⟩)
local macro_rules | `(tactic| walk_at "lw ne") => `(tactic| first | assumption | exact Ne.symm (by assumption) | exact L2.ne_of_none (by assumption) (by assumption) | exact Ne.symm (L2.ne_of_none (by assumption) (by assumption)))
local macro_rules | `(tactic| walk_at "lw hp") => `(tactic| first | assumption | exact L2.upd_same | (refine Eq.trans (L2.upd_ne (by walk_at "lw ne")) ?_; walk_at "lw hp"))
local macro_rules | `(tactic| walk_at "lw sq") => `(tactic| first | assumption | exact L2.SqL.of (by walk_at "lw hp") | exact L2.SqT.of (by walk_at "lw hp"))
local macro_rules | `(tactic| walk_at "lw go") => `(tactic| first
  | (with_reducible refine Lw.g_seq ?_)
  | ((with_reducible refine' Lw.g_var ?h1 ?k1); (case h1 => rfl))
  | (with_reducible refine Lw.g_c ?_)
  | (with_reducible refine Lw.g_op ?_)
  | (with_reducible refine Lw.g_I0 ?_)
  | ((with_reducible refine' Lw.g_I ?h1 ?k1); (case h1 => walk_at "lw side"))
  | ((with_reducible refine' Lw.g_eq ?h1 ?k1); (case h1 => rfl))
  | ((with_reducible refine' Lw.g_ne ?h1 ?k1); (case h1 => rfl))
  | (with_reducible refine Lw.g_nil ?_)
  | (with_reducible refine Lw.g_cons ?_)
  | (with_reducible refine Lw.g_cb ?_)
  | (with_reducible refine Lw.g_call ?_)
  | (with_reducible refine Lw.g_test ?_)
  | (with_reducible refine Lw.g_B ?_)
  | (with_reducible refine Lw.g_exb ?_)
  | (with_reducible refine Lw.g_not ?_)
  | (with_reducible refine Lw.g_and ?_)
  | (with_reducible refine Lw.g_or ?_)
  | (with_reducible refine Lw.g_tup ?_)
  | (with_reducible refine Lw.g_lst ?_)
  | (with_reducible refine Lw.g_ifx ?_)
  | (with_reducible refine Lw.g_fld ?_)
  | (with_reducible refine Lw.g_asg ?_)
  | (with_reducible refine Lw.g_name ?_)
  | (with_reducible refine Lw.g_ret ?_)
  | (with_reducible refine Lw.g_drop ?_)
  | (with_reducible refine Lw.g_next ?_)
  | (with_reducible refine Lw.g_ifs ?_)
  | (with_reducible refine Lw.g_pnx ?_)
  | (with_reducible refine Lw.g_prt ?_)
  | (with_reducible refine Lw.g_pbk ?_)
  | (with_reducible refine Lw.g_pct ?_)
  | (with_reducible refine Lw.g_sl ?_)
  | (with_reducible refine Lw.g_nopart ?_)
  | (with_reducible refine Lw.g_part ?_)
  | (with_reducible refine Lw.g_rpart ?_)
  | (with_reducible refine Lw.g_m1 ?_)
  | (with_reducible refine Lw.g_m0 ?_)
  | (with_reducible refine Lw.g_rstr ?_)
  | (with_reducible refine Lw.g_bm0 ?_)
  | (with_reducible refine Lw.g_bm ?_)
  | (with_reducible refine Lw.g_isN ?_)
  | (with_reducible refine Lw.g_isB ?_)
  | (with_reducible refine Lw.g_notB ?_)
  | (with_reducible refine Lw.g_andV ?_)
  | (with_reducible refine Lw.g_orV ?_)
  | (with_reducible refine Lw.g_notV ?_)
  | (with_reducible refine Lw.g_notN ?_)
  | (with_reducible refine L2.iteT ?_)
  | (with_reducible refine L2.iteF ?_)
  | (with_reducible refine Lw.g_int1 ?_)
  | (with_reducible refine Lw.g_int1b ?_)
  | (with_reducible refine Lw.g_sub ?_)
  | (with_reducible refine Lw.g_forR ?_)
  | (with_reducible refine Lw.g_for ?_)
  | (with_reducible refine Lw.g_lc ?_)
  | (with_reducible refine Lw.g_iStr ?_)
  | (with_reducible refine Lw.g_ritS ?_)
  | (with_reducible refine Lw.g_tyS ?_)
  | (with_reducible refine Lw.g_iList ?_)
  | (with_reducible refine Lw.g_iTup ?_)
  | (with_reducible refine Lw.g_iRng ?_)
  | (with_reducible refine Lw.g_inSg ?_)
  | (with_reducible refine Lw.g_notInSg ?_)
  | (with_reducible refine Lw.g_ord ?_)
  | (with_reducible refine Lw.g_reprB ?_)
  | (with_reducible refine Lw.g_sfld ?_)
  | (with_reducible refine Lw.g_meth ?_)
  | (with_reducible refine Lw.g_make ?_)
  | (with_reducible refine Lw.g_dget ?_)
  | (with_reducible refine Lw.g_din ?_)
  | (with_reducible refine Lw.g_dnotin ?_)
  | (with_reducible refine Lw.g_dput ?_)
  | (with_reducible refine Lw.g_ddel ?_)
  | (with_reducible refine Lw.g_dpop1 ?_)
  | (with_reducible refine Lw.g_dget1 ?_)
  | (with_reducible refine Lw.g_iKeys ?_)
  | (with_reducible refine Lw.g_fldaug ?_)
  | ((with_reducible refine' Lw.g_lenL ?h1 ?k1); (case h1 => walk_at "lw sq"))
  | ((with_reducible refine' Lw.g_lenD ?h1 ?k1); (case h1 => walk_at "lw hp")))
local macro_rules | `(tactic| walk_at "lw") => `(tactic| repeat walk_at "lw go")
local macro_rules | `(tactic| walk_at "lw hp") => `(tactic| first | assumption | exact L2.upd_same | exact L2.Same.at (by assumption) (by walk_at "lw hp") | (refine Eq.trans (L2.upd_ne (by walk_at "lw ne")) ?_; walk_at "lw hp"))
local macro_rules | `(tactic| walk_at "lw go") => `(tactic| first
  | ((with_reducible refine Lw.g_kinT (b := true) (by decide) rfl rfl (by decide +kernel) ?_); intro _ _)
  | ((with_reducible refine Lw.g_kinT (b := false) (by decide) rfl rfl (by decide +kernel) ?_); intro _ _)
  | ((with_reducible refine Lw.g_kninT (b := true) (by decide) rfl rfl (by decide +kernel) ?_); intro _ _)
  | ((with_reducible refine Lw.g_kninT (b := false) (by decide) rfl rfl (by decide +kernel) ?_); intro _ _)
  | ((with_reducible refine Lw.g_kinL (b := true) (by decide) rfl rfl (by decide +kernel) ?_); intro _ _)
  | ((with_reducible refine Lw.g_kinL (b := false) (by decide) rfl rfl (by decide +kernel) ?_); intro _ _)
  | ((with_reducible refine Lw.g_kninL (b := true) (by decide) rfl rfl (by decide +kernel) ?_); intro _ _)
  | ((with_reducible refine Lw.g_kninL (b := false) (by decide) rfl rfl (by decide +kernel) ?_); intro _ _)
  | (with_reducible refine Lw.g_pairs1 ?_)
  | (with_reducible refine Lw.g_pairs0 ?_)
  | (with_reducible refine Lw.g_gcons ?_)
  | (with_reducible refine Lw.g_gnil ?_)
  | (with_reducible refine Lw.ifT (by decide +kernel) ?_)
  | (with_reducible refine Lw.ifF (by decide +kernel) ?_))
local macro_rules | `(tactic| walk_at "lw same") => `(tactic| first | assumption | exact L2.Same.refl _ | (refine L2.Same.trans ?_ (by assumption); walk_at "lw same"))
local macro_rules | `(tactic| walk_at "lw go") => `(tactic| first
  | ((with_reducible refine' Lw.g_rfld (f := "layers") ?h1 ?h2 ?h3 Lw.f_Pusher_layers ?k1); (case h1 => walk_at "lw hp"); (case h2 => exact Lw.Txt.cl_Pusher (by assumption)); (case h3 => exact Lw.Txt.na_Pusher_layers (by assumption)))
  | ((with_reducible refine' Lw.g_rfld (f := "name") ?h1 ?h2 ?h3 Lw.f_Pusher_name ?k1); (case h1 => walk_at "lw hp"); (case h2 => exact Lw.Txt.cl_Pusher (by assumption)); (case h3 => exact Lw.Txt.na_Pusher_name (by assumption)))
  | ((with_reducible refine' Lw.g_rfld (f := "platform") ?h1 ?h2 ?h3 Lw.f_Pusher_platform ?k1); (case h1 => walk_at "lw hp"); (case h2 => exact Lw.Txt.cl_Pusher (by assumption)); (case h3 => exact Lw.Txt.na_Pusher_platform (by assumption)))
  | ((with_reducible refine' Lw.g_rfld (f := "number") ?h1 ?h2 ?h3 Lw.f_Pusher_number ?k1); (case h1 => walk_at "lw hp"); (case h2 => exact Lw.Txt.cl_Pusher (by assumption)); (case h3 => exact Lw.Txt.na_Pusher_number (by assumption)))
  | ((with_reducible refine' Lw.g_rfld (f := "done") ?h1 ?h2 ?h3 Lw.f_Pusher_done ?k1); (case h1 => walk_at "lw hp"); (case h2 => exact Lw.Txt.cl_Pusher (by assumption)); (case h3 => exact Lw.Txt.na_Pusher_done (by assumption)))
  | ((with_reducible refine' Lw.g_rfld (f := "step") ?h1 ?h2 ?h3 Lw.f_Pusher_step ?k1); (case h1 => walk_at "lw hp"); (case h2 => exact Lw.Txt.cl_Pusher (by assumption)); (case h3 => exact Lw.Txt.na_Pusher_step (by assumption)))
  | ((with_reducible refine' Lw.g_rfld (f := "claim") ?h1 ?h2 ?h3 Lw.f_Pusher_claim ?k1); (case h1 => walk_at "lw hp"); (case h2 => exact Lw.Txt.cl_Pusher (by assumption)); (case h3 => exact Lw.Txt.na_Pusher_claim (by assumption)))
  | ((with_reducible refine' Lw.g_rfld (f := "place") ?h1 ?h2 ?h3 Lw.f_Pusher_place ?k1); (case h1 => walk_at "lw hp"); (case h2 => exact Lw.Txt.cl_Pusher (by assumption)); (case h3 => exact Lw.Txt.na_Pusher_place (by assumption)))
  | ((with_reducible refine' Lw.g_rfld (f := "upload") ?h1 ?h2 ?h3 Lw.f_Pusher_upload ?k1); (case h1 => walk_at "lw hp"); (case h2 => exact Lw.Txt.cl_Pusher (by assumption)); (case h3 => exact Lw.Txt.na_Pusher_upload (by assumption)))
  | ((with_reducible refine' Lw.g_rfld (f := "at") ?h1 ?h2 ?h3 Lw.f_Pusher_at ?k1); (case h1 => walk_at "lw hp"); (case h2 => exact Lw.Txt.cl_Pusher (by assumption)); (case h3 => exact Lw.Txt.na_Pusher_at (by assumption)))
  | ((with_reducible refine' Lw.g_rmeth ?h1 (Lw.f_Pusher_no (by decide +kernel)) ?k1); (case h1 => walk_at "lw hp")))
local macro_rules | `(tactic| walk_at "lw go") => `(tactic| first
  | ((with_reducible refine' Lw.g_md_step ?h1 ?k1); (case h1 => walk_at "lw hp"))
  | ((with_reducible refine' Lw.g_md_claim ?h1 ?k1); (case h1 => walk_at "lw hp"))
  | ((with_reducible refine' Lw.g_md_upload ?h1 ?k1); (case h1 => walk_at "lw hp"))
  | ((with_reducible refine' Lw.g_md_at ?h1 ?k1); (case h1 => walk_at "lw hp"))
  | ((with_reducible refine' Lw.g_md_place ?h1 ?k1); (case h1 => walk_at "lw hp")))
/-! ## the law's draws: any number below the bound may come -/
namespace Lw
open PySem L2
open PyProof.Rows (envOfC)
theorem at_in {α : Type} {xs : List α} {i : Int} (h0 : 0 ≤ i) (h1 : i < xs.length) : ∃ v, xs[i.toNat]? = some v ∧ atI xs i = some v := by
  have hl : i.toNat < xs.length := by omega
  refine ⟨xs[i.toNat], List.getElem?_eq_getElem hl, ?_⟩
  have := atI_nat (xs := xs) (j := i.toNat) (v := xs[i.toNat]) (List.getElem?_eq_getElem hl)
  rw [show ((i.toNat : Nat) : Int) = i by omega] at this
  exact this
theorem ix_in {n : Nat} {i : Int} (h0 : 0 ≤ i) (h1 : i < n) : ixN n i = some i.toNat := by
  unfold ixN
  rw [if_pos h0, if_pos h1]
theorem map_int_set (l : List Int) (j : Nat) (z : Int) : (l.map V.int).set j (.int z) = (l.set j z).map V.int := by rw [List.map_set]
/-- the state of the draws at S: its place, its cells at C -/
structure StateAt (c : Addr → Nat) (H : Hp) (S : Addr) : Prop where
  ex : ∃ (C : Addr) (pos : Int) (cells : List Int), c S = 0 ∧ c C = 0 ∧ S ≠ C ∧ H S = some (.lst [.int pos, .ref C]) ∧ H C = some (.lst (cells.map V.int)) ∧ cells ≠ [] ∧ (∀ x ∈ cells, 0 ≤ x) ∧ 0 ≤ pos
theorem StateAt.frame {I : Nat → Prop} {c c' : Addr → Nat} {H H' : Hp} {S : Addr} (h : StateAt c H S) (s : Stp I c c' H H') (hi : ¬ I 0 := by decide) : StateAt c' H' S := by
  obtain ⟨C, pos, cells, h1, h2, h3, h4, h5, h6⟩ := h.ex
  exact ⟨C, pos, cells, by rw [s.col _ _ h4, h1], by rw [s.col _ _ h5, h2], h3, s.keep _ _ h4 (by rw [h1]; exact hi), s.keep _ _ h5 (by rw [h2]; exact hi), h6⟩
def spState (K : PySem.W.Frag) : Sp := fun vs H Q _ => ∃ (a : Addr) (ns : List Int) (c : Addr → Nat), vs = [.ref a] ∧ SqL K H a (ns.map V.int) ∧ ns.length ≤ 63 ∧
  ∀ S c' H', StateAt c' H' S → Stp (fun _ => False) c c' H H' → Q (.ref S) H'
def spTake : Sp := fun vs H Q _ => ∃ (c : Addr → Nat) (S : Addr) (m : Int), vs = [.ref S, .int m] ∧ StateAt c H S ∧ 0 < m ∧ m < 1073741824 ∧
  ∀ (r : Int) c' H', 0 ≤ r → r < m → StateAt c' H' S → Stp (fun i => i = 0) c c' H H' → Q (.int r) H'
section
variable {P : Program} {w : World} {K : PySem.W.Frag} {mg : Str → Option Value} {base : Heap} {C_Pusher a_KINDS : Addr}
theorem ok__law_state (T : Txt w K mg C_Pusher a_KINDS) : Cal P w K mg base 1 "_law_state" (spState K) := by
  refine cal_mk T.d__law_state sc__law_state (fun vs H Q E h => ?_) (fun f cdv A outer s H vs Q E hr h => ?_)
  · obtain ⟨a, ns, c, rfl, _⟩ := h
    rfl
  · obtain ⟨a, ns, c, rfl, hS, hlen, k⟩ := h
    refine ⟨_, (pss_cons (ps_setLc (i := 1) (own := [("_law_cell", 2)]) (g := (gName 2)) (by rfl) sc__law_state.nd rfl rfl (sw_true rfl rfl rfl (by decide +kernel)) (pi_list (pe_slice sl_list (pv 0) po_none (po_some (pe_int)))) (blkOk_by (own := [("_law_cell", 2)]) (N := n__law_state) (sc := defScope s__law_state) (by decide +kernel)) (fun _ _ _ _ _ => (pg_name (i := 2) sc__law_state.nd rfl (by first | exact Or.inl rfl | exact Or.inr rfl))) (fun _ _ _ _ _ => pts_nil) (fun _ _ _ _ _ => (pe_callB call_abs (by rfl) T.n_abs (by decide +kernel) (pa_cons (pv 2) pa_nil))))
      (pss_cons (ps_if (pt_cmpR op_eq (pe_callB call_len_seq' (by rfl) T.n_len (by decide +kernel) (pa_cons (pv 1) pa_nil)) (pe_int) (nomark _)) (pss_one (ps_set (i := 1) sc__law_state.nd rfl (by first | exact Or.inl rfl | exact Or.inr rfl) (pe_lst (pa_cons (pe_int) pa_nil)))) pss_nil)
      (pss_one (ps_ret (pe_lst (pa_cons (pe_int) (pa_cons (pv 1) pa_nil))))))), ?_⟩
    refine ⟨_, rfl, 63, rfl, a, _, rfl, hS, fun p np => ?_⟩
    have e63 : (cutV (ns.map V.int) none (some 63)) = ns.map V.int := by
      unfold cutV
      rw [HT.sIx_none, show ((63 : Int)) = ((63 : Nat) : Int) from rfl, HT.sIx_nat, List.drop_zero, List.take_of_length_le (by rw [List.length_map]; omega)]
    rw [e63]
    refine ⟨p, rfl, ⟨_, SqL.of upd_same⟩, fun D hD => ?_⟩
    have hDp : D ≠ p := fun z => by subst z; rw [upd_same] at hD; cases hD
    have hD0 : H D = none := by rw [upd_ne hDp] at hD; exact hD
    refine lc_list (K := K) (a := p) (xs := ns.map V.int) (fun i H2 => ∃ l : List Int, l.length = i ∧ (∀ x ∈ l, 0 ≤ x) ∧ Same H H2 ∧ H2 p = some (.lst (ns.map V.int)) ∧ H2 D = some (.lst (l.map V.int)))
      ⟨[], rfl, by simp, (Same.new np).thenNew hD, by rw [upd_ne (Ne.symm hDp)]; exact upd_same, upd_same⟩
      (fun i H2 hi h => by obtain ⟨l, _, _, _, h2, _⟩ := h; exact SqL.of h2) (fun i x H2 hx h => ?_) (fun H2 h => ?_)
    · obtain ⟨l, h1, h2, h3, h4, h5⟩ := h
      obtain ⟨z, hz, rfl⟩ : ∃ z, ns[i]? = some z ∧ V.int z = x := by
        rw [List.getElem?_map] at hx
        cases e : ns[i]? with
        | none => rw [e] at hx; cases hx
        | some z => rw [e] at hx; exact ⟨z, rfl, Option.some.inj hx⟩
      refine ⟨rfl, ?_⟩
      refine ⟨_, rfl, z, rfl, l.map V.int, h5, ?_, l ++ [if z < 0 then -z else z], by simp [h1], ?_, h3.grow hD0, by rw [upd_ne (Ne.symm hDp)]; exact h4, by rw [upd_same]; simp⟩
      · have hi := (List.getElem?_eq_some_iff.mp hz).1
        rw [List.length_map, h1]
        exact small1000 (by omega)
      · intro x hx
        rcases List.mem_append.mp hx with q | q
        · exact h2 x q
        · rw [List.mem_singleton.mp q]
          split <;> omega
    · obtain ⟨l, h1, h2, h3, h4, h5⟩ := h
      rw [List.length_map] at h1
      refine ⟨_, rfl, D, l.map V.int, rfl, Or.inl (SqL.of h5), ?_⟩
      refine ⟨rfl, _, rfl, ?_⟩
      refine if2 (fun hz => ?_) (fun hz => ?_)
      · refine ⟨(by show 1 ≤ sizeLine; decide), fun q nq => ?_⟩
        refine ⟨_, rfl, (by show 2 ≤ sizeLine; decide), fun S nS => ?_⟩
        have hqS : q ≠ S := fun z => by subst z; rw [upd_same] at nS; cases nS
        refine k S (Stp.paint (Stp.paint c q 0) S 0) _ ⟨q, 0, [0], Stp.paint_same, by rw [Stp.paint_ne hqS]; exact Stp.paint_same, Ne.symm hqS, upd_same, by rw [upd_ne hqS]; exact upd_same, by simp, by simp, by decide⟩ ?_
        exact ((Stp.same h3).trans (Stp.newc nq)).trans (Stp.newc nS)
      · refine ⟨_, rfl, (by show 2 ≤ sizeLine; decide), fun S nS => ?_⟩
        have hDS : D ≠ S := ne_of_none h5 nS
        refine k S (Stp.paint (Stp.paint c D 0) S 0) _ ⟨D, 0, l, Stp.paint_same, by rw [Stp.paint_ne hDS]; exact Stp.paint_same, Ne.symm hDS, upd_same, by rw [upd_ne hDS]; exact h5, fun e => hz (by rw [int_eq, e]; rfl), h2, by decide⟩ ?_
        have s1 : Stp (fun _ => False) c (Stp.paint c D 0) H H2 := ⟨fun b o e _ => h3 b o e, fun b o e => Stp.paint_ne (ne_of_none e hD0), fun b xs e => h3 b _ e, fun b e => h3.free e⟩
        exact s1.trans (Stp.newc nS)
theorem ok__law_take (T : Txt w K mg C_Pusher a_KINDS) : Cal P w K mg base 1 "_law_take" spTake := by
  refine cal_mk T.d__law_take sc__law_take (fun vs H Q E h => ?_) (fun f cdv A outer s H vs Q E hr h => ?_)
  · obtain ⟨c, S, m, rfl, _⟩ := h
    rfl
  · obtain ⟨c, S, m, rfl, hS, hm0, hm1, k⟩ := h
    obtain ⟨C, pos, cells, c1, c2, ne, h1, h2, h3, h4, h5⟩ := hS.ex
    have hcl : 0 < cells.length := List.length_pos_iff.mpr h3
    refine ⟨_, (pss_cons (ps_set (i := 2) sc__law_take.nd rfl (by first | exact Or.inl rfl | exact Or.inr rfl) (pe_ix ix_list (pv 0) (pe_int) (fun _ _ => rfl)))
      (pss_cons (ps_set (i := 3) sc__law_take.nd rfl (by first | exact Or.inl rfl | exact Or.inr rfl) (pe_op op_mod (pe_ix ix_list (pv 0) (pe_int) (fun _ _ => rfl)) (pe_callB call_len_seq' (by rfl) T.n_len (by decide +kernel) (pa_cons (pv 2) pa_nil))))
      (pss_cons (ps_set (i := 4) sc__law_take.nd rfl (by first | exact Or.inl rfl | exact Or.inr rfl) (pe_ix ix_list (pv 2) (pv 3) (fun _ _ => rfl)))
      (pss_cons (ps_if (pt_cmpR op_ge (pv 4) (pe_int) (nomark _)) (pss_cons (ps_asg (pe_op op_fdiv (pv 4) (pv 1)) (pg_sub (pv 2) (pv 3) set_list))
      (pss_one (ps_ret (pe_op op_mod (pv 4) (pv 1))))) pss_nil)
      (pss_cons (ps_asg (pe_op op_add (pe_ix ix_list (pv 0) (pe_int) (fun _ _ => rfl)) (pe_int)) (pg_sub (pv 0) (pe_int) set_list))
      (pss_cons (ps_set (i := 5) sc__law_take.nd rfl (by first | exact Or.inl rfl | exact Or.inr rfl) (pe_op op_mod (pe_callTy call_int1' (by rfl) T.n_int (by decide +kernel) (pa_cons (pe_op op_add (pe_op op_mul (pv 4) (pe_int)) (pe_op op_mul (pe_ix ix_list (pv 0) (pe_int) (fun _ _ => rfl)) (pe_int))) pa_nil)) (pe_int)))
      (pss_cons (ps_set (i := 5) sc__law_take.nd rfl (by first | exact Or.inl rfl | exact Or.inr rfl) (pe_op op_mod (pe_callTy call_int1' (by rfl) T.n_int (by decide +kernel) (pa_cons (pe_op op_add (pe_op op_mul (pv 5) (pe_int)) (pe_op op_mul (pe_ix ix_list (pv 0) (pe_int) (fun _ _ => rfl)) (pe_int))) pa_nil)) (pe_int)))
      (pss_one (ps_ret (pe_op op_mod (pe_op op_fdiv (pv 5) (pe_int)) (pv 1))))))))))), ?_⟩
    refine ⟨_, rfl, S, _, 1, .ref C, rfl, rfl, SqL.of h1, atI_nat (j := 1) rfl, ?_⟩
    refine ⟨_, rfl, S, _, 0, .int pos, rfl, rfl, SqL.of h1, atI_nat (j := 0) rfl, ?_⟩
    have hpl : 0 ≤ pos % (cells.length : Int) ∧ pos % (cells.length : Int) < (cells.length : Int) := ⟨Int.emod_nonneg _ (by omega), Int.emod_lt_of_pos _ (by omega)⟩
    refine ⟨_, rfl, C, _, rfl, Or.inl (SqL.of h2), _, _, rfl, rfl, by show (0 : Int) < ((cells.map V.int).length : Int); rw [List.length_map]; omega, ?_⟩
    rw [List.length_map]
    obtain ⟨v, hv, hat⟩ := at_in (xs := cells.map V.int) (i := pos % (cells.length : Int)) hpl.1 (by rw [List.length_map]; exact hpl.2)
    obtain ⟨x, hx, rfl⟩ : ∃ x, x ∈ cells ∧ V.int x = v := by
      rw [List.getElem?_map] at hv
      cases e : cells[(pos % (cells.length : Int)).toNat]? with
      | none => rw [e] at hv; cases hv
      | some x => rw [e] at hv; exact ⟨x, List.mem_of_getElem? e, Option.some.inj hv⟩
    have hx0 := h4 x hx
    refine ⟨_, rfl, _, rfl, C, _, _, _, rfl, rfl, SqL.of h2, hat, ?_⟩
    refine ⟨_, rfl, _, _, rfl, rfl, _, rfl, ?_⟩
    refine if2 (fun hz => ?_) (fun hz => ?_)
    · refine ⟨_, rfl, _, rfl, _, _, rfl, rfl, ⟨hm0, hm1⟩, ?_⟩
      refine ⟨_, rfl, _, rfl, C, _, _, _, rfl, rfl, h2, by rw [List.length_map]; exact ix_in hpl.1 hpl.2, ?_⟩
      refine ⟨_, rfl, _, rfl, _, _, rfl, rfl, hm0, ?_⟩
      refine k _ c _ (Int.emod_nonneg _ (by omega)) (Int.emod_lt_of_pos _ hm0) ⟨C, pos, cells.set (pos % (cells.length : Int)).toNat (x / m), c1, c2, ne, by rw [upd_ne ne]; exact h1, by rw [upd_same, map_int_set], ?_, ?_, h5⟩ ?_
      · intro e
        have := congrArg List.length e
        rw [List.length_set, List.length_nil] at this
        omega
      · intro y hy
        rcases List.mem_or_eq_of_mem_set hy with q | q
        · exact h4 y q
        · rw [q]; exact Int.ediv_nonneg hx0 (by omega)
      · exact Stp.own h2 c2 (fun xs z => by cases z)
    · refine ⟨_, rfl, S, _, 0, .int pos, rfl, rfl, SqL.of h1, atI_nat (j := 0) rfl, _, _, rfl, rfl, ?_⟩
      refine ⟨_, rfl, S, _, _, 0, rfl, rfl, h1, rfl, ?_⟩
      have h1' : (upd H S (.lst [.int (pos + 1), .ref C])) S = some (.lst [.int (pos + 1), .ref C]) := upd_same
      refine ⟨_, rfl, _, _, rfl, rfl, .inr ⟨by decide, by decide⟩, ?_⟩
      refine ⟨_, rfl, S, _, 0, .int (pos + 1), rfl, rfl, SqL.of h1', atI_nat (j := 0) rfl, _, _, rfl, rfl, .inr ⟨by decide, by decide⟩, _, _, rfl, rfl, ?_⟩
      refine Or.inl ⟨_, rfl, _, _, rfl, rfl, (by show (0 : Int) < 2147483647; decide), ?_⟩
      refine ⟨_, rfl, _, _, rfl, rfl, .inr ⟨by decide, by decide⟩, ?_⟩
      refine ⟨_, rfl, S, _, 0, .int (pos + 1), rfl, rfl, SqL.of h1', atI_nat (j := 0) rfl, _, _, rfl, rfl, .inr ⟨by decide, by decide⟩, _, _, rfl, rfl, ?_⟩
      refine Or.inl ⟨_, rfl, _, _, rfl, rfl, (by show (0 : Int) < 1000000007; decide), ?_⟩
      refine ⟨_, rfl, _, _, rfl, rfl, ⟨by decide, by decide⟩, ?_⟩
      refine ⟨_, rfl, _, _, rfl, rfl, hm0, ?_⟩
      refine k _ c _ (Int.emod_nonneg _ (by omega)) (Int.emod_lt_of_pos _ hm0) ⟨C, pos + 1, cells, c1, c2, ne, h1', by rw [upd_ne ne.symm]; exact h2, h3, h4, by omega⟩ ?_
      exact Stp.own h1 c1 (fun xs z => by cases z)
end
end Lw
namespace Lw
open PySem L2
/-- a comprehension whose items are drawn -/
theorem lc_draw {α : Type} {J : It} {xs : List V} {vs : List Nat} {σ : L2.St} {te : TE} {j : Nat} {Q : VK} {c : Addr → Nat} {H : Hp} {S : Addr} (w : Walk J xs.length (fun _ => True) (YAt xs)) (hz : xs.length ≤ 100000) (F : α → V) (G : α → Prop) (hS : StateAt c H S)
    (hw : ∀ x, wipe ((wipe σ vs).set j (some x)) vs = wipe σ vs)
    (he : ∀ x c1 H1 (R : VK), StateAt c1 H1 S → Stp (fun i => i = 0) c c1 H H1 → (∀ a c2 H2, G a → StateAt c2 H2 S → Stp (fun i => i = 0) c1 c2 H1 H2 → R (F a) H2) → te ((wipe σ vs).set j (some x)) H1 R)
    (k : ∀ q (l : List α) c' H', H q = none → l.length = xs.length → (∀ a ∈ l, G a) → StateAt c' H' S → Stp (fun i => i = 0) c c' H H' → H' q = some (.lst (l.map F)) → c' q = 9 → Q (.ref q) H') : kLc (gName j) tYes te vs σ Q J H := by
  intro D hD
  refine lc_it w (fun i H2 => ∃ (l : List α) (c2 : Addr → Nat), l.length = i ∧ (∀ a ∈ l, G a) ∧ StateAt c2 H2 S ∧ Stp (fun i => i = 0) c c2 H H2 ∧ c2 D = 9 ∧ H2 D = some (.lst (l.map F)))
    ⟨[], Stp.paint c D 9, rfl, by simp, hS.frame (I := fun _ => False) (Stp.newc hD) (by decide), Stp.newc hD, Stp.paint_same, upd_same⟩ (fun _ _ _ _ => trivial) (fun i x H2 H2' hi h y => ?_) (fun H2 h => ?_)
  · obtain ⟨e, hx⟩ := y
    subst e
    obtain ⟨l, c2, h1, h2, S2, st2, cD, hl⟩ := h
    refine ⟨hw x, ?_⟩
    show te _ H2' _
    refine he x c2 H2' _ S2 st2 fun a c3 H3 ga S3 st3 => ?_
    have hD3 := st3.keep _ _ hl (by rw [cD]; decide)
    refine ⟨_, hD3, ?_, l ++ [a], c3, by rw [List.length_append, h1]; rfl, fun b hb => ?_, S3.frame (I := fun i => i = 9) (Stp.own hD3 (by rw [st3.col _ _ hl, cD]) (fun xs z => by cases z)) (by decide), ?_, by rw [st3.col _ _ hl, cD], by rw [upd_same, List.map_append]; rfl⟩
    · rw [List.length_map, h1]
      exact Nat.lt_of_lt_of_le (show i < 200000 by omega) (by decide)
    · rcases List.mem_append.mp hb with z | z
      · exact h2 b z
      · rw [List.mem_singleton.mp z]; exact ga
    · have st4 := st2.trans st3
      exact ⟨fun b o e n => by rw [upd_ne (ne_of_none e hD)]; exact st4.keep b o e n, st4.col, fun b xs e => by rw [upd_ne (ne_of_none e hD)]; exact st4.tup b xs e, fun b e => by
        by_cases z : b = D
        · subst z; rw [upd_same] at e; cases e
        · rw [upd_ne z] at e; exact st4.fre b e⟩
  · obtain ⟨l, c2, h1, h2, S2, st2, cD, hl⟩ := h
    exact k D l c2 H2 hD h1 h2 S2 st2 hl cD
end Lw

/-! ## a drawn text -/
namespace Lw
open PySem L2
open PyProof.Rows (envOfC)
def signs8 : List Nat := [97, 98, 99, 88, 89, 32, 48, 49]
theorem signs8_eq : ("abcXY 01" : Str) = SX.S signs8 := by decide +kernel
def spText : Sp := fun vs H Q _ => ∃ (c : Addr → Nat) (S : Addr) (m : Int), vs = [.ref S, .int m] ∧ StateAt c H S ∧ 0 ≤ m ∧ m ≤ 1000 ∧
  ∀ (l : List Nat) c' H', (l.length : Int) ≤ m → (∀ x ∈ l, x ∈ signs8) → StateAt c' H' S → Stp (fun i => i = 0) c c' H H' → Q (.str (SX.S l)) H'
section
variable {P : Program} {w : World} {K : PySem.W.Frag} {mg : Str → Option Value} {base : Heap} {C_Pusher a_KINDS : Addr}
theorem ok__law_text (T : Txt w K mg C_Pusher a_KINDS) : Cal P w K mg base 2 "_law_text" spText := by
  have c__law_take : Cal P w K mg base 1 "_law_take" spTake := ok__law_take T
  refine cal_mk T.d__law_text sc__law_text (fun vs H Q E h => ?_) (fun f cdv A outer s H vs Q E hr h => ?_)
  · obtain ⟨c, S, m, rfl, _⟩ := h
    rfl
  · obtain ⟨c, S, m, rfl, hS, hm0, hm1, k⟩ := h
    refine ⟨_, (pss_one (ps_ret (pe_join (pe_str) (pe_lc (own := [("_law_k", 2)]) (g := (gName 2)) (by rfl) sc__law_text.nd (pi_range1 (by rfl) T.n_range (pa_cons (pe_c c__law_take hr (by decide) rfl (pa_cons (pv 0) (pa_cons (pe_op op_add (pv 1) (pe_int)) pa_nil))) pa_nil)) (blkOk_by (own := [("_law_k", 2)]) (N := n__law_text) (sc := defScope s__law_text) (by decide +kernel)) (fun _ _ _ _ _ => (pg_name (i := 2) sc__law_text.nd rfl (by first | exact Or.inl rfl | exact Or.inr rfl))) (fun _ _ _ _ _ => pts_nil) (fun _ _ _ _ _ => (pe_ix ix_str (pe_str) (pe_c c__law_take hr (by decide) rfl (pa_cons (pv 0) (pa_cons (pe_int) pa_nil))) (fun _ _ => rfl))))))), ?_⟩
    refine ⟨⟨_, rfl⟩, ?_⟩
    refine ⟨_, rfl, _, rfl, _, _, rfl, rfl, ?_⟩
    refine ⟨c, S, m + 1, rfl, hS, by omega, by omega, fun r c1 H1 r0 r1 S1 st1 => ?_⟩
    refine ⟨r, rfl, by omega, by omega, fun D hD => ?_⟩
    refine lc_range (lo := 0) (n := r.toNat) (fun i H2 => ∃ (l : List Nat) (c2 : Addr → Nat), l.length = i ∧ (∀ x ∈ l, x ∈ signs8) ∧ StateAt c2 H2 S ∧ Stp (fun i => i = 0) c1 c2 H1 H2 ∧ c2 D = 9 ∧ H2 D = some (.lst ((l.map fun c => SX.S [c]).map V.str)))
      ⟨[], Stp.paint c1 D 9, rfl, by simp, S1.frame (I := fun _ => False) (Stp.newc hD) (by decide), Stp.newc hD, Stp.paint_same, upd_same⟩ (fun i H2 hi h => ?_) (fun H2 h => ?_)
    · obtain ⟨l, c2, h1, h2, S2, st2, cD, hl⟩ := h
      refine ⟨rfl, _, rfl, ?_⟩
      refine ⟨c2, S, 8, rfl, S2, by decide, by decide, fun q c3 H3 q0 q1 S3 st3 => ?_⟩
      have hD3 := st3.keep _ _ hl (by rw [cD]; decide)
      obtain ⟨ch, hch, hat⟩ := at_in (xs := signs8) (i := q) q0 q1
      refine ⟨"abcXY 01", q, ch, rfl, rfl, by decide +kernel, by rw [signs8_eq]; exact hat, ?_⟩
      refine ⟨_, hD3, ?_, l ++ [ch], c3, by rw [List.length_append, h1]; rfl, fun x hx => ?_, S3.frame (I := fun i => i = 9) (Stp.own hD3 (by rw [st3.col _ _ hl, cD]) (fun xs z => by cases z)) (by decide), ?_, by rw [st3.col _ _ hl, cD], ?_⟩
      · rw [List.length_map, List.length_map, h1]
        exact small1000 (by omega)
      · rcases List.mem_append.mp hx with z | z
        · exact h2 x z
        · rw [List.mem_singleton.mp z]
          exact List.mem_of_getElem? hch
      · have st4 : Stp (fun i => i = 0) c1 c3 H1 H3 := st2.trans st3
        have hDn : H1 D = none := hD
        exact ⟨fun b o e n => by rw [upd_ne (ne_of_none e hDn)]; exact st4.keep b o e n, st4.col, fun b xs e => by rw [upd_ne (ne_of_none e hDn)]; exact st4.tup b xs e, fun b e => by
          by_cases z : b = D
          · subst z; rw [upd_same] at e; cases e
          · rw [upd_ne z] at e; exact st4.fre b e⟩
      · rw [upd_same, List.map_append, List.map_append]
        rfl
    · obtain ⟨l, c2, h1, h2, S2, st2, cD, hl⟩ := h
      refine ⟨"", D, _, rfl, rfl, Or.inl (SqL.of hl), ?_, ?_⟩
      · rw [sum_ones, List.length_map, h1]
        show r.toNat + r.toNat * 0 ≤ 16777216
        omega
      · rw [join_empty]
        exact k l c2 H2 (by omega) h2 S2 (st1.trans st2)
end
end Lw

/-! ## addresses, as the program reckons them -/
namespace Lw
open PySem L2
open PyProof.Rows (envOfC)
def P61 : Nat := 2305843009213693951
def hN (s : Nat) (t : List Nat) : Nat := t.foldl (fun v c => (v * 257 + c + 1) % P61) s
theorem hN_snoc (s : Nat) (t : List Nat) (c : Nat) : hN s (t ++ [c]) = (hN s t * 257 + c + 1) % P61 := by
  unfold hN
  rw [List.foldl_append]
  rfl
theorem hN_lt {s : Nat} (h : s < P61) : ∀ t : List Nat, hN s t < P61 := by
  intro t
  unfold hN
  induction t generalizing s with
  | nil => exact h
  | cons c t ih => exact ih (Nat.mod_lt _ (by decide))
/-- the number of a kind, from 1 -/
def kn (k : Str) : Nat := if k = "layer" then 1 else if k = "image" then 2 else 3
theorem kn_lt (k : Str) : kn k < 4 := by
  unfold kn
  split
  · decide
  · split <;> decide
def adrN (k : Str) (t : List Nat) : Nat := hN (kn k) t
theorem adrN_lt (k : Str) (t : List Nat) : adrN k t < P61 := hN_lt (Nat.lt_trans (kn_lt k) (by decide)) t
/-- the address of a text of a kind -/
def adr (k : Str) (t : List Nat) : Str := hexT (adrN k t)
def hexS : List Nat := [48, 49, 50, 51, 52, 53, 54, 55, 56, 57, 97, 98, 99, 100, 101, 102]
theorem hexS_eq : ("0123456789abcdef" : Str) = SX.S hexS := by decide +kernel
/-- sixteen hexadecimal signs -/
def isAdr (l : List Nat) : Bool := l.length == 16 && l.all fun c => decide (c ∈ hexS)
/-- the signs of an address -/
def adrL (k : Str) (t : List Nat) : List Nat := List.replicate (16 - ((Nat.toDigits 16 (adrN k t)).map Char.toNat).length) 48 ++ (Nat.toDigits 16 (adrN k t)).map Char.toNat
theorem adr_S (k : Str) (t : List Nat) : adr k t = SX.S (adrL k t) := rfl
theorem adrL_len (k : Str) (t : List Nat) : (adrL k t).length = 16 := by
  have h := adrN_lt k t
  have h2 : (Nat.toDigits 16 (adrN k t)).length ≤ 16 := (Nat.length_toDigits_le_iff (b := 16) (n := adrN k t) (k := 16) (by decide) (by decide)).mpr (Nat.lt_trans h (by decide))
  unfold adrL
  rw [List.length_append, List.length_replicate, List.length_map]
  omega
theorem digit_hex {c : Nat} (h : c < 16) : (Nat.digitChar c).toNat ∈ hexS := by
  have : ∀ c : Nat, c < 16 → (Nat.digitChar c).toNat ∈ hexS := by decide
  exact this c h
theorem digs_hex : ∀ (n : Nat), ∀ c ∈ Nat.toDigits 16 n, c.toNat ∈ hexS := by
  intro n
  induction n using Nat.strongRecOn with
  | _ n ih =>
    intro c hc
    by_cases h : n < 16
    · rw [Nat.toDigits_of_lt_base h] at hc
      rw [List.mem_singleton.mp hc]
      exact digit_hex h
    · rw [Nat.toDigits_of_base_le (by decide) (by omega)] at hc
      rcases List.mem_append.mp hc with z | z
      · exact ih (n / 16) (by omega) c z
      · rw [List.mem_singleton.mp z]
        exact digit_hex (Nat.mod_lt _ (by decide))
theorem adrL_hex (k : Str) (t : List Nat) : ∀ c ∈ adrL k t, c ∈ hexS := by
  intro c hc
  unfold adrL at hc
  rcases List.mem_append.mp hc with z | z
  · rw [List.eq_of_mem_replicate z]
    decide
  · obtain ⟨d, h1, rfl⟩ := List.mem_map.mp z
    exact digs_hex _ d h1
theorem adr_is (k : Str) (t : List Nat) : isAdr (adrL k t) = true := by
  unfold isAdr
  rw [adrL_len, Bool.and_eq_true]
  exact ⟨rfl, List.all_eq_true.mpr fun c hc => decide_eq_true (adrL_hex k t c hc)⟩
def spAddr : Sp := fun vs H Q _ => ∃ (k : Str) (t : List Nat), vs = [.str k, .str (SX.S t)] ∧ k ∈ kinds3 ∧ Q (.str (adr k t)) H
def spIsAdr : Sp := fun vs H Q _ => ∃ (l : List Nat), vs = [.str (SX.S l)] ∧ l.length ≤ 100000 ∧ Q (.bl (isAdr l)) H
theorem kinds_at : ∀ k ∈ kinds3, kinds3[kn k - 1]? = some k ∧ 0 < kn k ∧ ∀ m, m < kn k - 1 → kinds3[m]? ≠ some k := by
  intro k hk
  simp only [kinds3, List.mem_cons, List.not_mem_nil, or_false] at hk
  have e2 : kn "image" = 2 := by decide +kernel
  have e3 : kn "bundle" = 3 := by decide +kernel
  rcases hk with rfl | rfl | rfl
  · refine ⟨by decide +kernel, by decide +kernel, fun m hm => ?_⟩
    exact absurd hm (by rw [show kn "layer" = 1 by decide +kernel]; omega)
  · rw [e2]
    refine ⟨rfl, by decide, fun m hm => ?_⟩
    have : m = 0 := by omega
    subst this
    decide +kernel
  · rw [e3]
    refine ⟨rfl, by decide, fun m hm => ?_⟩
    have : m = 0 ∨ m = 1 := by omega
    rcases this with rfl | rfl <;> decide +kernel
section
variable {P : Program} {w : World} {K : PySem.W.Frag} {mg : Str → Option Value} {base : Heap} {C_Pusher a_KINDS : Addr}
theorem ok_address_of (T : Txt w K mg C_Pusher a_KINDS) : Cal P w K mg base 1 "address_of" spAddr := by
  refine cal_mk T.d_address_of sc_address_of (fun vs H Q E h => ?_) (fun f cdv A outer s H vs Q E hr h => ?_)
  · obtain ⟨k, t, rfl, _⟩ := h
    rfl
  · obtain ⟨k, t, rfl, hk, q⟩ := h
    obtain ⟨o, its, n, k1, k2, k3, k4, k5, k6⟩ := T.at_KINDS
    obtain ⟨a1, a2, a3⟩ := kinds_at k hk
    refine ⟨_, (pss_cons (ps_set (i := 2) sc_address_of.nd rfl (by first | exact Or.inl rfl | exact Or.inr rfl) (pe_op op_add (pe_bm PySem.F.plainAttrs_tuple PySem.F.slot_tuple_index PySem.F.type_tuple_index mt_tup_index (pe_gc rfl T.g_KINDS) (pa_cons (pv 0) pa_nil)) (pe_int)))
      (pss_cons (ps_for PassesOwn.never rfl (pi_str (pv 1)) (pg_name (i := 3) sc_address_of.nd rfl (by first | exact Or.inl rfl | exact Or.inr rfl)) (pss_one (ps_set (i := 2) sc_address_of.nd rfl (by first | exact Or.inl rfl | exact Or.inr rfl) (pe_op op_mod (pe_op op_add (pe_op op_add (pe_op op_mul (pv 2) (pe_int)) (pe_callB call_ord' (by rfl) T.n_ord (by decide +kernel) (pa_cons (pv 3) pa_nil))) (pe_int)) (pe_gc rfl T.g_PRIME)))))
      (pss_one (ps_ret (pe_joined1 (pe_hex (pv 2) (pe_joined1 pe_str))))))), ?_⟩
    walk_at "lw"
    refine ⟨Or.inr (Or.inl ⟨rfl, o, k1, k2, k3⟩), ?_⟩
    walk_at "lw"
    refine ⟨a_KINDS, kinds3, k, kn k - 1, rfl, rfl, .inr ⟨o, its, n, k1, k2, k4, k5, k6⟩, a1, a3, ?_⟩
    walk_at "lw"
    rw [show ((kn k - 1 : Nat) : Int) + 1 = (kn k : Int) by omega]
    refine for_at walk_sgs (fun i σ H' => H' = H ∧ ∃ v : Option V, σ = [some (.str k), some (.str (SX.S t)), some (.int (hN (kn k) (t.take i) : Nat)), v]) ⟨rfl, none, rfl⟩ (fun _ _ _ _ => trivial) ?_ ?_
    · rintro i x σ H' hx ⟨rfl, v, rfl⟩
      obtain ⟨c, hc, rfl⟩ : ∃ c, t[i]? = some c ∧ V.str (SX.S [c]) = x := by
        unfold sgs at hx
        rw [List.getElem?_map] at hx
        cases e : t[i]? with
        | none => rw [e] at hx; cases hx
        | some c => rw [e] at hx; exact ⟨c, rfl, Option.some.inj hx⟩
      walk_at "lw"
      refine ⟨rfl, some (.str (SX.S [c])), ?_⟩
      rw [take_ok hc, hN_snoc]
      have e : ((hN (kn k) (t.take i) : Nat) : Int) * 257 + (c : Int) + 1 = ((hN (kn k) (t.take i) * 257 + c + 1 : Nat) : Int) := by omega
      have e2 : (((hN (kn k) (t.take i) * 257 + c + 1 : Nat) : Int)) % 2305843009213693951 = (((hN (kn k) (t.take i) * 257 + c + 1) % P61 : Nat) : Int) := by
        unfold P61; omega
      rw [e, e2]
      rfl
    · rintro σ H' ⟨rfl, v, rfl⟩
      rw [show (sgs t).length = t.length by unfold sgs; rw [List.length_map], List.take_length]
      walk_at "lw"
      refine g_hex ?_
      walk_at "lw"
      refine ⟨hN (kn k) t, rfl, Nat.lt_trans (adrN_lt k t) (by decide), ?_⟩
      walk_at "lw"
      exact q
end
end Lw

/-! ## texts of images and bundles -/
namespace Lw
open PySem L2
open PyProof.Rows (envOfC)
def imgH : List Nat := [105, 109, 97, 103, 101, 10]
def bunH : List Nat := [98, 117, 110, 100, 108, 101, 10]
theorem imgH_eq : ("image\n" : Str) = SX.S imgH := by decide +kernel
theorem bunH_eq : ("bundle\n" : Str) = SX.S bunH := by decide +kernel
theorem nl_eq : ("\n" : Str) = SX.S [10] := by decide +kernel
theorem sp_eq : (" " : Str) = SX.S [32] := by decide +kernel
def imgL (as : List (List Nat)) : List Nat := imgH ++ (as.map fun a => a ++ [10]).flatten
def bunL (es : List (List Nat × List Nat)) : List Nat := bunH ++ (es.map fun e => e.1 ++ [32] ++ e.2 ++ [10]).flatten
def strS (l : List Nat) : V := .str (SX.S l)
def spImg : Sp := fun vs H Q _ => ∃ (p : Addr) (as : List (List Nat)), vs = [.ref p] ∧ H p = some (.lst (as.map strS)) ∧ as.length ≤ 100 ∧ (∀ a ∈ as, a.length ≤ 1000) ∧ ∀ H', Same H H' → Q (.str (SX.S (imgL as))) H'
def spBun : Sp := fun vs H Q _ => ∃ (p : Addr) (es : List (Addr × List Nat × List Nat)), vs = [.ref p] ∧ H p = some (.lst (es.map fun e => V.ref e.1)) ∧ (∀ e ∈ es, H e.1 = some (.tup [strS e.2.1, strS e.2.2])) ∧ es.length ≤ 100 ∧ (∀ e ∈ es, e.2.1.length + e.2.2.length ≤ 1000) ∧
  ∀ H', Same H H' → Q (.str (SX.S (bunL (es.map (·.2))))) H'
theorem flat_le {l : List (List Nat)} {m : Nat} (h : ∀ a ∈ l, a.length ≤ m) : l.flatten.length ≤ l.length * m := by
  induction l with
  | nil => simp
  | cons a r ih =>
    rw [List.flatten_cons, List.length_append, List.length_cons]
    have := ih fun b hb => h b (List.mem_cons_of_mem _ hb)
    have := h a List.mem_cons_self
    rw [Nat.succ_mul]
    omega
section
variable {P : Program} {w : World} {K : PySem.W.Frag} {mg : Str → Option Value} {base : Heap} {C_Pusher a_KINDS : Addr}
theorem ok_image_text (T : Txt w K mg C_Pusher a_KINDS) : Cal P w K mg base 1 "image_text" spImg := by
  refine cal_mk T.d_image_text sc_image_text (fun vs H Q E h => ?_) (fun f cdv A outer s H vs Q E hr h => ?_)
  · obtain ⟨p, as, rfl, _⟩ := h
    rfl
  · obtain ⟨p, as, rfl, hp, hz, hl, k⟩ := h
    refine ⟨_, (pss_one (ps_ret (pe_op op_cat_str (pe_str) (pe_join (pe_str) (pe_lc (own := [("address", 1)]) (g := (gName 1)) (by rfl) sc_image_text.nd (pi_list (pv 0)) (blkOk_by (own := [("address", 1)]) (N := n_image_text) (sc := defScope s_image_text) (by decide +kernel)) (fun _ _ _ _ _ => (pg_name (i := 1) sc_image_text.nd rfl (by first | exact Or.inl rfl | exact Or.inr rfl))) (fun _ _ _ _ _ => pts_nil) (fun _ _ _ _ _ => (pe_op op_cat_str (pv 1) (pe_str)))))))), ?_⟩
    walk_at "lw"
    refine g_ritL (SqL.of hp) ?_
    refine lc_map (G := fun H' => SqL K H' p (as.map strS)) walk_list (fun H' s => SqL.of (s _ _ hp)) (by rw [List.length_map]; omega) (fun _ => true) (fun v => match v with | .str x => .str (x ++ SX.S [10]) | _ => v) ?_ ?_
    · intro x hx H' R s1 kk
      obtain ⟨a, ha, rfl⟩ := List.mem_map.mp hx
      walk_at "lw"
      refine kk _ rfl (fun H'' R s2 r => ?_) (fun hp' H'' R s2 r => ?_)
      · walk_at "lw"
        exact r
      · walk_at "lw"
        refine g_cat_str (a := SX.S a) (b := "\n") (by rw [nl_eq, SX.S_len, SX.S_len]; exact Nat.le_trans (Nat.add_le_add (hl a ha) (Nat.le_refl 1)) (by decide)) ?_
        rw [nl_eq]
        exact r _ (Same.refl _)
    · intro q H' nq s1 hq
      rw [List.filter_eq_self.mpr (fun _ _ => rfl), List.map_map] at hq
      have e : (as.map ((fun v => match v with | V.str x => V.str (x ++ SX.S [10]) | _ => v) ∘ strS)) = ((as.map fun a => a ++ [10]).map SX.S).map V.str := by
        rw [List.map_map, List.map_map]
        refine List.map_congr_left fun a _ => ?_
        show V.str (SX.S a ++ SX.S [10]) = V.str (SX.S (a ++ [10]))
        rw [SX.S_cat]
      rw [e] at hq
      have hf : (as.map fun a => a ++ [10]).flatten.length ≤ 100 * 1001 := by
        refine Nat.le_trans (flat_le (m := 1001) fun b hb => ?_) ?_
        · obtain ⟨a, ha, rfl⟩ := List.mem_map.mp hb
          rw [List.length_append]
          have := hl a ha
          show _ + 1 ≤ _
          omega
        · rw [List.length_map]
          exact Nat.mul_le_mul_right _ hz
      refine ⟨"", q, _, rfl, rfl, Or.inl (SqL.of hq), ?_, ?_⟩
      · rw [sum_flat]
        show _ + _ * 0 ≤ 16777216
        omega
      · rw [join_flat]
        refine g_cat_str (a := "image\n") (b := SX.S _) (by rw [imgH_eq, SX.S_len, SX.S_len]; exact Nat.le_trans (Nat.add_le_add (Nat.le_refl 6) hf) (by decide)) ?_
        rw [imgH_eq, SX.S_cat]
        walk_at "lw"
        exact k H' s1
theorem ok_bundle_text (T : Txt w K mg C_Pusher a_KINDS) : Cal P w K mg base 1 "bundle_text" spBun := by
  refine cal_mk T.d_bundle_text sc_bundle_text (fun vs H Q E h => ?_) (fun f cdv A outer s H vs Q E hr h => ?_)
  · obtain ⟨p, es, rfl, _⟩ := h
    rfl
  · obtain ⟨p, es, rfl, hp, ht, hz, hl, k⟩ := h
    refine ⟨_, (pss_one (ps_ret (pe_op op_cat_str (pe_str) (pe_join (pe_str) (pe_lc (own := [("platform", 1), ("address", 2)]) (g := (gTup K 2 (gCons (gName 1) (gCons (gName 2) gNil)))) (by rfl) sc_bundle_text.nd (pi_list (pv 0)) (blkOk_by (own := [("platform", 1), ("address", 2)]) (N := n_bundle_text) (sc := defScope s_bundle_text) (by decide +kernel)) (fun _ _ _ _ _ => (pg_tup (by rfl) (pgs_cons (pg_name (i := 1) sc_bundle_text.nd rfl (by first | exact Or.inl rfl | exact Or.inr rfl)) (pgs_cons (pg_name (i := 2) sc_bundle_text.nd rfl (by first | exact Or.inl rfl | exact Or.inr rfl)) pgs_nil)))) (fun _ _ _ _ _ => pts_nil) (fun _ _ _ _ _ => (pe_op op_cat_str (pe_op op_cat_str (pe_op op_cat_str (pv 1) (pe_str)) (pv 2)) (pe_str)))))))), ?_⟩
    walk_at "lw"
    refine g_ritL (SqL.of hp) ?_
    refine lc_map (G := fun H' => SqL K H' p (es.map fun e => V.ref e.1)) walk_list (fun H' s => SqL.of (s _ _ hp)) (by rw [List.length_map]; omega) (fun _ => true)
      (fun v => match v with | .ref a => (match H a with | some (.tup [.str x, .str y]) => .str (x ++ SX.S [32] ++ y ++ SX.S [10]) | _ => .non) | _ => .non) ?_ ?_
    · intro x hx H' R s1 kk
      obtain ⟨e, he, rfl⟩ := List.mem_map.mp hx
      have h1 := ht e he
      refine g_gtup (SqT.of (s1 _ _ h1)) rfl ?_
      walk_at "lw"
      refine kk _ rfl (fun H'' R s2 r => ?_) (fun hp' H'' R s2 r => ?_)
      · walk_at "lw"
        exact r
      · have hl1 := hl e he
        walk_at "lw"
        refine g_cat_str (a := SX.S e.2.1) (b := " ") (by rw [sp_eq, SX.S_len, SX.S_len]; exact Nat.le_trans (show e.2.1.length + 1 ≤ 1001 by omega) (by decide)) ?_
        rw [sp_eq, SX.S_cat]
        walk_at "lw"
        refine g_cat_str (a := SX.S (e.2.1 ++ [32])) (b := SX.S e.2.2) (by rw [SX.S_len, SX.S_len, List.length_append]; exact Nat.le_trans (show e.2.1.length + 1 + e.2.2.length ≤ 1001 by omega) (by decide)) ?_
        rw [SX.S_cat]
        walk_at "lw"
        refine g_cat_str (a := SX.S (e.2.1 ++ [32] ++ e.2.2)) (b := "\n") (by rw [nl_eq, SX.S_len, SX.S_len, List.length_append, List.length_append]; exact Nat.le_trans (show e.2.1.length + 1 + e.2.2.length + 1 ≤ 1002 by omega) (by decide)) ?_
        rw [nl_eq, SX.S_cat]
        have r := r H'' (Same.refl _)
        simp only [h1, strS, SX.S_cat] at r
        exact r
    · intro q H' nq s1 hq
      rw [List.filter_eq_self.mpr (fun _ _ => rfl), List.map_map] at hq
      have e : (es.map ((fun v => match v with | .ref a => (match H a with | some (.tup [.str x, .str y]) => .str (x ++ SX.S [32] ++ y ++ SX.S [10]) | _ => .non) | _ => .non) ∘ fun e => V.ref e.1)) = ((es.map fun e => e.2.1 ++ [32] ++ e.2.2 ++ [10]).map SX.S).map V.str := by
        rw [List.map_map, List.map_map]
        refine List.map_congr_left fun e he => ?_
        simp only [Function.comp, ht e he, strS, SX.S_cat]
      rw [e] at hq
      have hf : (es.map fun e => e.2.1 ++ [32] ++ e.2.2 ++ [10]).flatten.length ≤ 100 * 1002 := by
        refine Nat.le_trans (flat_le (m := 1002) fun b hb => ?_) ?_
        · obtain ⟨e, he, rfl⟩ := List.mem_map.mp hb
          simp only [List.length_append]
          have := hl e he
          show _ + 1 + _ + 1 ≤ _
          omega
        · rw [List.length_map]
          exact Nat.mul_le_mul_right _ hz
      refine ⟨"", q, _, rfl, rfl, Or.inl (SqL.of hq), ?_, ?_⟩
      · rw [sum_flat]
        show _ + _ * 0 ≤ 16777216
        omega
      · rw [join_flat]
        refine g_cat_str (a := "bundle\n") (b := SX.S _) (by rw [bunH_eq, SX.S_len, SX.S_len]; exact Nat.le_trans (Nat.add_le_add (Nat.le_refl 7) hf) (by decide)) ?_
        rw [bunH_eq, SX.S_cat]
        walk_at "lw"
        have k := k H' s1
        unfold bunL at k
        rw [List.map_map] at k
        exact k
end
end Lw

/-! ## the pusher -/
namespace Lw
open PySem L2
open PyProof.Rows (envOfC)
/-- what a push pushes -/
structure G where
  ls : List (List Nat)
  nm : Str
  pf : Option (List Nat)
def plV : Option (List Nat) → V
  | none => .non
  | some q => strS q
structure G.Ok (g : G) : Prop where
  l1 : g.ls.length ≤ 3
  l2 : ∀ t ∈ g.ls, t.length ≤ 7 ∧ ∀ c ∈ t, c < 0x110000
  nm : PyData.strOk g.nm = true
  pf : ∀ q, g.pf = some q → q.length ≤ 4 ∧ ∀ c ∈ q, c < 0x110000
def G.las (g : G) : List (List Nat) := g.ls.map (adrL "layer")
def G.img (g : G) : List Nat := imgL g.las
def G.ia (g : G) : List Nat := adrL "image" g.img
def G.bun (g : G) (q : List Nat) : List Nat := bunL [(q, g.ia)]
def G.tgt (g : G) : List Nat := match g.pf with
  | none => g.ia
  | some q => adrL "bundle" (g.bun q)
structure PAt (C : Addr) (c : Addr → Nat) (H : Hp) (p : Addr) (g : G) (n : Int) (dn : Bool) (st : Str) (cl pl up a : Int) : Prop where
  ex : ∃ (dx l : Addr), c p = 1 ∧ H p = some (.ins C dx (f_Pusher (.ref l) (.str g.nm) (plV g.pf) (.int n) (.bl dn) (.str st) (.int cl) (.int pl) (.int up) (.int a))) ∧ c l = 1 ∧ H l = some (.lst (g.ls.map strS))
section
variable {C : Addr} {c c' : Addr → Nat} {H H' : Hp} {p : Addr} {g : G} {n : Int} {dn : Bool} {st : Str} {cl pl up a : Int}
theorem PAt.frame {I : Nat → Prop} (h : PAt C c H p g n dn st cl pl up a) (s : Stp I c c' H H') (hi : ¬ I 1) : PAt C c' H' p g n dn st cl pl up a := by
  obtain ⟨dx, l, h1, h2, h3, h4⟩ := h.ex
  exact ⟨dx, l, by rw [s.col _ _ h2, h1], s.keep _ _ h2 (by rw [h1]; exact hi), by rw [s.col _ _ h4, h3], s.keep _ _ h4 (by rw [h3]; exact hi)⟩
theorem PAt.same (h : PAt C c H p g n dn st cl pl up a) (s : Same H H') : PAt C c H' p g n dn st cl pl up a := h.frame (Stp.same (I := fun _ => False) s) (fun z => z)
end
def spLA (C : Addr) : Sp := fun vs H Q _ => ∃ (c : Addr → Nat) (p : Addr) (g : G) (n : Int) (dn : Bool) (st : Str) (cl pl up a : Int) (t : List Nat), vs = [.ref p] ∧ PAt C c H p g n dn st cl pl up a ∧ atI g.ls pl = some t ∧ Q (.str (SX.S (adrL "layer" t))) H
def spTx (C : Addr) (F : G → List Nat → Prop) : Sp := fun vs H Q _ => ∃ (c : Addr → Nat) (p : Addr) (g : G) (n : Int) (dn : Bool) (st : Str) (cl pl up a : Int) (t : List Nat), vs = [.ref p] ∧ PAt C c H p g n dn st cl pl up a ∧ g.Ok ∧ F g t ∧ ∀ H', Same H H' → Q (.str (SX.S t)) H'
def fImg (g : G) (t : List Nat) : Prop := t = g.img
def fBun (g : G) (t : List Nat) : Prop := ∃ q, g.pf = some q ∧ t = g.bun q
def fTgt (g : G) (t : List Nat) : Prop := t = g.tgt
def spGo (C : Addr) : Sp := fun vs H Q _ => ∃ (c : Addr → Nat) (p : Addr) (g : G) (n : Int) (dn : Bool) (st : Str) (cl pl up a : Int) (x : Str), vs = [.ref p, .str x] ∧ PAt C c H p g n dn st cl pl up a ∧
  ∀ H', PAt C c H' p g (n + 1) dn x cl pl up a → Stp (fun i => i = 1) c c H H' → Q (.bl true) H'
def goS (g : G) (i : Int) : Str := if i < g.ls.length then "has" else "image"
def spGoL (C : Addr) : Sp := fun vs H Q _ => ∃ (c : Addr → Nat) (p : Addr) (g : G) (n : Int) (dn : Bool) (st : Str) (cl pl up a i : Int), vs = [.ref p, .int i] ∧ PAt C c H p g n dn st cl pl up a ∧
  ∀ H', PAt C c H' p g (n + 1) dn (goS g i) cl i up a → Stp (fun i => i = 1) c c H H' → Q (.bl true) H'
theorem lay_kind : ("layer" : Str) ∈ kinds3 := by decide +kernel
theorem img_kind : ("image" : Str) ∈ kinds3 := by decide +kernel
theorem bun_kind : ("bundle" : Str) ∈ kinds3 := by decide +kernel
theorem atI_map {α β : Type} {f : α → β} {l : List α} {i : Int} {x : α} (h : atI l i = some x) : atI (l.map f) i = some (f x) := by
  unfold atI at h ⊢
  rw [List.length_map]
  cases e : ixN l.length i with
  | none => rw [e] at h; cases h
  | some j =>
    rw [e] at h
    have h : l[j]? = some x := h
    show (l.map f)[j]? = some (f x)
    rw [List.getElem?_map, h]
    rfl
theorem G.las_len (g : G) : ∀ a ∈ g.las, a.length ≤ 1000 := fun a ha => by
  obtain ⟨t, _, rfl⟩ := List.mem_map.mp ha
  rw [adrL_len]
  decide
section
variable {P : Program} {w : World} {K : PySem.W.Frag} {mg : Str → Option Value} {base : Heap} {C_Pusher a_KINDS : Addr}
theorem ok_Pusher_layer_address (T : Txt w K mg C_Pusher a_KINDS) : Met P w K mg base 2 C_Pusher "layer_address" (spLA C_Pusher) := by
  have c_address_of : Cal P w K mg base 1 "address_of" spAddr := ok_address_of T
  refine met_mk T.cl_Pusher T.m_Pusher_layer_address sc_Pusher_layer_address (fun vs H Q E h => ?_) (fun f cdv A outer s H vs Q E hr h => ?_)
  · obtain ⟨c, p, g, n, dn, st, cl, pl, up, a, t, rfl, _⟩ := h
    rfl
  · obtain ⟨c, p, g, n, dn, st, cl, pl, up, a, t, rfl, W, ht, k⟩ := h
    obtain ⟨dx, l, h1, h2, h3, h4⟩ := W.ex
    refine ⟨_, (pss_one (ps_ret (pe_c c_address_of hr (by decide) rfl (pa_cons (pe_str) (pa_cons (pe_ix ix_list (pe_fld (pv 0) rfl) (pe_fld (pv 0) rfl) (fun _ _ => rfl)) pa_nil))))), ?_⟩
    walk_at "lw"
    refine g_rix (SqL.of h4) (atI_map ht) ?_
    walk_at "lw"
    refine ⟨"layer", t, rfl, lay_kind, ?_⟩
    walk_at "lw"
    exact k
theorem ok_Pusher_image (T : Txt w K mg C_Pusher a_KINDS) : Met P w K mg base 2 C_Pusher "image" (spTx C_Pusher fImg) := by
  have c_address_of : Cal P w K mg base 1 "address_of" spAddr := ok_address_of T
  have c_image_text : Cal P w K mg base 1 "image_text" spImg := ok_image_text T
  refine met_mk T.cl_Pusher T.m_Pusher_image sc_Pusher_image (fun vs H Q E h => ?_) (fun f cdv A outer s H vs Q E hr h => ?_)
  · obtain ⟨c, p, g, n, dn, st, cl, pl, up, a, t, rfl, _⟩ := h
    rfl
  · obtain ⟨c, p, g, n, dn, st, cl, pl, up, a, t, rfl, W, ok, rfl, k⟩ := h
    obtain ⟨dx, l, h1, h2, h3, h4⟩ := W.ex
    refine ⟨_, (pss_one (ps_ret (pe_c c_image_text hr (by decide) rfl (pa_cons (pe_lc (own := [("text", 1)]) (g := (gName 1)) (by rfl) sc_Pusher_image.nd (pi_list (pe_fld (pv 0) rfl)) (blkOk_by (own := [("text", 1)]) (N := n_Pusher_image) (sc := defScope s_Pusher_image) (by decide +kernel)) (fun _ _ _ _ _ => (pg_name (i := 1) sc_Pusher_image.nd rfl (by first | exact Or.inl rfl | exact Or.inr rfl))) (fun _ _ _ _ _ => pts_nil) (fun _ _ _ _ _ => (pe_c c_address_of hr (by decide) rfl (pa_cons (pe_str) (pa_cons (pv 1) pa_nil))))) pa_nil)))), ?_⟩
    walk_at "lw"
    refine g_ritL (SqL.of h4) ?_
    refine lc_map (G := fun H' => SqL K H' l (g.ls.map strS)) walk_list (fun H' s => SqL.of (s _ _ h4)) (by rw [List.length_map]; have := ok.l1; omega) (fun _ => true) (fun v => match v with | .str x => strS (adrL "layer" x.cps.toList) | _ => v) ?_ ?_
    · intro x hx H' R s1 kk
      obtain ⟨t, _, rfl⟩ := List.mem_map.mp hx
      walk_at "lw"
      refine kk _ rfl (fun H'' R s2 r => ?_) (fun hp' H'' R s2 r => ?_)
      · walk_at "lw"
        exact r
      · walk_at "lw"
        exact ⟨"layer", t, rfl, lay_kind, r _ (Same.refl _)⟩
    · intro q H' nq s1 hq
      rw [List.filter_eq_self.mpr (fun _ _ => rfl), List.map_map] at hq
      have e : g.ls.map ((fun v => match v with | .str x => strS (adrL "layer" x.cps.toList) | _ => v) ∘ strS) = g.las.map strS := by
        unfold G.las
        rw [List.map_map]
        rfl
      rw [e] at hq
      walk_at "lw"
      refine ⟨q, g.las, rfl, hq, by unfold G.las; rw [List.length_map]; have := ok.l1; omega, g.las_len, fun H2 s2 => ?_⟩
      exact k H2 (s1.trans s2)
theorem ok_Pusher_bundle (T : Txt w K mg C_Pusher a_KINDS) : Met P w K mg base 3 C_Pusher "bundle" (spTx C_Pusher fBun) := by
  have c_address_of : Cal P w K mg base 1 "address_of" spAddr := ok_address_of T
  have c_bundle_text : Cal P w K mg base 1 "bundle_text" spBun := ok_bundle_text T
  have t_Pusher_image : Met P w K mg base 2 C_Pusher "image" (spTx C_Pusher fImg) := ok_Pusher_image T
  refine met_mk T.cl_Pusher T.m_Pusher_bundle sc_Pusher_bundle (fun vs H Q E h => ?_) (fun f cdv A outer s H vs Q E hr h => ?_)
  · obtain ⟨c, p, g, n, dn, st, cl, pl, up, a, t, rfl, _⟩ := h
    rfl
  · obtain ⟨c, p, g, n, dn, st, cl, pl, up, a, t, rfl, W, ok, ⟨q, hq, rfl⟩, k⟩ := h
    obtain ⟨dx, l, h1, h2, h3, h4⟩ := W.ex
    refine ⟨_, (pss_one (ps_ret (pe_c c_bundle_text hr (by decide) rfl (pa_cons (pe_lst (pa_cons (pe_tup (pa_cons (pe_fld (pv 0) rfl) (pa_cons (pe_c c_address_of hr (by decide) rfl (pa_cons (pe_str) (pa_cons (pe_mt0 t_Pusher_image hr (by decide) (pv 0)) pa_nil))) pa_nil))) pa_nil)) pa_nil)))), ?_⟩
    walk_at "lw"
    refine ⟨c, p, g, n, dn, st, cl, pl, up, a, _, rfl, W, ok, rfl, fun H1 s1 => ?_⟩
    walk_at "lw"
    refine ⟨"image", g.img, rfl, img_kind, ?_⟩
    walk_at "lw"
    refine g_ktup (by show 2 ≤ 100; decide) fun t H2 nt s2 ht => ?_
    rw [hq] at ht
    walk_at "lw"
    refine g_klst (by show 1 ≤ 100; decide) fun b H3 nb s3 hb => ?_
    walk_at "lw"
    have hq4 := ok.pf q hq
    refine ⟨b, [(t, q, g.ia)], rfl, hb, fun e he => ?_, (by show 1 ≤ 100; decide), fun e he => ?_, fun H4 s4 => ?_⟩
    · rw [List.mem_singleton.mp he]
      exact s3 _ _ ht
    · rw [List.mem_singleton.mp he]
      show q.length + g.ia.length ≤ 1000
      unfold G.ia
      rw [adrL_len]
      omega
    · exact k H4 (((s1.trans s2).trans s3).trans s4)
theorem ok_Pusher_address (T : Txt w K mg C_Pusher a_KINDS) : Met P w K mg base 4 C_Pusher "address" (spTx C_Pusher fTgt) := by
  have c_address_of : Cal P w K mg base 1 "address_of" spAddr := ok_address_of T
  have t_Pusher_image : Met P w K mg base 2 C_Pusher "image" (spTx C_Pusher fImg) := ok_Pusher_image T
  have t_Pusher_bundle : Met P w K mg base 3 C_Pusher "bundle" (spTx C_Pusher fBun) := ok_Pusher_bundle T
  refine met_mk T.cl_Pusher T.m_Pusher_address sc_Pusher_address (fun vs H Q E h => ?_) (fun f cdv A outer s H vs Q E hr h => ?_)
  · obtain ⟨c, p, g, n, dn, st, cl, pl, up, a, t, rfl, _⟩ := h
    rfl
  · obtain ⟨c, p, g, n, dn, st, cl, pl, up, a, t, rfl, W, ok, rfl, k⟩ := h
    obtain ⟨dx, l, h1, h2, h3, h4⟩ := W.ex
    refine ⟨_, (pss_cons (ps_if (pt_cmpR op_isN' (pe_fld (pv 0) rfl) (pe_non) (nomark _)) (pss_one (ps_ret (pe_c c_address_of hr (by decide) rfl (pa_cons (pe_str) (pa_cons (pe_mt0 t_Pusher_image hr (by decide) (pv 0)) pa_nil))))) pss_nil)
      (pss_one (ps_ret (pe_c c_address_of hr (by decide) rfl (pa_cons (pe_str) (pa_cons (pe_mt0 t_Pusher_bundle hr (by decide) (pv 0)) pa_nil)))))), ?_⟩
    walk_at "lw"
    cases hq : g.pf with
    | none =>
      have e : g.tgt = g.ia := by unfold G.tgt; rw [hq]
      rw [e] at k
      show if decide (V.non = V.non) = true then _ else _
      walk_at "lw"
      refine ⟨c, p, g, n, dn, st, cl, pl, up, a, _, rfl, W, ok, rfl, fun H1 s1 => ?_⟩
      walk_at "lw"
      refine ⟨"image", g.img, rfl, img_kind, ?_⟩
      exact k H1 s1
    | some q =>
      have e : g.tgt = adrL "bundle" (g.bun q) := by unfold G.tgt; rw [hq]
      rw [e] at k
      refine ifF (b := decide (plV (some q) = V.non)) (decide_eq_false fun z => by cases z) ?_
      walk_at "lw"
      refine ⟨c, p, g, n, dn, st, cl, pl, up, a, _, rfl, W, ok, ⟨q, hq, rfl⟩, fun H1 s1 => ?_⟩
      walk_at "lw"
      exact ⟨"bundle", g.bun q, rfl, bun_kind, k H1 s1⟩
theorem ok_Pusher_go (T : Txt w K mg C_Pusher a_KINDS) : Met P w K mg base 1 C_Pusher "go" (spGo C_Pusher) := by
  refine met_mk T.cl_Pusher T.m_Pusher_go sc_Pusher_go (fun vs H Q E h => ?_) (fun f cdv A outer s H vs Q E hr h => ?_)
  · obtain ⟨c, p, g, n, dn, st, cl, pl, up, a, x, rfl, _⟩ := h
    rfl
  · obtain ⟨c, p, g, n, dn, st, cl, pl, up, a, x, rfl, W, k⟩ := h
    obtain ⟨dx, l, h1, h2, h3, h4⟩ := W.ex
    have ne : l ≠ p := Ne.symm (ne_of h2 h4 (by intro z; cases z))
    refine ⟨_, (pss_cons (ps_fld (pv 0) (pv 1) rfl)
      (pss_cons (ps_fldaug (pv 0) (pe_int) in_add)
      (pss_one (ps_ret (pe_bl))))), ?_⟩
    walk_at "lw"
    refine g_rsfld h2 T.cl_Pusher T.na_Pusher_step f_Pusher_len fun H2 p2 k2 => ?_
    rw [f_Pusher_put_step] at p2
    walk_at "lw"
    refine g_rfldaugI p2 T.cl_Pusher T.na_Pusher_number f_Pusher_number f_Pusher_len (fun R r => by walk_at "lw"; exact r) fun H3 p3 k3 => ?_
    rw [f_Pusher_put_number] at p3
    walk_at "lw"
    exact k H3 ⟨dx, l, h1, p3, h3, by rw [k3 l ne, k2 l ne]; exact h4⟩ ((Stp.ch h2 h1 (fun xs z => by cases z) p2 k2).trans (Stp.ch p2 h1 (fun xs z => by cases z) p3 k3))
theorem ok_Pusher_go_layer (T : Txt w K mg C_Pusher a_KINDS) : Met P w K mg base 2 C_Pusher "go_layer" (spGoL C_Pusher) := by
  have t_Pusher_go : Met P w K mg base 1 C_Pusher "go" (spGo C_Pusher) := ok_Pusher_go T
  refine met_mk T.cl_Pusher T.m_Pusher_go_layer sc_Pusher_go_layer (fun vs H Q E h => ?_) (fun f cdv A outer s H vs Q E hr h => ?_)
  · obtain ⟨c, p, g, n, dn, st, cl, pl, up, a, i, rfl, _⟩ := h
    rfl
  · obtain ⟨c, p, g, n, dn, st, cl, pl, up, a, i, rfl, W, k⟩ := h
    obtain ⟨dx, l, h1, h2, h3, h4⟩ := W.ex
    have ne : l ≠ p := Ne.symm (ne_of h2 h4 (by intro z; cases z))
    refine ⟨_, (pss_cons (ps_fld (pv 0) (pv 1) rfl)
      (pss_cons (ps_if (pt_cmpR op_lt (pv 1) (pe_callB call_len_seq' (by rfl) T.n_len (by decide +kernel) (pa_cons (pe_fld (pv 0) rfl) pa_nil)) (nomark _)) (pss_one (ps_ret (pe_mt t_Pusher_go hr (by decide) (pv 0) (pa_cons (pe_str) pa_nil)))) pss_nil)
      (pss_one (ps_ret (pe_mt t_Pusher_go hr (by decide) (pv 0) (pa_cons (pe_str) pa_nil)))))), ?_⟩
    walk_at "lw"
    refine g_rsfld h2 T.cl_Pusher T.na_Pusher_place f_Pusher_len fun H2 p2 k2 => ?_
    rw [f_Pusher_put_place] at p2
    have l2 : H2 l = some (.lst (g.ls.map strS)) := by rw [k2 l ne]; exact h4
    have W2 : PAt C_Pusher c H2 p g n dn st cl i up a := ⟨dx, l, h1, p2, h3, l2⟩
    have st2 : Stp (fun i => i = 1) c c H H2 := Stp.ch h2 h1 (fun xs z => by cases z) p2 k2
    walk_at "lw"
    rw [List.length_map]
    refine if2 (fun h => ?_) (fun h => ?_)
    · have e : goS g i = "has" := by unfold goS; rw [if_pos h]
      rw [e] at k
      walk_at "lw"
      exact ⟨c, p, g, n, dn, st, cl, i, up, a, _, rfl, W2, fun H3 W3 st3 => k H3 W3 (st2.trans st3)⟩
    · have e : goS g i = "image" := by unfold goS; rw [if_neg h]
      rw [e] at k
      walk_at "lw"
      exact ⟨c, p, g, n, dn, st, cl, i, up, a, _, rfl, W2, fun H3 W3 st3 => k H3 W3 (st2.trans st3)⟩
end
end Lw

/-! ## tuples of ints and texts -/
namespace Lw
open PySem L2
/-- the data of a body -/
def dK : Key → PyData
  | .inl i => .int i
  | .inr x => .str x
theorem dp_key {K : PySem.W.Frag} {H : Hp} : ∀ k : Key, Dp K H (kV k) (dK k)
  | .inl i => .int i
  | .inr x => .str x
theorem dp_keys {K : PySem.W.Frag} {H : Hp} : ∀ b : List Key, DpAll K H (b.map kV) (b.map dK)
  | [] => .nil
  | k :: b => .cons (dp_key k) (dp_keys b)
theorem dp_body {K : PySem.W.Frag} {H : Hp} {t : Addr} {b : List Key} (h : H t = some (.tup (b.map kV))) : Dp K H (.ref t) (.tuple (b.map dK)) := .tup (SqT.of h) (dp_keys b)
def OkB (b : List Key) : Prop := ∀ x, (Sum.inr x : Key) ∈ b → PyData.strOk x = true
theorem sh_all : ∀ b : List Key, OkB b → PyData.canLayAll0 (b.map dK) = true ∧ PyData.depthAll (b.map dK) = 0
  | [], _ => ⟨rfl, rfl⟩
  | k :: b, h => by
    obtain ⟨h1, h2⟩ := sh_all b fun x hx => h x (List.mem_cons_of_mem _ hx)
    cases k with
    | inl i => exact ⟨by simpa [PyData.canLayAll0, dK, PyData.canLay0] using h1, by simpa [PyData.depthAll, dK, PyData.depth] using h2⟩
    | inr x => exact ⟨by simpa [PyData.canLayAll0, dK, PyData.canLay0, h x (List.mem_cons_self)] using h1, by simpa [PyData.depthAll, dK, PyData.depth] using h2⟩
theorem sh_body {b : List Key} (h : OkB b) : SeqAt.shaped (.tuple (b.map dK)) = true := by
  obtain ⟨h1, h2⟩ := sh_all b h
  unfold SeqAt.shaped
  rw [Bool.and_eq_true, decide_eq_true_eq]
  exact ⟨h1, by simp only [PyData.depth]; omega⟩
theorem okT {l : List Nat} (h : ∀ c ∈ l, c < 0x110000) : PyData.strOk (SX.S l) = true := by
  unfold PyData.strOk
  rw [← Array.all_toList, List.all_eq_true]
  intro c hc
  exact decide_eq_true (h c hc)
theorem okT' {l : List Nat} (h : PyData.strOk (SX.S l) = true) : ∀ c ∈ l, c < 0x110000 := by
  unfold PyData.strOk at h
  rw [← Array.all_toList, List.all_eq_true] at h
  intro c hc
  exact of_decide_eq_true (h c hc)
theorem eqv_key (a b : Key) : PyData.eqv (dK a) (dK b) = decide (a = b) := by
  cases a <;> cases b
  · rename_i i j
    show (i == j) = _
    rw [Bool.eq_iff_iff, beq_iff_eq, decide_eq_true_eq]
    exact ⟨fun h => by rw [h], fun h => Sum.inl.inj h⟩
  · show false = _
    exact (decide_eq_false fun h => by cases h).symm
  · show false = _
    exact (decide_eq_false fun h => by cases h).symm
  · rename_i i j
    show (i == j) = _
    rw [Bool.eq_iff_iff, beq_iff_eq, decide_eq_true_eq]
    exact ⟨fun h => by rw [h], fun h => Sum.inr.inj h⟩
theorem eqv_keys : ∀ a b : List Key, PyData.eqvAll (a.map dK) (b.map dK) = decide (a = b)
  | [], [] => rfl
  | [], _ :: _ => rfl
  | _ :: _, [] => rfl
  | x :: a, y :: b => by
    show (PyData.eqv (dK x) (dK y) && PyData.eqvAll (a.map dK) (b.map dK)) = _
    rw [eqv_key, eqv_keys a b, Bool.eq_iff_iff, Bool.and_eq_true, decide_eq_true_eq, decide_eq_true_eq, decide_eq_true_eq, List.cons.injEq]
theorem eqv_tup (a b : List Key) : PyData.eqv (.tuple (a.map dK)) (.tuple (b.map dK)) = decide (a = b) := eqv_keys a b
section
variable {H : Hp} {K : PySem.W.Frag} {Q : VK}
theorem g_reqK {t u : Addr} {a b : List Key} (ht : H t = some (.tup (a.map kV))) (hu : H u = some (.tup (b.map kV))) (oa : OkB a) (ob : OkB b) (k : Q (.bl (decide (a = b))) H) : rEqD K (.ref t) (.ref u) H Q :=
  ⟨_, _, dp_body ht, dp_body hu, sh_body oa, sh_body ob, by rw [eqv_tup]; exact k⟩
theorem g_rneK {t u : Addr} {a b : List Key} (ht : H t = some (.tup (a.map kV))) (hu : H u = some (.tup (b.map kV))) (oa : OkB a) (ob : OkB b) (k : Q (.bl (!decide (a = b))) H) : rNeD K (.ref t) (.ref u) H Q :=
  ⟨_, _, dp_body ht, dp_body hu, sh_body oa, sh_body ob, by rw [eqv_tup]; exact k⟩
/-- t == (..), the tuple just displayed -/
theorem g_keq {t : Addr} {a b : List Key} {xs : List V} (ht : H t = some (.tup (a.map kV))) (hx : xs = b.map kV) (hl : b.length ≤ 100) (oa : OkB a) (ob : OkB b) (k : ∀ H', Same H H' → Q (.bl (decide (a = b))) H') : kTup (fun y H2 => rEqD K (.ref t) y H2 Q) xs H := by
  subst hx
  exact g_ktup (by rw [List.length_map]; exact hl) fun p H' _ s h => g_reqK (s _ _ ht) h oa ob (k H' s)
end
theorem okb0 : OkB [] := fun _ h => nomatch h
theorem okbI {i : Int} {b : List Key} (h : OkB b) : OkB (.inl i :: b) := fun x hx => by
  rcases List.mem_cons.mp hx with z | z
  · cases z
  · exact h x z
theorem okbS {x : Str} {b : List Key} (hx : PyData.strOk x = true) (h : OkB b) : OkB (.inr x :: b) := fun y hy => by
  rcases List.mem_cons.mp hy with z | z
  · rw [Sum.inr.inj z]; exact hx
  · exact h y z
end Lw

/-! ## the law's model of a push -/
namespace Lw
open PySem L2
open PyProof.Rows (envOfC)
inductive St9 | opn | has | start | part | fin | img | bun | nam | cls | don
  deriving DecidableEq
def St9.s : St9 → Str
  | .opn => "open" | .has => "has" | .start => "start" | .part => "part" | .fin => "finish" | .img => "image" | .bun => "bundle" | .nam => "name" | .cls => "close" | .don => "done"
/-- what stands in the pusher -/
def St9.ps : St9 → Str
  | .don => "close"
  | x => x.s
def St9.lay : St9 → Bool
  | .has => true | .start => true | .part => true | .fin => true
  | _ => false
structure M where
  step : St9
  cl : Int
  up : Int
  a : Int
  pl : Int
inductive Rp
  | claim (c : Int) | kept (x : Str) | upload (u : Int) | have' (u a : Int) | named (n x : Str) | closed (c : Int) | lacks (x : Str) | gone (u : Int) | wrong (x : Str) | lapsed (c : Int) | malformed
  deriving DecidableEq
def Rp.b : Rp → List Key
  | .claim c => [.inr "claim", .inl c]
  | .kept x => [.inr "kept", .inr x]
  | .upload u => [.inr "upload", .inl u]
  | .have' u a => [.inr "have", .inl u, .inl a]
  | .named n x => [.inr "named", .inr n, .inr x]
  | .closed c => [.inr "closed", .inl c]
  | .lacks x => [.inr "lacks", .inr x]
  | .gone u => [.inr "gone", .inl u]
  | .wrong x => [.inr "wrong", .inr x]
  | .lapsed c => [.inr "lapsed", .inl c]
  | .malformed => [.inr "malformed"]
def Rp.k : Rp → Str
  | .claim _ => "claim" | .kept _ => "kept" | .upload _ => "upload" | .have' _ _ => "have" | .named _ _ => "named" | .closed _ => "closed" | .lacks _ => "lacks" | .gone _ => "gone" | .wrong _ => "wrong" | .lapsed _ => "lapsed" | .malformed => "malformed"
theorem Rp.b_inj {r q : Rp} : r.b = q.b ↔ r = q := by
  constructor
  · intro h
    cases r <;> cases q <;> first
      | rfl
      | exact absurd (List.cons.inj h).1 (by decide +kernel)
      | (simp only [Rp.b, List.cons.injEq, Sum.inl.injEq, Sum.inr.injEq, and_true, true_and] at h; first | (subst h; rfl) | (obtain ⟨h1, h2⟩ := h; subst h1 h2; rfl))
  · intro h; rw [h]
theorem Rp.b_dec {r q : Rp} : decide (r.b = q.b) = decide (r = q) := by rw [decide_eq_decide]; exact Rp.b_inj
theorem Rp.at0 (r : Rp) : atI (r.b.map kV) 0 = some (.str r.k) := by cases r <;> rfl
def layT (g : G) (m : M) : List Nat := g.ls.getD m.pl.toNat []
def adrS (g : G) (m : M) : Str := SX.S (adrL "layer" (layT g m))
def goL (g : G) (i : Int) (m : M) : M := { m with step := if i < g.ls.length then .has else .img, pl := i }
def blobA (g : G) (s : St9) : Str := if s = .img then SX.S g.ia else SX.S g.tgt
def nx' (g : G) (m : M) (r : Rp) : Option M :=
  match m.step with
  | .opn => match r with | .claim c => some (goL g 0 { m with cl := c }) | _ => none
  | .has => if r = .kept (adrS g m) then some (goL g (m.pl + 1) m) else if r = .lacks (adrS g m) then some { m with step := .start } else none
  | .fin => if r = .kept (adrS g m) then some (goL g (m.pl + 1) m) else if r = .wrong (adrS g m) then some { m with step := .start } else if r = .gone m.up then some { m with step := .has } else none
  | .start => match r with | .upload u => some { m with up := u, a := 0, step := if layT g m = [] then .fin else .part } | _ => none
  | .part => if r = .gone m.up then some { m with step := .has } else match r with | .have' u a => if u = m.up then some { m with a := a, step := if a < (layT g m).length then .part else .fin } else none | _ => none
  | .img => match r with
    | .malformed => some { m with pl := 0 }
    | .lacks _ => some (goL g 0 m)
    | .kept x => if x = blobA g .img then some { m with step := if g.pf.isSome then .bun else .nam, pl := 0 } else some { m with pl := 0 }
    | _ => none
  | .bun => match r with
    | .malformed => some { m with pl := 0 }
    | .lacks _ => some (goL g 0 m)
    | .kept x => if x = blobA g .bun then some { m with step := .nam, pl := 0 } else some { m with pl := 0 }
    | _ => none
  | .nam => if r = .named g.nm (SX.S g.tgt) then some { m with step := .cls, pl := 0 } else if r = .lacks (SX.S g.tgt) then some (goL g 0 m) else none
  | .cls => if r = .closed m.cl then some { m with step := .don, pl := 0 } else none
  | .don => none
/-- a step at which a lapsed claim is heeded -/
def St9.lp : St9 → Bool
  | .opn => false | .part => false | .cls => false | .don => false
  | _ => true
def nx (g : G) (m : M) (r : Rp) : Option M := if m.step.lp = true ∧ r = .lapsed m.cl then some { m with step := .opn, pl := 0 } else nx' g m r
structure WF (g : G) (m : M) : Prop where
  lay : m.step.lay = true → 0 ≤ m.pl ∧ m.pl < g.ls.length
  bun : m.step = .bun → g.pf.isSome = true
theorem wf_no {g : G} {m : M} (h1 : m.step.lay = false) (h2 : m.step ≠ .bun) : WF g m := ⟨fun z => absurd z (by rw [h1]; decide), fun z => absurd z h2⟩
theorem wf_lay {g : G} {m : M} (h1 : 0 ≤ m.pl ∧ m.pl < g.ls.length) (h2 : m.step ≠ .bun) : WF g m := ⟨fun _ => h1, fun z => absurd z h2⟩
theorem goL_wf {g : G} {m : M} {i : Int} (h : 0 ≤ i) : WF g (goL g i m) := by
  unfold goL
  split
  · exact wf_lay ⟨h, by assumption⟩ (fun z => by cases z)
  · exact wf_no rfl (fun z => by cases z)
theorem nx_wf {g : G} {m m' : M} {r : Rp} (w : WF g m) (h : nx g m r = some m') : WF g m' := by
  unfold nx at h
  split at h
  · cases h
    exact wf_no rfl (fun z => by cases z)
  · unfold nx' at h
    cases hs : m.step <;> rw [hs] at h <;> dsimp only at h
    case don => cases h
    case opn =>
      split at h
      · cases h; exact goL_wf (by decide)
      · cases h
    case has =>
      have wl := w.lay (by rw [hs]; rfl)
      split at h
      · cases h; exact goL_wf (by omega)
      · split at h
        · cases h; exact wf_lay wl (fun z => by cases z)
        · cases h
    case fin =>
      have wl := w.lay (by rw [hs]; rfl)
      split at h
      · cases h; exact goL_wf (by omega)
      · split at h
        · cases h; exact wf_lay wl (fun z => by cases z)
        · split at h
          · cases h; exact wf_lay wl (fun z => by cases z)
          · cases h
    case start =>
      have wl := w.lay (by rw [hs]; rfl)
      split at h
      · cases h; exact wf_lay wl (fun z => by dsimp only at z; split at z <;> cases z)
      · cases h
    case part =>
      have wl := w.lay (by rw [hs]; rfl)
      split at h
      · cases h; exact wf_lay wl (fun z => by cases z)
      · split at h
        · split at h
          · cases h; exact wf_lay wl (fun z => by dsimp only at z; split at z <;> cases z)
          · cases h
        · cases h
    case img =>
      split at h
      · cases h; exact wf_no rfl (fun z => by cases z)
      · cases h; exact goL_wf (by decide)
      · split at h
        · cases h
          cases hp : g.pf with
          | none => exact wf_no rfl (fun z => by cases z)
          | some q => exact ⟨(fun z => (by cases z)), (fun _ => (by rw [hp]; rfl))⟩
        · cases h; exact wf_no rfl (fun z => by cases z)
      · cases h
    case bun =>
      have wb := w.bun hs
      split at h
      · cases h; exact ⟨(fun z => (by cases z)), fun _ => wb⟩
      · cases h; exact goL_wf (by decide)
      · split at h
        · cases h; exact wf_no rfl (fun z => by cases z)
        · cases h; exact ⟨(fun z => (by cases z)), fun _ => wb⟩
      · cases h
    case nam =>
      split at h
      · cases h; exact wf_no rfl (fun z => by cases z)
      · split at h
        · cases h; exact goL_wf (by decide)
        · cases h
    case cls =>
      split at h
      · cases h; exact wf_no rfl (fun z => by cases z)
      · cases h
end Lw

/-! ## what a reply does -/
namespace Lw
open PySem L2
open PyProof.Rows (envOfC)
def TkQ (C : Addr) (c : Addr → Nat) (H : Hp) (p : Addr) (g : G) (n : Int) (o : Option M) (Q : VK) : Prop := match o with
  | none => ∀ H', Same H H' → Q (.bl false) H'
  | some m' => ∀ H' pp', PAt C c H' p g (n + if m'.step = .don then 0 else 1) (decide (m'.step = .don)) m'.step.ps m'.cl pp' m'.up m'.a → (m'.step.lay = true → pp' = m'.pl) → Stp (fun i => i = 1) c c H H' → Q (.bl true) H'
def spTk (C : Addr) (f : G → M → Rp → Option M) (cond : M → Rp → Prop) : Sp := fun vs H Q _ => ∃ (c : Addr → Nat) (p : Addr) (g : G) (m : M) (n pp : Int) (t : Addr) (r : Rp), vs = [.ref p, .ref t] ∧ PAt C c H p g n (decide (m.step = .don)) m.step.ps m.cl pp m.up m.a ∧ g.Ok ∧ WF g m ∧
  (m.step.lay = true → pp = m.pl) ∧ H t = some (.tup (r.b.map kV)) ∧ OkB r.b ∧ cond m r ∧ TkQ C c H p g n (f g m r) Q
section
variable {C : Addr} {c : Addr → Nat} {H : Hp} {p : Addr} {g : G} {n : Int} {Q : VK} {m m' : M} {o : Option M}
theorem tk_some (e : o = some m') (hd : m'.step ≠ .don) (k : TkQ C c H p g n o Q) : ∀ H' pp', PAt C c H' p g (n + 1) false m'.step.ps m'.cl pp' m'.up m'.a → (m'.step.lay = true → pp' = m'.pl) → Stp (fun i => i = 1) c c H H' → Q (.bl true) H' := by
  subst e
  intro H' pp' W hl st
  refine k H' pp' ?_ hl st
  rw [if_neg hd, decide_eq_false hd]
  exact W
theorem tk_none (e : o = none) (k : TkQ C c H p g n o Q) : ∀ H', Same H H' → Q (.bl false) H' := by subst e; exact k
theorem goL_don {i : Int} : (goL g i m).step ≠ .don := by
  unfold goL
  intro z
  dsimp only at z
  split at z <;> cases z
theorem goL_ps {i : Int} : (goL g i m).step.ps = goS g i := by
  unfold goL goS
  dsimp only
  split <;> rfl
theorem goL_cl {i : Int} : (goL g i m).cl = m.cl := rfl
theorem tk_goL {i : Int} (e : o = some (goL g i m)) (k : TkQ C c H p g n o Q) : ∀ H', PAt C c H' p g (n + 1) false (goS g i) m.cl i m.up m.a → Stp (fun i => i = 1) c c H H' → Q (.bl true) H' := fun H' W st => by
  refine tk_some e goL_don k H' i ?_ (fun _ => rfl) st
  rw [goL_ps]
  exact W
end
theorem lay_at {g : G} {m : M} (h : 0 ≤ m.pl ∧ m.pl < g.ls.length) : atI g.ls m.pl = some (layT g m) := by
  have h2 : m.pl.toNat < g.ls.length := by omega
  have e : g.ls[m.pl.toNat]? = some (layT g m) := by
    unfold layT
    rw [List.getD_eq_getElem?_getD, List.getElem?_eq_getElem h2]
    rfl
  have := atI_nat (xs := g.ls) (j := m.pl.toNat) e
  rw [show ((m.pl.toNat : Nat) : Int) = m.pl by omega] at this
  exact this
theorem okAdr (k : Str) (t : List Nat) : PyData.strOk (SX.S (adrL k t)) = true := okT fun c hc => by
  have : ∀ c ∈ hexS, c < 0x110000 := by decide
  exact this c (adrL_hex k t c hc)
theorem okIa (g : G) : PyData.strOk (SX.S g.ia) = true := okAdr _ _
theorem okTgt (g : G) : PyData.strOk (SX.S g.tgt) = true := by
  unfold G.tgt
  split
  · exact okIa g
  · exact okAdr _ _
theorem okAdrS (g : G) (m : M) : PyData.strOk (adrS g m) = true := okAdr _ _
section
variable {P : Program} {w : World} {K : PySem.W.Frag} {mg : Str → Option Value} {base : Heap} {C_Pusher a_KINDS : Addr}
theorem ok_Pusher_take_kept (T : Txt w K mg C_Pusher a_KINDS) : Met P w K mg base 3 C_Pusher "take_kept" (spTk C_Pusher nx' fun m _ => m.step = .has ∨ m.step = .fin) := by
  have t_Pusher_layer_address : Met P w K mg base 2 C_Pusher "layer_address" (spLA C_Pusher) := ok_Pusher_layer_address T
  have t_Pusher_go : Met P w K mg base 1 C_Pusher "go" (spGo C_Pusher) := ok_Pusher_go T
  have t_Pusher_go_layer : Met P w K mg base 2 C_Pusher "go_layer" (spGoL C_Pusher) := ok_Pusher_go_layer T
  refine met_mk T.cl_Pusher T.m_Pusher_take_kept sc_Pusher_take_kept (fun vs H Q E h => ?_) (fun f cdv A outer s H vs Q E hr h => ?_)
  · obtain ⟨c, p, g, m, n, pp, t, r, rfl, _⟩ := h
    rfl
  · obtain ⟨c, p, g, m, n, pp, t, r, rfl, W, ok, wf, hl, ht, okr, hc, k⟩ := h
    have hlay : m.step.lay = true := by rcases hc with h | h <;> rw [h] <;> rfl
    have hpp := hl hlay
    subst hpp
    have hat := lay_at (wf.lay hlay)
    have o1 : OkB (Rp.kept (adrS g m)).b := okbS (by decide +kernel) (okbS (okAdrS g m) okb0)
    have o2 : OkB (Rp.lacks (adrS g m)).b := okbS (by decide +kernel) (okbS (okAdrS g m) okb0)
    have o3 : OkB (Rp.wrong (adrS g m)).b := okbS (by decide +kernel) (okbS (okAdrS g m) okb0)
    have o4 : OkB (Rp.gone m.up).b := okbS (by decide +kernel) (okbI okb0)
    obtain ⟨dx, l, h1, h2, h3, h4⟩ := W.ex
    refine ⟨_, (pss_cons (ps_set (i := 2) sc_Pusher_take_kept.nd rfl (by first | exact Or.inl rfl | exact Or.inr rfl) (pe_mt0 t_Pusher_layer_address hr (by decide) (pv 0)))
      (pss_cons (ps_if (pt_cmpR (op_eqD hr.units) (pv 1) (pe_tup (pa_cons (pe_str) (pa_cons (pv 2) pa_nil))) (nomark _)) (pss_one (ps_ret (pe_mt t_Pusher_go_layer hr (by decide) (pv 0) (pa_cons (pe_op op_add (pe_fld (pv 0) rfl) (pe_int)) pa_nil)))) pss_nil)
      (pss_cons (ps_if (PW.pt (pw_and (pt_cmpR op_eq (pe_fld (pv 0) rfl) (pe_str) (nomark _)) (pw_and1 (pt_cmpR (op_eqD hr.units) (pv 1) (pe_tup (pa_cons (pe_str) (pa_cons (pv 2) pa_nil))) (nomark _))))) (pss_one (ps_ret (pe_mt t_Pusher_go hr (by decide) (pv 0) (pa_cons (pe_str) pa_nil)))) pss_nil)
      (pss_cons (ps_if (PW.pt (pw_and (pt_cmpR op_eq (pe_fld (pv 0) rfl) (pe_str) (nomark _)) (pw_and1 (pt_cmpR (op_eqD hr.units) (pv 1) (pe_tup (pa_cons (pe_str) (pa_cons (pv 2) pa_nil))) (nomark _))))) (pss_one (ps_ret (pe_mt t_Pusher_go hr (by decide) (pv 0) (pa_cons (pe_str) pa_nil)))) pss_nil)
      (pss_cons (ps_if (PW.pt (pw_and (pt_cmpR op_eq (pe_fld (pv 0) rfl) (pe_str) (nomark _)) (pw_and1 (pt_cmpR (op_eqD hr.units) (pv 1) (pe_tup (pa_cons (pe_str) (pa_cons (pe_fld (pv 0) rfl) pa_nil))) (nomark _))))) (pss_one (ps_ret (pe_mt t_Pusher_go hr (by decide) (pv 0) (pa_cons (pe_str) pa_nil)))) pss_nil)
      (pss_one (ps_ret (pe_bl)))))))), ?_⟩
    walk_at "lw"
    refine ⟨c, p, g, n, _, _, _, _, _, _, layT g m, rfl, W, hat, ?_⟩
    walk_at "lw"
    refine g_keq ht (b := (Rp.kept (adrS g m)).b) rfl (by show 2 ≤ 100; decide) okr o1 fun H1 s1 => ?_
    rw [Rp.b_dec]
    walk_at "lw"
    refine if2 (fun hk => ?_) (fun hk => ?_)
    · have e : nx' g m r = some (goL g (m.pl + 1) m) := by
        unfold nx'
        rcases hc with h | h <;> rw [h] <;> dsimp only <;> rw [if_pos hk]
      walk_at "lw"
      refine ⟨c, p, g, n, _, _, _, _, _, _, m.pl + 1, rfl, W.same s1, fun H2 W2 st2 => ?_⟩
      rw [show decide (m.step = St9.don) = false by rcases hc with h | h <;> rw [h] <;> rfl] at W2
      exact tk_goL e k H2 W2 ((Stp.same s1).trans st2)
    · rcases hc with hs | hs
      · rw [hs] at W h2
        walk_at "lw"
        refine g_keq (s1.at ht) (b := (Rp.lacks (adrS g m)).b) rfl (by show 2 ≤ 100; decide) okr o2 fun H2 s2 => ?_
        rw [Rp.b_dec]
        walk_at "lw"
        refine if2 (fun hk2 => ?_) (fun hk2 => ?_)
        · have e : nx' g m r = some { m with step := .start } := by
            unfold nx'
            rw [hs]; dsimp only; rw [if_neg hk, if_pos hk2]
          walk_at "lw"
          refine ⟨c, p, g, n, _, _, _, _, _, _, "start", rfl, W.same (s1.trans s2), fun H3 W3 st3 => ?_⟩
          exact tk_some e (fun z => by cases z) k H3 _ W3 (fun _ => rfl) ((Stp.same (s1.trans s2)).trans st3)
        · have e : nx' g m r = none := by
            unfold nx'
            rw [hs]; dsimp only; rw [if_neg hk, if_neg hk2]
          walk_at "lw"
          exact tk_none e k _ (s1.trans s2)
      · rw [hs] at W h2
        walk_at "lw"
        refine g_keq (s1.at ht) (b := (Rp.wrong (adrS g m)).b) rfl (by show 2 ≤ 100; decide) okr o3 fun H2 s2 => ?_
        rw [Rp.b_dec]
        walk_at "lw"
        refine if2 (fun hk2 => ?_) (fun hk2 => ?_)
        · have e : nx' g m r = some { m with step := .start } := by
            unfold nx'
            rw [hs]; dsimp only; rw [if_neg hk, if_pos hk2]
          walk_at "lw"
          refine ⟨c, p, g, n, _, _, _, _, _, _, "start", rfl, W.same (s1.trans s2), fun H3 W3 st3 => ?_⟩
          exact tk_some e (fun z => by cases z) k H3 _ W3 (fun _ => rfl) ((Stp.same (s1.trans s2)).trans st3)
        · walk_at "lw"
          refine g_keq ((s1.trans s2).at ht) (b := (Rp.gone m.up).b) rfl (by show 2 ≤ 100; decide) okr o4 fun H3 s3 => ?_
          rw [Rp.b_dec]
          walk_at "lw"
          refine if2 (fun hk3 => ?_) (fun hk3 => ?_)
          · have e : nx' g m r = some { m with step := .has } := by
              unfold nx'
              rw [hs]; dsimp only; rw [if_neg hk, if_neg hk2, if_pos hk3]
            walk_at "lw"
            refine ⟨c, p, g, n, _, _, _, _, _, _, "has", rfl, W.same ((s1.trans s2).trans s3), fun H4 W4 st4 => ?_⟩
            exact tk_some e (fun z => by cases z) k H4 _ W4 (fun _ => rfl) ((Stp.same ((s1.trans s2).trans s3)).trans st4)
          · have e : nx' g m r = none := by
              unfold nx'
              rw [hs]; dsimp only; rw [if_neg hk, if_neg hk2, if_neg hk3]
            walk_at "lw"
            exact tk_none e k _ ((s1.trans s2).trans s3)
theorem lay_nil {l : List Nat} : V.str (SX.S l) = V.str "" ↔ l = [] := by
  rw [str_eq, empty_S]
  exact ⟨fun h => SX.S_inj h, fun h => by rw [h]⟩
theorem ok_Pusher_take_upload (T : Txt w K mg C_Pusher a_KINDS) : Met P w K mg base 2 C_Pusher "take_upload" (spTk C_Pusher nx' fun m r => m.step = .start ∧ ∃ u, r = .upload u) := by
  have t_Pusher_go : Met P w K mg base 1 C_Pusher "go" (spGo C_Pusher) := ok_Pusher_go T
  refine met_mk T.cl_Pusher T.m_Pusher_take_upload sc_Pusher_take_upload (fun vs H Q E h => ?_) (fun f cdv A outer s H vs Q E hr h => ?_)
  · obtain ⟨c, p, g, m, n, pp, t, r, rfl, _⟩ := h
    rfl
  · obtain ⟨c, p, g, m, n, pp, t, r, rfl, W, ok, wf, hl, ht, okr, ⟨hs, u, rfl⟩, k⟩ := h
    have hlay : m.step.lay = true := by rw [hs]; rfl
    have hpp := hl hlay
    subst hpp
    have hat := lay_at (wf.lay hlay)
    rw [hs] at W
    obtain ⟨dx, l, h1, h2, h3, h4⟩ := W.ex
    have ne : l ≠ p := Ne.symm (ne_of h2 h4 (by intro z; cases z))
    have e : nx' g m (.upload u) = some { m with up := u, a := 0, step := if layT g m = [] then .fin else .part } := by
      unfold nx'
      rw [hs]
    refine ⟨_, (pss_cons (ps_fld (pv 0) (pe_ix ix_tup (pv 1) (pe_int) (fun _ _ => rfl)) rfl)
      (pss_cons (ps_fld (pv 0) (pe_int) rfl)
      (pss_cons (ps_if (pt_cmpR op_eq (pe_ix ix_list (pe_fld (pv 0) rfl) (pe_fld (pv 0) rfl) (fun _ _ => rfl)) (pe_str) (nomark _)) (pss_one (ps_ret (pe_mt t_Pusher_go hr (by decide) (pv 0) (pa_cons (pe_str) pa_nil)))) pss_nil)
      (pss_one (ps_ret (pe_mt t_Pusher_go hr (by decide) (pv 0) (pa_cons (pe_str) pa_nil))))))), ?_⟩
    walk_at "lw"
    refine g_rixT (SqT.of ht) (v := .int u) rfl ?_
    walk_at "lw"
    refine g_rsfld h2 T.cl_Pusher T.na_Pusher_upload f_Pusher_len fun H2 p2 k2 => ?_
    rw [f_Pusher_put_upload] at p2
    walk_at "lw"
    refine g_rsfld p2 T.cl_Pusher T.na_Pusher_at f_Pusher_len fun H3 p3 k3 => ?_
    rw [f_Pusher_put_at] at p3
    have l3 : H3 l = some (.lst (g.ls.map strS)) := by rw [k3 l ne, k2 l ne]; exact h4
    have W3 : PAt C_Pusher c H3 p g n (decide (St9.start = St9.don)) St9.start.ps m.cl m.pl u 0 := ⟨dx, l, h1, p3, h3, l3⟩
    have st3 : Stp (fun i => i = 1) c c H H3 := (Stp.ch h2 h1 (fun xs z => by cases z) p2 k2).trans (Stp.ch p2 h1 (fun xs z => by cases z) p3 k3)
    walk_at "lw"
    refine g_rix (SqL.of l3) (atI_map hat) ?_
    walk_at "lw"
    refine if2 (fun hn => ?_) (fun hn => ?_)
    · have hn := lay_nil.mp hn
      rw [if_pos hn] at e
      walk_at "lw"
      refine ⟨c, p, g, n, _, _, _, _, _, _, "finish", rfl, W3, fun H4 W4 st4 => ?_⟩
      exact tk_some e (fun z => by cases z) k H4 _ W4 (fun _ => rfl) (st3.trans st4)
    · have hn : ¬ layT g m = [] := fun z => hn (lay_nil.mpr z)
      rw [if_neg hn] at e
      walk_at "lw"
      refine ⟨c, p, g, n, _, _, _, _, _, _, "part", rfl, W3, fun H4 W4 st4 => ?_⟩
      exact tk_some e (fun z => by cases z) k H4 _ W4 (fun _ => rfl) (st3.trans st4)
theorem ok_Pusher_take_part (T : Txt w K mg C_Pusher a_KINDS) : Met P w K mg base 2 C_Pusher "take_part" (spTk C_Pusher nx' fun m _ => m.step = .part) := by
  have t_Pusher_go : Met P w K mg base 1 C_Pusher "go" (spGo C_Pusher) := ok_Pusher_go T
  refine met_mk T.cl_Pusher T.m_Pusher_take_part sc_Pusher_take_part (fun vs H Q E h => ?_) (fun f cdv A outer s H vs Q E hr h => ?_)
  · obtain ⟨c, p, g, m, n, pp, t, r, rfl, _⟩ := h
    rfl
  · obtain ⟨c, p, g, m, n, pp, t, r, rfl, W, ok, wf, hl, ht, okr, hs, k⟩ := h
    have hlay : m.step.lay = true := by rw [hs]; rfl
    have hpp := hl hlay
    subst hpp
    have hat := lay_at (wf.lay hlay)
    have o4 : OkB (Rp.gone m.up).b := okbS (by decide +kernel) (okbI okb0)
    rw [hs] at W
    obtain ⟨dx, l, h1, h2, h3, h4⟩ := W.ex
    have ne : l ≠ p := Ne.symm (ne_of h2 h4 (by intro z; cases z))
    refine ⟨_, (pss_cons (ps_if (pt_cmpR (op_eqD hr.units) (pv 1) (pe_tup (pa_cons (pe_str) (pa_cons (pe_fld (pv 0) rfl) pa_nil))) (nomark _)) (pss_one (ps_ret (pe_mt t_Pusher_go hr (by decide) (pv 0) (pa_cons (pe_str) pa_nil)))) pss_nil)
      (pss_cons (ps_if (PW.pt (pw_or (pt_cmpR op_ne (pe_ix ix_tup (pv 1) (pe_int) (fun _ _ => rfl)) (pe_str) (nomark _)) (pw_or1 (pt_cmpR op_ne (pe_ix ix_tup (pv 1) (pe_int) (fun _ _ => rfl)) (pe_fld (pv 0) rfl) (nomark _))))) (pss_one (ps_ret (pe_bl))) pss_nil)
      (pss_cons (ps_fld (pv 0) (pe_ix ix_tup (pv 1) (pe_int) (fun _ _ => rfl)) rfl)
      (pss_cons (ps_if (pt_cmpR op_lt (pe_fld (pv 0) rfl) (pe_callB call_len_str' (by rfl) T.n_len (by decide +kernel) (pa_cons (pe_ix ix_list (pe_fld (pv 0) rfl) (pe_fld (pv 0) rfl) (fun _ _ => rfl)) pa_nil)) (nomark _)) (pss_one (ps_ret (pe_mt t_Pusher_go hr (by decide) (pv 0) (pa_cons (pe_str) pa_nil)))) pss_nil)
      (pss_one (ps_ret (pe_mt t_Pusher_go hr (by decide) (pv 0) (pa_cons (pe_str) pa_nil)))))))), ?_⟩
    walk_at "lw"
    refine g_keq ht (b := (Rp.gone m.up).b) rfl (by show 2 ≤ 100; decide) okr o4 fun H1 s1 => ?_
    rw [Rp.b_dec]
    walk_at "lw"
    refine if2 (fun hk => ?_) (fun hk => ?_)
    · have e : nx' g m r = some { m with step := .has } := by
        unfold nx'
        rw [hs]; dsimp only; rw [if_pos hk]
      walk_at "lw"
      refine ⟨c, p, g, n, _, _, _, _, _, _, "has", rfl, W.same s1, fun H2 W2 st2 => ?_⟩
      exact tk_some e (fun z => by cases z) k H2 _ W2 (fun _ => rfl) ((Stp.same s1).trans st2)
    · walk_at "lw"
      refine g_rixT (SqT.of (s1.at ht)) r.at0 ?_
      cases r
      case have' u a =>
        dsimp only [Rp.k]
        walk_at "lw"
        refine g_rixT (SqT.of (s1.at ht)) (v := .int u) rfl ?_
        walk_at "lw"
        refine ifn2 (fun hu => ?_) (fun hu => ?_)
        · have hu := int_eq.mp hu
          have e : nx' g m (.have' u a) = some { m with a := a, step := if a < (layT g m).length then .part else .fin } := by
            unfold nx'
            rw [hs]; dsimp only; rw [if_neg hk, if_pos hu]
          walk_at "lw"
          refine g_rixT (SqT.of (s1.at ht)) (v := .int a) rfl ?_
          walk_at "lw"
          have p1 := s1.at h2
          have l1 := s1.at h4
          refine g_rsfld p1 T.cl_Pusher T.na_Pusher_at f_Pusher_len fun H2 p2 k2 => ?_
          rw [f_Pusher_put_at] at p2
          have l2 : H2 l = some (.lst (g.ls.map strS)) := by rw [k2 l ne]; exact l1
          have W2 : PAt C_Pusher c H2 p g n (decide (St9.part = St9.don)) St9.part.ps m.cl m.pl m.up a := ⟨dx, l, h1, p2, h3, l2⟩
          have st2 : Stp (fun i => i = 1) c c H H2 := (Stp.same s1).trans (Stp.ch p1 h1 (fun xs z => by cases z) p2 k2)
          walk_at "lw"
          refine g_rix (SqL.of l2) (atI_map hat) ?_
          walk_at "lw"
          have hle : (layT g m).length ≤ 7 := by
            unfold layT
            rw [List.getD_eq_getElem?_getD]
            cases hx : g.ls[m.pl.toNat]? with
            | none => exact Nat.zero_le _
            | some x => exact (ok.l2 x (List.mem_of_getElem? hx)).1
          refine g_lenT (by rw [SX.S_len]; exact Nat.le_trans hle (by decide)) ?_
          rw [SX.S_len]
          walk_at "lw"
          refine if2 (fun ha => ?_) (fun ha => ?_)
          · rw [if_pos ha] at e
            walk_at "lw"
            refine ⟨c, p, g, n, _, _, _, _, _, _, "part", rfl, W2, fun H4 W4 st4 => ?_⟩
            exact tk_some e (fun z => by cases z) k H4 _ W4 (fun _ => rfl) (st2.trans st4)
          · rw [if_neg ha] at e
            walk_at "lw"
            refine ⟨c, p, g, n, _, _, _, _, _, _, "finish", rfl, W2, fun H4 W4 st4 => ?_⟩
            exact tk_some e (fun z => by cases z) k H4 _ W4 (fun _ => rfl) (st2.trans st4)
        · have hu : ¬ u = m.up := fun z => hu (by rw [z])
          walk_at "lw"
          exact tk_none (by unfold nx'; rw [hs]; dsimp only; rw [if_neg hk, if_neg hu]) k _ s1
      all_goals
        dsimp only [Rp.k]
        walk_at "lw"
        exact tk_none (by unfold nx'; rw [hs]; dsimp only; rw [if_neg hk]) k _ s1
theorem ok_Pusher_take_name (T : Txt w K mg C_Pusher a_KINDS) : Met P w K mg base 5 C_Pusher "take_name" (spTk C_Pusher nx' fun m _ => m.step = .nam) := by
  have t_Pusher_go : Met P w K mg base 1 C_Pusher "go" (spGo C_Pusher) := ok_Pusher_go T
  have t_Pusher_go_layer : Met P w K mg base 2 C_Pusher "go_layer" (spGoL C_Pusher) := ok_Pusher_go_layer T
  have t_Pusher_address : Met P w K mg base 4 C_Pusher "address" (spTx C_Pusher fTgt) := ok_Pusher_address T
  refine met_mk T.cl_Pusher T.m_Pusher_take_name sc_Pusher_take_name (fun vs H Q E h => ?_) (fun f cdv A outer s H vs Q E hr h => ?_)
  · obtain ⟨c, p, g, m, n, pp, t, r, rfl, _⟩ := h
    rfl
  · obtain ⟨c, p, g, m, n, pp, t, r, rfl, W, ok, wf, hl, ht, okr, hs, k⟩ := h
    have o1 : OkB (Rp.named g.nm (SX.S g.tgt)).b := okbS (by decide +kernel) (okbS ok.nm (okbS (okTgt g) okb0))
    have o2 : OkB (Rp.lacks (SX.S g.tgt)).b := okbS (by decide +kernel) (okbS (okTgt g) okb0)
    rw [hs] at W
    obtain ⟨dx, l, h1, h2, h3, h4⟩ := W.ex
    refine ⟨_, (pss_cons (ps_if (pt_cmpR (op_eqD hr.units) (pv 1) (pe_tup (pa_cons (pe_str) (pa_cons (pe_fld (pv 0) rfl) (pa_cons (pe_mt0 t_Pusher_address hr (by decide) (pv 0)) pa_nil)))) (nomark _)) (pss_one (ps_ret (pe_mt t_Pusher_go hr (by decide) (pv 0) (pa_cons (pe_str) pa_nil)))) pss_nil)
      (pss_cons (ps_if (pt_cmpR (op_eqD hr.units) (pv 1) (pe_tup (pa_cons (pe_str) (pa_cons (pe_mt0 t_Pusher_address hr (by decide) (pv 0)) pa_nil))) (nomark _)) (pss_one (ps_ret (pe_mt t_Pusher_go_layer hr (by decide) (pv 0) (pa_cons (pe_int) pa_nil)))) pss_nil)
      (pss_one (ps_ret (pe_bl))))), ?_⟩
    walk_at "lw"
    refine ⟨c, p, g, n, _, _, _, _, _, _, _, rfl, W, ok, rfl, fun H1 s1 => ?_⟩
    walk_at "lw"
    refine g_keq (s1.at ht) (b := (Rp.named g.nm (SX.S g.tgt)).b) rfl (by show 3 ≤ 100; decide) okr o1 fun H2 s2 => ?_
    rw [Rp.b_dec]
    walk_at "lw"
    refine if2 (fun hk => ?_) (fun hk => ?_)
    · have e : nx' g m r = some { m with step := .cls, pl := 0 } := by
        unfold nx'
        rw [hs]; dsimp only; rw [if_pos hk]
      walk_at "lw"
      refine ⟨c, p, g, n, _, _, _, _, _, _, "close", rfl, W.same (s1.trans s2), fun H3 W3 st3 => ?_⟩
      exact tk_some e (fun z => by cases z) k H3 _ W3 (fun z => by cases z) ((Stp.same (s1.trans s2)).trans st3)
    · walk_at "lw"
      refine ⟨c, p, g, n, _, _, _, _, _, _, _, rfl, W.same (s1.trans s2), ok, rfl, fun H3 s3 => ?_⟩
      walk_at "lw"
      have s123 := (s1.trans s2).trans s3
      refine g_keq (s123.at ht) (b := (Rp.lacks (SX.S g.tgt)).b) rfl (by show 2 ≤ 100; decide) okr o2 fun H4 s4 => ?_
      rw [Rp.b_dec]
      walk_at "lw"
      refine if2 (fun hk2 => ?_) (fun hk2 => ?_)
      · have e : nx' g m r = some (goL g 0 m) := by
          unfold nx'
          rw [hs]; dsimp only; rw [if_neg hk, if_pos hk2]
        walk_at "lw"
        refine ⟨c, p, g, n, _, _, _, _, _, _, 0, rfl, W.same (s123.trans s4), fun H5 W5 st5 => ?_⟩
        exact tk_goL e k H5 W5 ((Stp.same (s123.trans s4)).trans st5)
      · walk_at "lw"
        exact tk_none (by unfold nx'; rw [hs]; dsimp only; rw [if_neg hk, if_neg hk2]) k _ (s123.trans s4)
end
end Lw

namespace Lw
open PySem L2
open PyProof.Rows (envOfC)
theorem TkQ.shift {C : Addr} {c : Addr → Nat} {H H' : Hp} {p : Addr} {g : G} {n : Int} {Q : VK} {o : Option M} (s : Same H H') (k : TkQ C c H p g n o Q) : TkQ C c H' p g n o Q := by
  cases o with
  | none => exact fun H2 s2 => k H2 (s.trans s2)
  | some m' => exact fun H2 pp W hl st => k H2 pp W hl ((Stp.same s).trans st)
theorem lp_in (x : St9) : inV (V.str x.ps) [V.str "open", V.str "part", V.str "close"] = !x.lp := by cases x <;> decide +kernel
theorem Rp.k_lapsed {r : Rp} (h : r.k = "lapsed") : ∃ c, r = .lapsed c := by
  cases r <;> first | exact ⟨_, rfl⟩ | (dsimp only [Rp.k] at h; exact absurd h (by decide +kernel))
theorem Rp.k_claim {r : Rp} (h : r.k = "claim") : ∃ c, r = .claim c := by
  cases r <;> first | exact ⟨_, rfl⟩ | (dsimp only [Rp.k] at h; exact absurd h (by decide +kernel))
theorem Rp.k_upload {r : Rp} (h : r.k = "upload") : ∃ c, r = .upload c := by
  cases r <;> first | exact ⟨_, rfl⟩ | (dsimp only [Rp.k] at h; exact absurd h (by decide +kernel))
section
variable {P : Program} {w : World} {K : PySem.W.Frag} {mg : Str → Option Value} {base : Heap} {C_Pusher a_KINDS : Addr}
theorem ok_Pusher_take_put (T : Txt w K mg C_Pusher a_KINDS) : Met P w K mg base 5 C_Pusher "take_put" (spTk C_Pusher nx' fun m _ => m.step = .img ∨ m.step = .bun) := by
  have c_address_of : Cal P w K mg base 1 "address_of" spAddr := ok_address_of T
  have t_Pusher_go : Met P w K mg base 1 C_Pusher "go" (spGo C_Pusher) := ok_Pusher_go T
  have t_Pusher_go_layer : Met P w K mg base 2 C_Pusher "go_layer" (spGoL C_Pusher) := ok_Pusher_go_layer T
  have t_Pusher_image : Met P w K mg base 2 C_Pusher "image" (spTx C_Pusher fImg) := ok_Pusher_image T
  have t_Pusher_address : Met P w K mg base 4 C_Pusher "address" (spTx C_Pusher fTgt) := ok_Pusher_address T
  refine met_mk T.cl_Pusher T.m_Pusher_take_put sc_Pusher_take_put (fun vs H Q E h => ?_) (fun f cdv A outer s H vs Q E hr h => ?_)
  · obtain ⟨c, p, g, m, n, pp, t, r, rfl, _⟩ := h
    rfl
  · obtain ⟨c, p, g, m, n, pp, t, r, rfl, W, ok, wf, hl, ht, okr, hc, k⟩ := h
    have hd : decide (m.step = St9.don) = false := by rcases hc with h | h <;> rw [h] <;> rfl
    rw [hd] at W
    obtain ⟨dx, l, h1, h2, h3, h4⟩ := W.ex
    refine ⟨_, (pss_cons (ps_if (pt_cmpR op_eq (pe_ix ix_tup (pv 1) (pe_int) (fun _ _ => rfl)) (pe_str) (nomark _)) (pss_one (ps_ret (pe_mt t_Pusher_go hr (by decide) (pv 0) (pa_cons (pe_fld (pv 0) rfl) pa_nil)))) pss_nil)
      (pss_cons (ps_if (pt_cmpR op_eq (pe_ix ix_tup (pv 1) (pe_int) (fun _ _ => rfl)) (pe_str) (nomark _)) (pss_one (ps_ret (pe_mt t_Pusher_go_layer hr (by decide) (pv 0) (pa_cons (pe_int) pa_nil)))) pss_nil)
      (pss_cons (ps_if (pt_cmpR op_ne (pe_ix ix_tup (pv 1) (pe_int) (fun _ _ => rfl)) (pe_str) (nomark _)) (pss_one (ps_ret (pe_bl))) pss_nil)
      (pss_cons (ps_set (i := 2) sc_Pusher_take_put.nd rfl (by first | exact Or.inl rfl | exact Or.inr rfl) (pe_mt0 t_Pusher_address hr (by decide) (pv 0)))
      (pss_cons (ps_if (pt_cmpR op_eq (pe_fld (pv 0) rfl) (pe_str) (nomark _)) (pss_one (ps_set (i := 2) sc_Pusher_take_put.nd rfl (by first | exact Or.inl rfl | exact Or.inr rfl) (pe_c c_address_of hr (by decide) rfl (pa_cons (pe_str) (pa_cons (pe_mt0 t_Pusher_image hr (by decide) (pv 0)) pa_nil))))) pss_nil)
      (pss_cons (ps_if (pt_cmpR op_ne (pe_ix ix_tup (pv 1) (pe_int) (fun _ _ => rfl)) (pv 2) (nomark _)) (pss_one (ps_ret (pe_mt t_Pusher_go hr (by decide) (pv 0) (pa_cons (pe_fld (pv 0) rfl) pa_nil)))) pss_nil)
      (pss_cons (ps_if (PW.pt (pw_and (pt_cmpR op_eq (pe_fld (pv 0) rfl) (pe_str) (nomark _)) (pw_and1 (pt_cmpR op_notN' (pe_fld (pv 0) rfl) (pe_non) (nomark _))))) (pss_one (ps_ret (pe_mt t_Pusher_go hr (by decide) (pv 0) (pa_cons (pe_str) pa_nil)))) pss_nil)
      (pss_one (ps_ret (pe_mt t_Pusher_go hr (by decide) (pv 0) (pa_cons (pe_str) pa_nil))))))))))), ?_⟩
    walk_at "lw"
    refine g_rixT (SqT.of ht) r.at0 ?_
    cases r
    case malformed =>
      have e : nx' g m .malformed = some { m with pl := 0 } := by unfold nx'; rcases hc with h | h <;> rw [h]
      dsimp only [Rp.k]
      walk_at "lw"
      refine ⟨c, p, g, n, _, _, _, _, _, _, m.step.ps, rfl, W, fun H2 W2 st2 => ?_⟩
      exact tk_some e (by show m.step ≠ .don; rcases hc with h | h <;> rw [h] <;> decide) k H2 _ W2 (fun z => by rcases hc with h | h <;> (rw [show ({ m with pl := 0 } : M).step = m.step from rfl, h] at z; cases z)) st2
    case lacks x =>
      have e : nx' g m (.lacks x) = some (goL g 0 m) := by unfold nx'; rcases hc with h | h <;> rw [h]
      dsimp only [Rp.k]
      walk_at "lw"
      refine g_rixT (SqT.of ht) (v := .str "lacks") rfl ?_
      walk_at "lw"
      refine ⟨c, p, g, n, _, _, _, _, _, _, 0, rfl, W, fun H2 W2 st2 => ?_⟩
      exact tk_goL e k H2 W2 st2
    case kept x =>
      rcases hc with hs | hs
      · rw [hs] at W h2
        dsimp only [Rp.k]
        walk_at "lw"
        refine g_rixT (SqT.of ht) (v := .str "kept") rfl ?_
        walk_at "lw"
        refine g_rixT (SqT.of ht) (v := .str "kept") rfl ?_
        walk_at "lw"
        refine ⟨c, p, g, n, _, _, _, _, _, _, _, rfl, W, ok, rfl, fun H1 s1 => ?_⟩
        walk_at "lw"
        refine ⟨c, p, g, n, _, _, _, _, _, _, _, rfl, W.same s1, ok, rfl, fun H2 s2 => ?_⟩
        walk_at "lw"
        refine ⟨"image", g.img, rfl, img_kind, ?_⟩
        walk_at "lw"
        have s12 := s1.trans s2
        refine g_rixT (SqT.of (s12.at ht)) (v := .str x) rfl ?_
        walk_at "lw"
        show if (!decide (V.str x = V.str (SX.S g.ia))) = true then _ else _
        refine ifn2 (fun hx => ?_) (fun hx => ?_)
        · have hx := str_eq.mp hx
          have e : nx' g m (.kept x) = some { m with step := if g.pf.isSome then .bun else .nam, pl := 0 } := by
            unfold nx'
            rw [hs]
            dsimp only
            rw [if_pos (by unfold blobA; rw [if_pos rfl]; exact hx)]
          walk_at "lw"
          cases hq : g.pf with
          | none =>
            rw [hq] at e
            refine ifF (b := !decide (plV none = V.non)) (by show (!decide (V.non = V.non)) = false; rw [decide_eq_true rfl]; rfl) ?_
            walk_at "lw"
            refine ⟨c, p, g, n, _, _, _, _, _, _, "name", rfl, W.same s12, fun H3 W3 st3 => ?_⟩
            exact tk_some e (fun z => by cases z) k H3 _ W3 (fun z => by cases z) ((Stp.same s12).trans st3)
          | some q =>
            rw [hq] at e
            refine ifT (b := !decide (plV (some q) = V.non)) (by rw [decide_eq_false fun z => by cases z]; rfl) ?_
            walk_at "lw"
            refine ⟨c, p, g, n, _, _, _, _, _, _, "bundle", rfl, W.same s12, fun H3 W3 st3 => ?_⟩
            exact tk_some e (fun z => by cases z) k H3 _ W3 (fun z => by cases z) ((Stp.same s12).trans st3)
        · have hx : ¬ x = SX.S g.ia := fun z => hx (by rw [z])
          have e : nx' g m (.kept x) = some { m with pl := 0 } := by
            unfold nx'
            rw [hs]
            dsimp only
            rw [if_neg (by unfold blobA; rw [if_pos rfl]; exact hx)]
          walk_at "lw"
          refine ⟨c, p, g, n, _, _, _, _, _, _, _, rfl, W.same s12, fun H3 W3 st3 => ?_⟩
          exact tk_some e (by show m.step ≠ .don; rw [hs]; decide) k H3 _ (by rw [show ({ m with pl := 0 } : M).step = m.step from rfl, hs]; exact W3) (fun z => by rw [show ({ m with pl := 0 } : M).step = m.step from rfl, hs] at z; cases z) ((Stp.same s12).trans st3)
      · rw [hs] at W h2
        dsimp only [Rp.k]
        walk_at "lw"
        refine g_rixT (SqT.of ht) (v := .str "kept") rfl ?_
        walk_at "lw"
        refine g_rixT (SqT.of ht) (v := .str "kept") rfl ?_
        walk_at "lw"
        refine ⟨c, p, g, n, _, _, _, _, _, _, _, rfl, W, ok, rfl, fun H1 s1 => ?_⟩
        walk_at "lw"
        refine g_rixT (SqT.of (s1.at ht)) (v := .str x) rfl ?_
        walk_at "lw"
        refine ifn2 (fun hx => ?_) (fun hx => ?_)
        · have hx := str_eq.mp hx
          have e : nx' g m (.kept x) = some { m with step := .nam, pl := 0 } := by
            unfold nx'
            rw [hs]
            dsimp only
            rw [if_pos (by unfold blobA; rw [if_neg (by decide)]; exact hx)]
          walk_at "lw"
          refine ⟨c, p, g, n, _, _, _, _, _, _, "name", rfl, W.same s1, fun H3 W3 st3 => ?_⟩
          exact tk_some e (fun z => by cases z) k H3 _ W3 (fun z => by cases z) ((Stp.same s1).trans st3)
        · have hx : ¬ x = SX.S g.tgt := fun z => hx (by rw [z])
          have e : nx' g m (.kept x) = some { m with pl := 0 } := by
            unfold nx'
            rw [hs]
            dsimp only
            rw [if_neg (by unfold blobA; rw [if_neg (by decide)]; exact hx)]
          walk_at "lw"
          refine ⟨c, p, g, n, _, _, _, _, _, _, _, rfl, W.same s1, fun H3 W3 st3 => ?_⟩
          exact tk_some e (by show m.step ≠ .don; rw [hs]; decide) k H3 _ (by rw [show ({ m with pl := 0 } : M).step = m.step from rfl, hs]; exact W3) (fun z => by rw [show ({ m with pl := 0 } : M).step = m.step from rfl, hs] at z; cases z) ((Stp.same s1).trans st3)
    all_goals
      dsimp only [Rp.k]
      walk_at "lw"
      refine g_rixT (SqT.of ht) (Rp.at0 _) ?_
      dsimp only [Rp.k]
      walk_at "lw"
      refine g_rixT (SqT.of ht) (Rp.at0 _) ?_
      dsimp only [Rp.k]
      walk_at "lw"
      exact tk_none (by unfold nx'; rcases hc with h | h <;> rw [h]) k _ (Same.refl _)
theorem ok_Pusher_take (T : Txt w K mg C_Pusher a_KINDS) : Met P w K mg base 6 C_Pusher "take" (spTk C_Pusher nx fun _ _ => True) := by
  have t_Pusher_go : Met P w K mg base 1 C_Pusher "go" (spGo C_Pusher) := ok_Pusher_go T
  have t_Pusher_go_layer : Met P w K mg base 2 C_Pusher "go_layer" (spGoL C_Pusher) := ok_Pusher_go_layer T
  have t_Pusher_take_kept : Met P w K mg base 3 C_Pusher "take_kept" (spTk C_Pusher nx' fun m _ => m.step = .has ∨ m.step = .fin) := ok_Pusher_take_kept T
  have t_Pusher_take_upload : Met P w K mg base 2 C_Pusher "take_upload" (spTk C_Pusher nx' fun m r => m.step = .start ∧ ∃ u, r = .upload u) := ok_Pusher_take_upload T
  have t_Pusher_take_part : Met P w K mg base 2 C_Pusher "take_part" (spTk C_Pusher nx' fun m _ => m.step = .part) := ok_Pusher_take_part T
  have t_Pusher_take_put : Met P w K mg base 5 C_Pusher "take_put" (spTk C_Pusher nx' fun m _ => m.step = .img ∨ m.step = .bun) := ok_Pusher_take_put T
  have t_Pusher_take_name : Met P w K mg base 5 C_Pusher "take_name" (spTk C_Pusher nx' fun m _ => m.step = .nam) := ok_Pusher_take_name T
  refine met_mk T.cl_Pusher T.m_Pusher_take sc_Pusher_take (fun vs H Q E h => ?_) (fun f cdv A outer s H vs Q E hr h => ?_)
  · obtain ⟨c, p, g, m, n, pp, t, r, rfl, _⟩ := h
    rfl
  · obtain ⟨c, p, g, m, n, pp, t, r, rfl, W, ok, wf, hl, ht, okr, _, k⟩ := h
    obtain ⟨dx, l, h1, h2, h3, h4⟩ := W.ex
    refine ⟨_, (pss_cons (ps_if (pt_val (pe_fld (pv 0) rfl)) (pss_one (ps_ret (pe_bl))) pss_nil)
      (pss_cons (ps_set (i := 2) sc_Pusher_take.nd rfl (by first | exact Or.inl rfl | exact Or.inr rfl) (pe_ix ix_tup (pv 1) (pe_int) (fun _ _ => rfl)))
      (pss_cons (ps_set (i := 3) sc_Pusher_take.nd rfl (by first | exact Or.inl rfl | exact Or.inr rfl) (pe_fld (pv 0) rfl))
      (C8.pss_cut (ps_if (PW.pt (pw_and (pt_cmpR op_eq (pv 2) (pe_str) (nomark _)) (pw_and (pt_cmpR op_notIn_seq (pv 3) (pe_tup (pa_cons (pe_str) (pa_cons (pe_str) (pa_cons (pe_str) pa_nil)))) (by rfl)) (pw_and1 (pt_cmpR op_eq (pe_ix ix_tup (pv 1) (pe_int) (fun _ _ => rfl)) (pe_fld (pv 0) rfl) (nomark _)))))) (pss_one (ps_ret (pe_mt t_Pusher_go hr (by decide) (pv 0) (pa_cons (pe_str) pa_nil)))) pss_nil)
      (pss_cons (ps_if (PW.pt (pw_and (pt_cmpR op_eq (pv 3) (pe_str) (nomark _)) (pw_and1 (pt_cmpR op_eq (pv 2) (pe_str) (nomark _))))) (pss_cons (ps_fld (pv 0) (pe_ix ix_tup (pv 1) (pe_int) (fun _ _ => rfl)) rfl)
      (pss_one (ps_ret (pe_mt t_Pusher_go_layer hr (by decide) (pv 0) (pa_cons (pe_int) pa_nil))))) pss_nil)
      (pss_cons (ps_if (pt_cmpR op_in_seq (pv 3) (pe_tup (pa_cons (pe_str) (pa_cons (pe_str) pa_nil))) (by rfl)) (pss_one (ps_ret (pe_mt t_Pusher_take_kept hr (by decide) (pv 0) (pa_cons (pv 1) pa_nil)))) pss_nil)
      (pss_cons (ps_if (PW.pt (pw_and (pt_cmpR op_eq (pv 3) (pe_str) (nomark _)) (pw_and1 (pt_cmpR op_eq (pv 2) (pe_str) (nomark _))))) (pss_one (ps_ret (pe_mt t_Pusher_take_upload hr (by decide) (pv 0) (pa_cons (pv 1) pa_nil)))) pss_nil)
      (pss_cons (ps_if (pt_cmpR op_eq (pv 3) (pe_str) (nomark _)) (pss_one (ps_ret (pe_mt t_Pusher_take_part hr (by decide) (pv 0) (pa_cons (pv 1) pa_nil)))) pss_nil)
      (pss_cons (ps_if (pt_cmpR op_in_seq (pv 3) (pe_tup (pa_cons (pe_str) (pa_cons (pe_str) pa_nil))) (by rfl)) (pss_one (ps_ret (pe_mt t_Pusher_take_put hr (by decide) (pv 0) (pa_cons (pv 1) pa_nil)))) pss_nil)
      (pss_cons (ps_if (pt_cmpR op_eq (pv 3) (pe_str) (nomark _)) (pss_one (ps_ret (pe_mt t_Pusher_take_name hr (by decide) (pv 0) (pa_cons (pv 1) pa_nil)))) pss_nil)
      (pss_cons (ps_if (PW.pt (pw_and (pt_cmpR op_eq (pv 3) (pe_str) (nomark _)) (pw_and1 (pt_cmpR (op_eqD hr.units) (pv 1) (pe_tup (pa_cons (pe_str) (pa_cons (pe_fld (pv 0) rfl) pa_nil))) (nomark _))))) (pss_cons (ps_fld (pv 0) (pe_bl) rfl)
      (pss_one (ps_ret (pe_bl)))) pss_nil)
      (pss_one (ps_ret (pe_bl)))))))))))))), ?_⟩
    by_cases hdon : m.step = .don
    · rw [hdon] at W h2
      walk_at "lw"
      refine tk_none ?_ k _ (Same.refl _)
      unfold nx nx'
      rw [hdon, if_neg (fun z => by cases z.1)]
    · have hd : decide (m.step = St9.don) = false := decide_eq_false hdon
      rw [hd] at W h2
      walk_at "lw"
      refine g_rixT (SqT.of ht) r.at0 ?_
      walk_at "lw"
      refine g_cut (fun σ H' => Same H H' ∧ ¬ (m.step.lp = true ∧ r = .lapsed m.cl) ∧ σ = [some (.ref p), some (.ref t), some (.str r.k), some (.str m.step.ps)]) ?_ ?_
      · walk_at "lw"
        refine if2 (fun hk => ?_) (fun hk => ?_)
        · obtain ⟨c0, rfl⟩ := Rp.k_lapsed (str_eq.mp hk)
          dsimp only [Rp.k]
          walk_at "lw"
          refine g_kninT (b := !m.step.lp) (by show 3 ≤ 100; decide) rfl rfl (lp_in _) fun H1 s1 => ?_
          walk_at "lw"
          rw [Bool.not_not]
          refine ifb (fun hlp => ?_) (fun hlp => ?_)
          · walk_at "lw"
            refine g_rixT (SqT.of (s1.at ht)) (v := .int c0) rfl ?_
            walk_at "lw"
            refine if2 (fun hc => ?_) (fun hc => ?_)
            · have hc := int_eq.mp hc
              have e : nx g m (.lapsed c0) = some { m with step := .opn, pl := 0 } := by
                unfold nx
                rw [if_pos ⟨hlp, by rw [hc]⟩]
              walk_at "lw"
              refine ⟨c, p, g, n, _, _, _, _, _, _, "open", rfl, W.same s1, fun H2 W2 st2 => ?_⟩
              exact tk_some e (fun z => by cases z) k H2 _ W2 (fun z => by cases z) ((Stp.same s1).trans st2)
            · walk_at "lw"
              exact ⟨s1, fun z => hc (by injection z.2 with z; rw [z]), rfl⟩
          · walk_at "lw"
            exact ⟨s1, (fun z => (by rw [hlp] at z; cases z.1)), rfl⟩
        · walk_at "lw"
          exact ⟨Same.refl _, fun z => hk (by rw [z.2]; rfl), rfl⟩
      · rintro σ H' ⟨s1, hn, rfl⟩
        have k : TkQ C_Pusher c H p g n (nx' g m r) Q := by
          unfold nx at k
          rw [if_neg hn] at k
          exact k
        have W0 : PAt C_Pusher c H p g n (decide (m.step = .don)) m.step.ps m.cl pp m.up m.a := by rw [hd]; exact W
        have o5 : OkB (Rp.closed m.cl).b := okbS (by decide +kernel) (okbI okb0)
        cases hs : m.step
        case don => exact absurd hs hdon
        case opn =>
          rw [hs] at W h2
          walk_at "lw"
          refine if2 (fun hk => ?_) (fun hk => ?_)
          · obtain ⟨c0, rfl⟩ := Rp.k_claim (str_eq.mp hk)
            have e : nx' g m (.claim c0) = some (goL g 0 { m with cl := c0 }) := by unfold nx'; rw [hs]
            walk_at "lw"
            refine g_rixT (SqT.of (s1.at ht)) (v := .int c0) rfl ?_
            walk_at "lw"
            have p1 := s1.at h2
            have l1 := s1.at h4
            have ne : l ≠ p := Ne.symm (ne_of h2 h4 (by intro z; cases z))
            refine g_rsfld p1 T.cl_Pusher T.na_Pusher_claim f_Pusher_len fun H2 p2 k2 => ?_
            rw [f_Pusher_put_claim] at p2
            have W2 : PAt C_Pusher c H2 p g n false St9.opn.ps c0 pp m.up m.a := ⟨dx, l, h1, p2, h3, by rw [k2 l ne]; exact l1⟩
            have st2 : Stp (fun i => i = 1) c c H H2 := (Stp.same s1).trans (Stp.ch p1 h1 (fun xs z => by cases z) p2 k2)
            walk_at "lw"
            refine ⟨c, p, g, n, _, _, _, _, _, _, 0, rfl, W2, fun H3 W3 st3 => ?_⟩
            exact tk_goL (m := { m with cl := c0 }) e k H3 W3 (st2.trans st3)
          · have e : nx' g m r = none := by
              unfold nx'
              rw [hs]
              cases r <;> first | rfl | exact absurd rfl hk
            walk_at "lw"
            exact tk_none e k _ (by walk_at "lw same")
        case has =>
          rw [hs] at W h2
          walk_at "lw"
          refine ⟨c, p, g, m, n, pp, t, r, rfl, W0.same (by walk_at "lw same"), ok, wf, hl, Same.at (by walk_at "lw same") ht, okr, .inl hs, TkQ.shift (by walk_at "lw same") k⟩
        case fin =>
          rw [hs] at W h2
          walk_at "lw"
          refine ⟨c, p, g, m, n, pp, t, r, rfl, W0.same (by walk_at "lw same"), ok, wf, hl, Same.at (by walk_at "lw same") ht, okr, .inr hs, TkQ.shift (by walk_at "lw same") k⟩
        case start =>
          rw [hs] at W h2
          walk_at "lw"
          refine if2 (fun hk => ?_) (fun hk => ?_)
          · obtain ⟨c0, rfl⟩ := Rp.k_upload (str_eq.mp hk)
            walk_at "lw"
            refine ⟨c, p, g, m, n, pp, t, _, rfl, W0.same (by walk_at "lw same"), ok, wf, hl, Same.at (by walk_at "lw same") ht, okr, ⟨hs, c0, rfl⟩, TkQ.shift (by walk_at "lw same") k⟩
          · have e : nx' g m r = none := by
              unfold nx'
              rw [hs]
              cases r <;> first | rfl | exact absurd rfl hk
            walk_at "lw"
            exact tk_none e k _ (by walk_at "lw same")
        case part =>
          rw [hs] at W h2
          walk_at "lw"
          refine ⟨c, p, g, m, n, pp, t, r, rfl, W0.same (by walk_at "lw same"), ok, wf, hl, Same.at (by walk_at "lw same") ht, okr, hs, TkQ.shift (by walk_at "lw same") k⟩
        case img =>
          rw [hs] at W h2
          walk_at "lw"
          refine ⟨c, p, g, m, n, pp, t, r, rfl, W0.same (by walk_at "lw same"), ok, wf, hl, Same.at (by walk_at "lw same") ht, okr, .inl hs, TkQ.shift (by walk_at "lw same") k⟩
        case bun =>
          rw [hs] at W h2
          walk_at "lw"
          refine ⟨c, p, g, m, n, pp, t, r, rfl, W0.same (by walk_at "lw same"), ok, wf, hl, Same.at (by walk_at "lw same") ht, okr, .inr hs, TkQ.shift (by walk_at "lw same") k⟩
        case nam =>
          rw [hs] at W h2
          walk_at "lw"
          refine ⟨c, p, g, m, n, pp, t, r, rfl, W0.same (by walk_at "lw same"), ok, wf, hl, Same.at (by walk_at "lw same") ht, okr, hs, TkQ.shift (by walk_at "lw same") k⟩
        case cls =>
          rw [hs] at W h2
          walk_at "lw"
          refine g_keq (b := (Rp.closed m.cl).b) (Same.at (by walk_at "lw same") ht) rfl (by show 2 ≤ 100; decide) okr o5 fun H5 s5 => ?_
          have s05 : Same H H5 := by walk_at "lw same"
          rw [Rp.b_dec]
          walk_at "lw"
          refine if2 (fun hk => ?_) (fun hk => ?_)
          · have e : nx' g m r = some { m with step := .don, pl := 0 } := by
              unfold nx'
              rw [hs]; dsimp only; rw [if_pos hk]
            walk_at "lw"
            have p5 := s05.at h2
            have ne : l ≠ p := Ne.symm (ne_of h2 h4 (by intro z; cases z))
            refine g_rsfld p5 T.cl_Pusher T.na_Pusher_done f_Pusher_len fun H6 p6 k6 => ?_
            rw [f_Pusher_put_done] at p6
            walk_at "lw"
            rw [e] at k
            refine k H6 pp ⟨dx, l, h1, ?_, h3, by rw [k6 l ne]; exact s05.at h4⟩ (fun z => by cases z) ((Stp.same s05).trans (Stp.ch p5 h1 (fun xs z => by cases z) p6 k6))
            rw [if_pos rfl, Int.add_zero, decide_eq_true rfl]
            exact p6
          · have e : nx' g m r = none := by
              unfold nx'
              rw [hs]; dsimp only; rw [if_neg hk]
            walk_at "lw"
            exact tk_none e k _ s05
end
end Lw

/-! ## request, __init__ -/
namespace Lw
open PySem L2
open PyProof.Rows (envOfC)
def rq (g : G) (m : M) : List Key := match m.step with
  | .opn => [.inr "open"]
  | .start => [.inr "start", .inl m.cl]
  | .cls => [.inr "close", .inl m.cl]
  | .has => [.inr "has", .inl m.cl, .inr (adrS g m)]
  | .part => [.inr "part", .inl m.up, .inl m.a, .inr (Txt.slice (SX.S (layT g m)) (some m.a) (some (m.a + 4)))]
  | .fin => [.inr "finish", .inl m.up, .inl m.cl, .inr "layer", .inr (adrS g m)]
  | .img => [.inr "put", .inl m.cl, .inr "image", .inr (SX.S g.img)]
  | .bun => [.inr "put", .inl m.cl, .inr "bundle", .inr (SX.S (g.bun (g.pf.getD [])))]
  | .nam => [.inr "name", .inl m.cl, .inr g.nm, .inr (SX.S g.tgt)]
  | .don => []
def spReq (C : Addr) : Sp := fun vs H Q _ => ∃ (c : Addr → Nat) (p : Addr) (g : G) (m : M) (n pp : Int), vs = [.ref p] ∧ PAt C c H p g n (decide (m.step = .don)) m.step.ps m.cl pp m.up m.a ∧ g.Ok ∧ WF g m ∧ (m.step.lay = true → pp = m.pl) ∧
  (m.step ≠ .don → ∀ t H', Same H H' → H' t = some (.tup ((rq g m).map kV)) → Q (.ref t) H') ∧ (m.step = .don → Q .non H)
theorem lay_le {g : G} (ok : g.Ok) (m : M) : (layT g m).length ≤ 7 := by
  unfold layT
  rw [List.getD_eq_getElem?_getD]
  cases hx : g.ls[m.pl.toNat]? with
  | none => exact Nat.zero_le _
  | some x => exact (ok.l2 x (List.mem_of_getElem? hx)).1
def spPInit (C : Addr) : Sp := fun vs H Q _ => ∃ (p dx q : Addr) (ls : List (List Nat)) (nm : Str) (pf : Option (List Nat)) (n : Int), vs = [.ref p, .ref q, .str nm, plV pf, .int n] ∧ H p = some (.ins C dx []) ∧ H q = some (.lst (ls.map strS)) ∧
  ∀ l H', H l = none → H' p = some (.ins C dx (f_Pusher (.ref l) (.str nm) (plV pf) (.int n) (.bl false) (.str "open") (.int 0) (.int 0) (.int 0) (.int 0))) → H' l = some (.lst (ls.map strS)) → (∀ b o, H b = some o → b ≠ p → H' b = some o) → Q .non H'
section
variable {P : Program} {w : World} {K : PySem.W.Frag} {mg : Str → Option Value} {base : Heap} {C_Pusher a_KINDS : Addr}
theorem ok_Pusher_request (T : Txt w K mg C_Pusher a_KINDS) : Met P w K mg base 5 C_Pusher "request" (spReq C_Pusher) := by
  have t_Pusher_layer_address : Met P w K mg base 2 C_Pusher "layer_address" (spLA C_Pusher) := ok_Pusher_layer_address T
  have t_Pusher_image : Met P w K mg base 2 C_Pusher "image" (spTx C_Pusher fImg) := ok_Pusher_image T
  have t_Pusher_bundle : Met P w K mg base 3 C_Pusher "bundle" (spTx C_Pusher fBun) := ok_Pusher_bundle T
  have t_Pusher_address : Met P w K mg base 4 C_Pusher "address" (spTx C_Pusher fTgt) := ok_Pusher_address T
  refine met_mk T.cl_Pusher T.m_Pusher_request sc_Pusher_request (fun vs H Q E h => ?_) (fun f cdv A outer s H vs Q E hr h => ?_)
  · obtain ⟨c, p, g, m, n, pp, rfl, _⟩ := h
    rfl
  · obtain ⟨c, p, g, m, n, pp, rfl, W, ok, wf, hl, k, kd⟩ := h
    refine ⟨_, (pss_cons (ps_if (pt_val (pe_fld (pv 0) rfl)) (pss_one (ps_ret (pe_non))) pss_nil)
      (pss_cons (ps_set (i := 1) sc_Pusher_request.nd rfl (by first | exact Or.inl rfl | exact Or.inr rfl) (pe_fld (pv 0) rfl))
      (pss_cons (ps_if (pt_cmpR op_eq (pv 1) (pe_str) (nomark _)) (pss_one (ps_ret (pe_tup (pa_cons (pe_str) pa_nil)))) pss_nil)
      (pss_cons (ps_if (PW.pt (pw_or (pt_cmpR op_eq (pv 1) (pe_str) (nomark _)) (pw_or1 (pt_cmpR op_eq (pv 1) (pe_str) (nomark _))))) (pss_one (ps_ret (pe_tup (pa_cons (pv 1) (pa_cons (pe_fld (pv 0) rfl) pa_nil))))) pss_nil)
      (pss_cons (ps_if (pt_cmpR op_eq (pv 1) (pe_str) (nomark _)) (pss_one (ps_ret (pe_tup (pa_cons (pe_str) (pa_cons (pe_fld (pv 0) rfl) (pa_cons (pe_mt0 t_Pusher_layer_address hr (by decide) (pv 0)) pa_nil)))))) pss_nil)
      (pss_cons (ps_if (pt_cmpR op_eq (pv 1) (pe_str) (nomark _)) (pss_cons (ps_set (i := 2) sc_Pusher_request.nd rfl (by first | exact Or.inl rfl | exact Or.inr rfl) (pe_ix ix_list (pe_fld (pv 0) rfl) (pe_fld (pv 0) rfl) (fun _ _ => rfl)))
      (pss_one (ps_ret (pe_tup (pa_cons (pe_str) (pa_cons (pe_fld (pv 0) rfl) (pa_cons (pe_fld (pv 0) rfl) (pa_cons (pe_slice C8.sl_txt (pv 2) (po_some (pe_fld (pv 0) rfl)) (po_some (pe_op op_add (pe_fld (pv 0) rfl) (pe_gc rfl T.g_PART)))) pa_nil)))))))) pss_nil)
      (pss_cons (ps_if (pt_cmpR op_eq (pv 1) (pe_str) (nomark _)) (pss_one (ps_ret (pe_tup (pa_cons (pe_str) (pa_cons (pe_fld (pv 0) rfl) (pa_cons (pe_fld (pv 0) rfl) (pa_cons (pe_str) (pa_cons (pe_mt0 t_Pusher_layer_address hr (by decide) (pv 0)) pa_nil)))))))) pss_nil)
      (pss_cons (ps_if (pt_cmpR op_eq (pv 1) (pe_str) (nomark _)) (pss_one (ps_ret (pe_tup (pa_cons (pe_str) (pa_cons (pe_fld (pv 0) rfl) (pa_cons (pe_str) (pa_cons (pe_mt0 t_Pusher_image hr (by decide) (pv 0)) pa_nil))))))) pss_nil)
      (pss_cons (ps_if (pt_cmpR op_eq (pv 1) (pe_str) (nomark _)) (pss_one (ps_ret (pe_tup (pa_cons (pe_str) (pa_cons (pe_fld (pv 0) rfl) (pa_cons (pe_str) (pa_cons (pe_mt0 t_Pusher_bundle hr (by decide) (pv 0)) pa_nil))))))) pss_nil)
      (pss_one (ps_ret (pe_tup (pa_cons (pe_str) (pa_cons (pe_fld (pv 0) rfl) (pa_cons (pe_fld (pv 0) rfl) (pa_cons (pe_mt0 t_Pusher_address hr (by decide) (pv 0)) pa_nil)))))))))))))))), ?_⟩
    cases hs : m.step
    case don =>
      rw [hs] at W
      obtain ⟨dx, l, h1, h2, h3, h4⟩ := W.ex
      walk_at "lw"
      exact kd hs
    all_goals
      have k := k (by rw [hs]; decide)
      unfold rq at k
      rw [hs] at W k
      dsimp only at k
      obtain ⟨dx, l, h1, h2, h3, h4⟩ := W.ex
    case opn =>
      walk_at "lw"
      exact g_ktup (by show 1 ≤ 100; decide) fun t H1 _ s1 ht => k t H1 s1 ht
    case start =>
      walk_at "lw"
      exact g_ktup (by show 2 ≤ 100; decide) fun t H1 _ s1 ht => k t H1 s1 ht
    case cls =>
      walk_at "lw"
      exact g_ktup (by show 2 ≤ 100; decide) fun t H1 _ s1 ht => k t H1 s1 ht
    case has =>
      walk_at "lw"
      have hlay : m.step.lay = true := by rw [hs]; rfl
      have hpp := hl hlay
      subst hpp
      refine ⟨c, p, g, n, _, _, _, _, _, _, layT g m, rfl, W, lay_at (wf.lay hlay), ?_⟩
      walk_at "lw"
      exact g_ktup (by show 3 ≤ 100; decide) fun t H1 _ s1 ht => k t H1 s1 ht
    case fin =>
      walk_at "lw"
      have hlay : m.step.lay = true := by rw [hs]; rfl
      have hpp := hl hlay
      subst hpp
      refine ⟨c, p, g, n, _, _, _, _, _, _, layT g m, rfl, W, lay_at (wf.lay hlay), ?_⟩
      walk_at "lw"
      exact g_ktup (by show 5 ≤ 100; decide) fun t H1 _ s1 ht => k t H1 s1 ht
    case part =>
      walk_at "lw"
      have hlay : m.step.lay = true := by rw [hs]; rfl
      have hpp := hl hlay
      subst hpp
      refine g_rix (SqL.of h4) (atI_map (lay_at (wf.lay hlay))) ?_
      walk_at "lw"
      refine g_rslS (by rw [SX.S_len]; exact Nat.le_trans (lay_le ok m) (by decide)) ?_
      walk_at "lw"
      exact g_ktup (by show 4 ≤ 100; decide) fun t H1 _ s1 ht => k t H1 s1 ht
    case img =>
      walk_at "lw"
      refine ⟨c, p, g, n, _, _, _, _, _, _, _, rfl, W, ok, rfl, fun H1 s1 => ?_⟩
      walk_at "lw"
      exact g_ktup (by show 4 ≤ 100; decide) fun t H2 _ s2 ht => k t H2 (s1.trans s2) ht
    case bun =>
      walk_at "lw"
      have hb := wf.bun hs
      obtain ⟨q, hq⟩ := Option.isSome_iff_exists.mp hb
      refine ⟨c, p, g, n, _, _, _, _, _, _, _, rfl, W, ok, ⟨q, hq, rfl⟩, fun H1 s1 => ?_⟩
      walk_at "lw"
      refine g_ktup (by show 4 ≤ 100; decide) fun t H2 _ s2 ht => k t H2 (s1.trans s2) ?_
      rw [ht, hq]
      rfl
    case nam =>
      walk_at "lw"
      refine ⟨c, p, g, n, _, _, _, _, _, _, _, rfl, W, ok, rfl, fun H1 s1 => ?_⟩
      walk_at "lw"
      exact g_ktup (by show 4 ≤ 100; decide) fun t H2 _ s2 ht => k t H2 (s1.trans s2) ht
theorem ok_Pusher___init__ (T : Txt w K mg C_Pusher a_KINDS) : MakK P w K mg base 1 "Pusher" C_Pusher 2 ["platform", "number"] (spPInit C_Pusher) := by
  refine makK_mk T.i_Pusher sc_Pusher___init__ (fun vs H Q E h => ?_) (fun f cdv A outer s H vs Q E hr h => ?_)
  · obtain ⟨p, dx, q, ls, nm, pf, n, rfl, _⟩ := h
    rfl
  · obtain ⟨p, dx, q, ls, nm, pf, n, rfl, hp, hq, k⟩ := h
    refine ⟨_, (pss_cons (ps_fld (pv 0) (pe_callTy call_list_of (by rfl) T.n_list (by decide +kernel) (pa_cons (pv 1) pa_nil)) rfl)
      (pss_cons (ps_fld (pv 0) (pv 2) rfl)
      (pss_cons (ps_fld (pv 0) (pv 3) rfl)
      (pss_cons (ps_fld (pv 0) (pv 4) rfl)
      (pss_cons (ps_fld (pv 0) (pe_bl) rfl)
      (pss_cons (ps_fld (pv 0) (pe_str) rfl)
      (pss_cons (ps_fld (pv 0) (pe_int) rfl)
      (pss_cons (ps_fld (pv 0) (pe_int) rfl)
      (pss_cons (ps_fld (pv 0) (pe_int) rfl)
      (pss_one (ps_fld (pv 0) (pe_int) rfl))))))))))), ?_⟩
    walk_at "lw"
    refine ⟨q, _, rfl, .inl (SqL.of hq), fun l nl => ?_⟩
    have s1 : Same H (upd H l (.lst (ls.map strS))) := Same.new nl
    have hl : (upd H l (.lst (ls.map strS))) l = some (.lst (ls.map strS)) := upd_same
    have p0 := s1.at hp
    have ne : l ≠ p := Ne.symm (ne_of_none hp nl)
    generalize upd H l (.lst (ls.map strS)) = H0 at s1 hl p0
    walk_at "lw"
    refine g_rsfld p0 T.cl_Pusher T.na_Pusher_layers (by refine Nat.lt_of_le_of_lt (m := 10) ?_ (by decide); repeat (first | exact Nat.zero_le _ | refine Nat.le_trans putF_le (Nat.succ_le_succ ?_))) fun H1 p1 k1 => ?_
    walk_at "lw"
    refine g_rsfld p1 T.cl_Pusher T.na_Pusher_name (by refine Nat.lt_of_le_of_lt (m := 10) ?_ (by decide); repeat (first | exact Nat.zero_le _ | refine Nat.le_trans putF_le (Nat.succ_le_succ ?_))) fun H2 p2 k2 => ?_
    walk_at "lw"
    refine g_rsfld p2 T.cl_Pusher T.na_Pusher_platform (by refine Nat.lt_of_le_of_lt (m := 10) ?_ (by decide); repeat (first | exact Nat.zero_le _ | refine Nat.le_trans putF_le (Nat.succ_le_succ ?_))) fun H3 p3 k3 => ?_
    walk_at "lw"
    refine g_rsfld p3 T.cl_Pusher T.na_Pusher_number (by refine Nat.lt_of_le_of_lt (m := 10) ?_ (by decide); repeat (first | exact Nat.zero_le _ | refine Nat.le_trans putF_le (Nat.succ_le_succ ?_))) fun H4 p4 k4 => ?_
    walk_at "lw"
    refine g_rsfld p4 T.cl_Pusher T.na_Pusher_done (by refine Nat.lt_of_le_of_lt (m := 10) ?_ (by decide); repeat (first | exact Nat.zero_le _ | refine Nat.le_trans putF_le (Nat.succ_le_succ ?_))) fun H5 p5 k5 => ?_
    walk_at "lw"
    refine g_rsfld p5 T.cl_Pusher T.na_Pusher_step (by refine Nat.lt_of_le_of_lt (m := 10) ?_ (by decide); repeat (first | exact Nat.zero_le _ | refine Nat.le_trans putF_le (Nat.succ_le_succ ?_))) fun H6 p6 k6 => ?_
    walk_at "lw"
    refine g_rsfld p6 T.cl_Pusher T.na_Pusher_claim (by refine Nat.lt_of_le_of_lt (m := 10) ?_ (by decide); repeat (first | exact Nat.zero_le _ | refine Nat.le_trans putF_le (Nat.succ_le_succ ?_))) fun H7 p7 k7 => ?_
    walk_at "lw"
    refine g_rsfld p7 T.cl_Pusher T.na_Pusher_place (by refine Nat.lt_of_le_of_lt (m := 10) ?_ (by decide); repeat (first | exact Nat.zero_le _ | refine Nat.le_trans putF_le (Nat.succ_le_succ ?_))) fun H8 p8 k8 => ?_
    walk_at "lw"
    refine g_rsfld p8 T.cl_Pusher T.na_Pusher_upload (by refine Nat.lt_of_le_of_lt (m := 10) ?_ (by decide); repeat (first | exact Nat.zero_le _ | refine Nat.le_trans putF_le (Nat.succ_le_succ ?_))) fun H9 p9 k9 => ?_
    walk_at "lw"
    refine g_rsfld p9 T.cl_Pusher T.na_Pusher_at (by refine Nat.lt_of_le_of_lt (m := 10) ?_ (by decide); repeat (first | exact Nat.zero_le _ | refine Nat.le_trans putF_le (Nat.succ_le_succ ?_))) fun H10 p10 k10 => ?_
    walk_at "lw"
    rw [f_Pusher_mk] at p10
    have kk : ∀ b, b ≠ p → H10 b = H0 b := fun b hb => by rw [k10 b hb, k9 b hb, k8 b hb, k7 b hb, k6 b hb, k5 b hb, k4 b hb, k3 b hb, k2 b hb, k1 b hb]
    exact k l H10 nl p10 (by rw [kk l ne]; exact hl) fun b o e hb => by rw [kk b hb]; exact s1 _ _ e
end
end Lw

/-! ## the law's model as a dict -/
namespace Lw
open PySem L2
open PyProof.Rows (envOfC)
def keys5 : List Str := ["step", "claim", "upload", "at", "place"]
def mv (m : M) (k : Str) : V := if k = "step" then .str m.step.s else if k = "claim" then .int m.cl else if k = "upload" then .int m.up else if k = "at" then .int m.a else .int m.pl
theorem mv_step {m : M} : mv m "step" = .str m.step.s := by unfold mv; rw [if_pos (by decide +kernel)]
theorem mv_claim {m : M} : mv m "claim" = .int m.cl := by unfold mv; rw [if_neg (by decide +kernel), if_pos (by decide +kernel)]
theorem mv_upload {m : M} : mv m "upload" = .int m.up := by unfold mv; rw [if_neg (by decide +kernel), if_neg (by decide +kernel), if_pos (by decide +kernel)]
theorem mv_at {m : M} : mv m "at" = .int m.a := by unfold mv; rw [if_neg (by decide +kernel), if_neg (by decide +kernel), if_neg (by decide +kernel), if_pos (by decide +kernel)]
theorem mv_place {m : M} : mv m "place" = .int m.pl := by unfold mv; rw [if_neg (by decide +kernel), if_neg (by decide +kernel), if_neg (by decide +kernel), if_neg (by decide +kernel)]
theorem mv_put {m m' : M} {k : Str} {v : V} (hk : k ∈ keys5) (h : ∀ j ∈ keys5, (if j = k then v else mv m j) = mv m' j) : putK (mkS keys5 (mv m)) (kS k) v = mkS keys5 (mv m') := by
  rw [putK_mkS_old hk]
  exact mkS_congr h
theorem all5 {p : Str → Prop} (h1 : p "step") (h2 : p "claim") (h3 : p "upload") (h4 : p "at") (h5 : p "place") : ∀ j ∈ keys5, p j := by
  intro j hj
  simp only [keys5, List.mem_cons, List.not_mem_nil, or_false] at hj
  rcases hj with rfl | rfl | rfl | rfl | rfl <;> assumption
theorem put_step {m : M} {x : St9} : putK (mkS keys5 (mv m)) (kS "step") (.str x.s) = mkS keys5 (mv { m with step := x }) :=
  mv_put (by decide +kernel) (all5 (by rw [if_pos rfl, mv_step]) (by rw [if_neg (by decide +kernel), mv_claim, mv_claim]) (by rw [if_neg (by decide +kernel), mv_upload, mv_upload]) (by rw [if_neg (by decide +kernel), mv_at, mv_at]) (by rw [if_neg (by decide +kernel), mv_place, mv_place]))
theorem put_claim {m : M} {x : Int} : putK (mkS keys5 (mv m)) (kS "claim") (.int x) = mkS keys5 (mv { m with cl := x }) :=
  mv_put (by decide +kernel) (all5 (by rw [if_neg (by decide +kernel), mv_step, mv_step]) (by rw [if_pos rfl, mv_claim]) (by rw [if_neg (by decide +kernel), mv_upload, mv_upload]) (by rw [if_neg (by decide +kernel), mv_at, mv_at]) (by rw [if_neg (by decide +kernel), mv_place, mv_place]))
theorem put_upload {m : M} {x : Int} : putK (mkS keys5 (mv m)) (kS "upload") (.int x) = mkS keys5 (mv { m with up := x }) :=
  mv_put (by decide +kernel) (all5 (by rw [if_neg (by decide +kernel), mv_step, mv_step]) (by rw [if_neg (by decide +kernel), mv_claim, mv_claim]) (by rw [if_pos rfl, mv_upload]) (by rw [if_neg (by decide +kernel), mv_at, mv_at]) (by rw [if_neg (by decide +kernel), mv_place, mv_place]))
theorem put_at {m : M} {x : Int} : putK (mkS keys5 (mv m)) (kS "at") (.int x) = mkS keys5 (mv { m with a := x }) :=
  mv_put (by decide +kernel) (all5 (by rw [if_neg (by decide +kernel), mv_step, mv_step]) (by rw [if_neg (by decide +kernel), mv_claim, mv_claim]) (by rw [if_neg (by decide +kernel), mv_upload, mv_upload]) (by rw [if_pos rfl, mv_at]) (by rw [if_neg (by decide +kernel), mv_place, mv_place]))
theorem put_place {m : M} {x : Int} : putK (mkS keys5 (mv m)) (kS "place") (.int x) = mkS keys5 (mv { m with pl := x }) :=
  mv_put (by decide +kernel) (all5 (by rw [if_neg (by decide +kernel), mv_step, mv_step]) (by rw [if_neg (by decide +kernel), mv_claim, mv_claim]) (by rw [if_neg (by decide +kernel), mv_upload, mv_upload]) (by rw [if_neg (by decide +kernel), mv_at, mv_at]) (by rw [if_pos rfl, mv_place]))
section
variable {H : Hp} {Q : VK} {d : Addr} {m : M}
theorem g_md_step (h : H d = some (.dK (mkS keys5 (mv m)))) (k : Q (.str m.step.s) H) : rDGet (.ref d) (.str "step") H Q := g_rdgetS (.of h) (by rw [valV_mkS, if_pos (by decide +kernel), mv_step]) k
theorem g_md_claim (h : H d = some (.dK (mkS keys5 (mv m)))) (k : Q (.int m.cl) H) : rDGet (.ref d) (.str "claim") H Q := g_rdgetS (.of h) (by rw [valV_mkS, if_pos (by decide +kernel), mv_claim]) k
theorem g_md_upload (h : H d = some (.dK (mkS keys5 (mv m)))) (k : Q (.int m.up) H) : rDGet (.ref d) (.str "upload") H Q := g_rdgetS (.of h) (by rw [valV_mkS, if_pos (by decide +kernel), mv_upload]) k
theorem g_md_at (h : H d = some (.dK (mkS keys5 (mv m)))) (k : Q (.int m.a) H) : rDGet (.ref d) (.str "at") H Q := g_rdgetS (.of h) (by rw [valV_mkS, if_pos (by decide +kernel), mv_at]) k
theorem g_md_place (h : H d = some (.dK (mkS keys5 (mv m)))) (k : Q (.int m.pl) H) : rDGet (.ref d) (.str "place") H Q := g_rdgetS (.of h) (by rw [valV_mkS, if_pos (by decide +kernel), mv_place]) k
end
end Lw
local macro_rules | `(tactic| walk_at "lw side") => `(tactic| first | assumption | decide | omega | exact Or.inr ⟨by decide, by decide⟩ | exact Or.inl ⟨by decide, by decide⟩ | exact ⟨by decide, by decide⟩ | exact ⟨by omega, by omega⟩)
local macro_rules | `(tactic| walk_at "lw ne") => `(tactic| first | assumption | exact Ne.symm (by assumption) | exact L2.ne_of_none (by assumption) (by assumption) | exact Ne.symm (L2.ne_of_none (by assumption) (by assumption)))
local macro_rules | `(tactic| walk_at "lw hp") => `(tactic| first | assumption | exact L2.upd_same | (refine Eq.trans (L2.upd_ne (by walk_at "lw ne")) ?_; walk_at "lw hp"))
local macro_rules | `(tactic| walk_at "lw sq") => `(tactic| first | assumption | exact L2.SqL.of (by walk_at "lw hp") | exact L2.SqT.of (by walk_at "lw hp"))
local macro_rules | `(tactic| walk_at "lw go") => `(tactic| first
  | (with_reducible refine Lw.g_seq ?_)
  | ((with_reducible refine' Lw.g_var ?h1 ?k1); (case h1 => rfl))
  | (with_reducible refine Lw.g_c ?_)
  | (with_reducible refine Lw.g_op ?_)
  | (with_reducible refine Lw.g_I0 ?_)
  | ((with_reducible refine' Lw.g_I ?h1 ?k1); (case h1 => walk_at "lw side"))
  | ((with_reducible refine' Lw.g_eq ?h1 ?k1); (case h1 => rfl))
  | ((with_reducible refine' Lw.g_ne ?h1 ?k1); (case h1 => rfl))
  | (with_reducible refine Lw.g_nil ?_)
  | (with_reducible refine Lw.g_cons ?_)
  | (with_reducible refine Lw.g_cb ?_)
  | (with_reducible refine Lw.g_call ?_)
  | (with_reducible refine Lw.g_test ?_)
  | (with_reducible refine Lw.g_B ?_)
  | (with_reducible refine Lw.g_exb ?_)
  | (with_reducible refine Lw.g_not ?_)
  | (with_reducible refine Lw.g_and ?_)
  | (with_reducible refine Lw.g_or ?_)
  | (with_reducible refine Lw.g_tup ?_)
  | (with_reducible refine Lw.g_lst ?_)
  | (with_reducible refine Lw.g_ifx ?_)
  | (with_reducible refine Lw.g_fld ?_)
  | (with_reducible refine Lw.g_asg ?_)
  | (with_reducible refine Lw.g_name ?_)
  | (with_reducible refine Lw.g_ret ?_)
  | (with_reducible refine Lw.g_drop ?_)
  | (with_reducible refine Lw.g_next ?_)
  | (with_reducible refine Lw.g_ifs ?_)
  | (with_reducible refine Lw.g_pnx ?_)
  | (with_reducible refine Lw.g_prt ?_)
  | (with_reducible refine Lw.g_pbk ?_)
  | (with_reducible refine Lw.g_pct ?_)
  | (with_reducible refine Lw.g_sl ?_)
  | (with_reducible refine Lw.g_nopart ?_)
  | (with_reducible refine Lw.g_part ?_)
  | (with_reducible refine Lw.g_rpart ?_)
  | (with_reducible refine Lw.g_m1 ?_)
  | (with_reducible refine Lw.g_m0 ?_)
  | (with_reducible refine Lw.g_rstr ?_)
  | (with_reducible refine Lw.g_bm0 ?_)
  | (with_reducible refine Lw.g_bm ?_)
  | (with_reducible refine Lw.g_isN ?_)
  | (with_reducible refine Lw.g_isB ?_)
  | (with_reducible refine Lw.g_notB ?_)
  | (with_reducible refine Lw.g_andV ?_)
  | (with_reducible refine Lw.g_orV ?_)
  | (with_reducible refine Lw.g_notV ?_)
  | (with_reducible refine Lw.g_notN ?_)
  | (with_reducible refine L2.iteT ?_)
  | (with_reducible refine L2.iteF ?_)
  | (with_reducible refine Lw.g_int1 ?_)
  | (with_reducible refine Lw.g_int1b ?_)
  | (with_reducible refine Lw.g_sub ?_)
  | (with_reducible refine Lw.g_forR ?_)
  | (with_reducible refine Lw.g_for ?_)
  | (with_reducible refine Lw.g_lc ?_)
  | (with_reducible refine Lw.g_iStr ?_)
  | (with_reducible refine Lw.g_ritS ?_)
  | (with_reducible refine Lw.g_tyS ?_)
  | (with_reducible refine Lw.g_iList ?_)
  | (with_reducible refine Lw.g_iTup ?_)
  | (with_reducible refine Lw.g_iRng ?_)
  | (with_reducible refine Lw.g_inSg ?_)
  | (with_reducible refine Lw.g_notInSg ?_)
  | (with_reducible refine Lw.g_ord ?_)
  | (with_reducible refine Lw.g_reprB ?_)
  | (with_reducible refine Lw.g_sfld ?_)
  | (with_reducible refine Lw.g_meth ?_)
  | (with_reducible refine Lw.g_make ?_)
  | (with_reducible refine Lw.g_dget ?_)
  | (with_reducible refine Lw.g_din ?_)
  | (with_reducible refine Lw.g_dnotin ?_)
  | (with_reducible refine Lw.g_dput ?_)
  | (with_reducible refine Lw.g_ddel ?_)
  | (with_reducible refine Lw.g_dpop1 ?_)
  | (with_reducible refine Lw.g_dget1 ?_)
  | (with_reducible refine Lw.g_iKeys ?_)
  | (with_reducible refine Lw.g_fldaug ?_)
  | ((with_reducible refine' Lw.g_lenL ?h1 ?k1); (case h1 => walk_at "lw sq"))
  | ((with_reducible refine' Lw.g_lenD ?h1 ?k1); (case h1 => walk_at "lw hp")))
local macro_rules | `(tactic| walk_at "lw") => `(tactic| repeat walk_at "lw go")
local macro_rules | `(tactic| walk_at "lw hp") => `(tactic| first | assumption | exact L2.upd_same | exact L2.Same.at (by assumption) (by walk_at "lw hp") | (refine Eq.trans (L2.upd_ne (by walk_at "lw ne")) ?_; walk_at "lw hp"))
local macro_rules | `(tactic| walk_at "lw go") => `(tactic| first
  | ((with_reducible refine Lw.g_kinT (b := true) (by decide) rfl rfl (by decide +kernel) ?_); intro _ _)
  | ((with_reducible refine Lw.g_kinT (b := false) (by decide) rfl rfl (by decide +kernel) ?_); intro _ _)
  | ((with_reducible refine Lw.g_kninT (b := true) (by decide) rfl rfl (by decide +kernel) ?_); intro _ _)
  | ((with_reducible refine Lw.g_kninT (b := false) (by decide) rfl rfl (by decide +kernel) ?_); intro _ _)
  | ((with_reducible refine Lw.g_kinL (b := true) (by decide) rfl rfl (by decide +kernel) ?_); intro _ _)
  | ((with_reducible refine Lw.g_kinL (b := false) (by decide) rfl rfl (by decide +kernel) ?_); intro _ _)
  | ((with_reducible refine Lw.g_kninL (b := true) (by decide) rfl rfl (by decide +kernel) ?_); intro _ _)
  | ((with_reducible refine Lw.g_kninL (b := false) (by decide) rfl rfl (by decide +kernel) ?_); intro _ _)
  | (with_reducible refine Lw.g_pairs1 ?_)
  | (with_reducible refine Lw.g_pairs0 ?_)
  | (with_reducible refine Lw.g_gcons ?_)
  | (with_reducible refine Lw.g_gnil ?_)
  | (with_reducible refine Lw.ifT (by decide +kernel) ?_)
  | (with_reducible refine Lw.ifF (by decide +kernel) ?_))
local macro_rules | `(tactic| walk_at "lw same") => `(tactic| first | assumption | exact L2.Same.refl _ | (refine L2.Same.trans ?_ (by assumption); walk_at "lw same"))
local macro_rules | `(tactic| walk_at "lw go") => `(tactic| first
  | ((with_reducible refine' Lw.g_rfld (f := "layers") ?h1 ?h2 ?h3 Lw.f_Pusher_layers ?k1); (case h1 => walk_at "lw hp"); (case h2 => exact Lw.Txt.cl_Pusher (by assumption)); (case h3 => exact Lw.Txt.na_Pusher_layers (by assumption)))
  | ((with_reducible refine' Lw.g_rfld (f := "name") ?h1 ?h2 ?h3 Lw.f_Pusher_name ?k1); (case h1 => walk_at "lw hp"); (case h2 => exact Lw.Txt.cl_Pusher (by assumption)); (case h3 => exact Lw.Txt.na_Pusher_name (by assumption)))
  | ((with_reducible refine' Lw.g_rfld (f := "platform") ?h1 ?h2 ?h3 Lw.f_Pusher_platform ?k1); (case h1 => walk_at "lw hp"); (case h2 => exact Lw.Txt.cl_Pusher (by assumption)); (case h3 => exact Lw.Txt.na_Pusher_platform (by assumption)))
  | ((with_reducible refine' Lw.g_rfld (f := "number") ?h1 ?h2 ?h3 Lw.f_Pusher_number ?k1); (case h1 => walk_at "lw hp"); (case h2 => exact Lw.Txt.cl_Pusher (by assumption)); (case h3 => exact Lw.Txt.na_Pusher_number (by assumption)))
  | ((with_reducible refine' Lw.g_rfld (f := "done") ?h1 ?h2 ?h3 Lw.f_Pusher_done ?k1); (case h1 => walk_at "lw hp"); (case h2 => exact Lw.Txt.cl_Pusher (by assumption)); (case h3 => exact Lw.Txt.na_Pusher_done (by assumption)))
  | ((with_reducible refine' Lw.g_rfld (f := "step") ?h1 ?h2 ?h3 Lw.f_Pusher_step ?k1); (case h1 => walk_at "lw hp"); (case h2 => exact Lw.Txt.cl_Pusher (by assumption)); (case h3 => exact Lw.Txt.na_Pusher_step (by assumption)))
  | ((with_reducible refine' Lw.g_rfld (f := "claim") ?h1 ?h2 ?h3 Lw.f_Pusher_claim ?k1); (case h1 => walk_at "lw hp"); (case h2 => exact Lw.Txt.cl_Pusher (by assumption)); (case h3 => exact Lw.Txt.na_Pusher_claim (by assumption)))
  | ((with_reducible refine' Lw.g_rfld (f := "place") ?h1 ?h2 ?h3 Lw.f_Pusher_place ?k1); (case h1 => walk_at "lw hp"); (case h2 => exact Lw.Txt.cl_Pusher (by assumption)); (case h3 => exact Lw.Txt.na_Pusher_place (by assumption)))
  | ((with_reducible refine' Lw.g_rfld (f := "upload") ?h1 ?h2 ?h3 Lw.f_Pusher_upload ?k1); (case h1 => walk_at "lw hp"); (case h2 => exact Lw.Txt.cl_Pusher (by assumption)); (case h3 => exact Lw.Txt.na_Pusher_upload (by assumption)))
  | ((with_reducible refine' Lw.g_rfld (f := "at") ?h1 ?h2 ?h3 Lw.f_Pusher_at ?k1); (case h1 => walk_at "lw hp"); (case h2 => exact Lw.Txt.cl_Pusher (by assumption)); (case h3 => exact Lw.Txt.na_Pusher_at (by assumption)))
  | ((with_reducible refine' Lw.g_rmeth ?h1 (Lw.f_Pusher_no (by decide +kernel)) ?k1); (case h1 => walk_at "lw hp")))
local macro_rules | `(tactic| walk_at "lw go") => `(tactic| first
  | ((with_reducible refine' Lw.g_md_step ?h1 ?k1); (case h1 => walk_at "lw hp"))
  | ((with_reducible refine' Lw.g_md_claim ?h1 ?k1); (case h1 => walk_at "lw hp"))
  | ((with_reducible refine' Lw.g_md_upload ?h1 ?k1); (case h1 => walk_at "lw hp"))
  | ((with_reducible refine' Lw.g_md_at ?h1 ?k1); (case h1 => walk_at "lw hp"))
  | ((with_reducible refine' Lw.g_md_place ?h1 ?k1); (case h1 => walk_at "lw hp")))

namespace Lw
open PySem L2
open PyProof.Rows (envOfC)
structure ModAt (c : Addr → Nat) (H : Hp) (d : Addr) (m : M) : Prop where
  cd : c d = 2
  hd : H d = some (.dK (mkS keys5 (mv m)))
theorem ModAt.frame {I : Nat → Prop} {c c' : Addr → Nat} {H H' : Hp} {d : Addr} {m : M} (h : ModAt c H d m) (s : Stp I c c' H H') (hi : ¬ I 2) : ModAt c' H' d m :=
  ⟨by rw [s.col _ _ h.hd, h.cd], s.keep _ _ h.hd (by rw [h.cd]; exact hi)⟩
theorem ModAt.same {c : Addr → Nat} {H H' : Hp} {d : Addr} {m : M} (h : ModAt c H d m) (s : Same H H') : ModAt c H' d m := h.frame (Stp.same (I := fun _ => False) s) (fun z => z)
/-- the texts that a push puts -/
def BL (g : G) : List (Str × List Nat) := g.ls.map (fun t => (("layer" : Str), t)) ++ [(("image" : Str), g.img)] ++ (match g.pf with | none => [] | some q => [(("bundle" : Str), g.bun q)])
/-- a list of pairs at b -/
def PairsAt (H : Hp) (b : Addr) (es : List (Str × List Nat)) : Prop := ∃ ts : List (Addr × Str × List Nat), ts.map (·.2) = es ∧ H b = some (.lst (ts.map fun e => V.ref e.1)) ∧ ∀ e ∈ ts, H e.1 = some (.tup [.str e.2.1, strS e.2.2])
theorem pairs_of {H : Hp} {kd : Str} : ∀ {ls : List (List Nat)} {ys : List V}, ys.length = ls.length → (∀ (i : Nat) (x y : V), (ls.map strS)[i]? = some x → ys[i]? = some y → ∃ t, y = V.ref t ∧ H t = some (.tup [.str kd, x])) →
    ∃ ts : List (Addr × Str × List Nat), ts.map (·.2) = ls.map (fun t => (kd, t)) ∧ ys = ts.map (fun e => V.ref e.1) ∧ ∀ e ∈ ts, H e.1 = some (.tup [.str e.2.1, strS e.2.2])
  | [], [], _, _ => ⟨[], rfl, rfl, fun e he => nomatch he⟩
  | [], _ :: _, h, _ => by cases h
  | _ :: _, [], h, _ => by cases h
  | a :: ls, y :: ys, h, hr => by
    obtain ⟨t, rfl, ht⟩ := hr 0 (strS a) y rfl rfl
    obtain ⟨ts, e1, e2, e3⟩ := pairs_of (ls := ls) (ys := ys) (by simpa using h) fun i x y hx hy => hr (i + 1) x y (by simpa using hx) (by simpa using hy)
    refine ⟨(t, kd, a) :: ts, by rw [List.map_cons, List.map_cons, e1], by rw [List.map_cons, e2], fun e he => ?_⟩
    rcases List.mem_cons.mp he with z | z
    · rw [z]; exact ht
    · exact e3 e z
def spBlobs (C : Addr) : Sp := fun vs H Q _ => ∃ (c : Addr → Nat) (p : Addr) (g : G) (n : Int) (dn : Bool) (st : Str) (cl pl up a : Int), vs = [.ref p] ∧ PAt C c H p g n dn st cl pl up a ∧ g.Ok ∧ ∀ b H', Same H H' → PairsAt H' b (BL g) → Q (.ref b) H'
def spLL (C : Addr) : Sp := fun vs H Q _ => ∃ (c : Addr → Nat) (p d : Addr) (g : G) (m : M) (n : Int) (dn : Bool) (st : Str) (cl pl up a : Int), vs = [.ref p, .ref d] ∧ PAt C c H p g n dn st cl pl up a ∧ ModAt c H d m ∧ WF g m ∧ m.step.lay = true ∧ Q (.str (adrS g m)) H
def spPl (C : Addr) : Sp := fun vs H Q _ => ∃ (c : Addr → Nat) (p : Addr) (g : G) (n : Int) (dn : Bool) (st : Str) (cl pl up a i : Int), vs = [.ref p, .int i] ∧ PAt C c H p g n dn st cl pl up a ∧ ∀ t H', Same H H' → H' t = some (.tup [.str (goS g i), .int i]) → Q (.ref t) H'
section
variable {P : Program} {w : World} {K : PySem.W.Frag} {mg : Str → Option Value} {base : Heap} {C_Pusher a_KINDS : Addr}
theorem ok__law_layer (T : Txt w K mg C_Pusher a_KINDS) : Cal P w K mg base 2 "_law_layer" (spLL C_Pusher) := by
  have c_address_of : Cal P w K mg base 1 "address_of" spAddr := ok_address_of T
  refine cal_mk T.d__law_layer sc__law_layer (fun vs H Q E h => ?_) (fun f cdv A outer s H vs Q E hr h => ?_)
  · obtain ⟨c, p, d, g, m, n, dn, st, cl, pl, up, a, rfl, _⟩ := h
    rfl
  · obtain ⟨c, p, d, g, m, n, dn, st, cl, pl, up, a, rfl, W, D, wf, hlay, k⟩ := h
    obtain ⟨dx, l, h1, h2, h3, h4⟩ := W.ex
    have hd := D.hd
    have hu := hu_of hr
    refine ⟨_, (pss_one (ps_ret (pe_c c_address_of hr (by decide) rfl (pa_cons (pe_str) (pa_cons (pe_ix ix_list (pe_fld (pv 0) rfl) (pe_dget hu (pv 1) (pe_str) (fun _ _ => rfl)) (fun _ _ => rfl)) pa_nil))))), ?_⟩
    walk_at "lw"
    refine g_rix (SqL.of h4) (atI_map (lay_at (wf.lay hlay))) ?_
    walk_at "lw"
    refine ⟨"layer", layT g m, rfl, lay_kind, ?_⟩
    walk_at "lw"
    exact k
theorem ok__law_place (T : Txt w K mg C_Pusher a_KINDS) : Cal P w K mg base 1 "_law_place" (spPl C_Pusher) := by
  refine cal_mk T.d__law_place sc__law_place (fun vs H Q E h => ?_) (fun f cdv A outer s H vs Q E hr h => ?_)
  · obtain ⟨c, p, g, n, dn, st, cl, pl, up, a, i, rfl, _⟩ := h
    rfl
  · obtain ⟨c, p, g, n, dn, st, cl, pl, up, a, i, rfl, W, k⟩ := h
    obtain ⟨dx, l, h1, h2, h3, h4⟩ := W.ex
    refine ⟨_, (pss_cons (ps_if (pt_cmpR op_lt (pv 1) (pe_callB call_len_seq' (by rfl) T.n_len (by decide +kernel) (pa_cons (pe_fld (pv 0) rfl) pa_nil)) (nomark _)) (pss_one (ps_ret (pe_tup (pa_cons (pe_str) (pa_cons (pv 1) pa_nil))))) pss_nil)
      (pss_one (ps_ret (pe_tup (pa_cons (pe_str) (pa_cons (pv 1) pa_nil)))))), ?_⟩
    walk_at "lw"
    rw [List.length_map]
    refine if2 (fun h => ?_) (fun h => ?_)
    · walk_at "lw"
      refine g_ktup (by show 2 ≤ 100; decide) fun t H2 nt s2 ht => k t H2 s2 ?_
      unfold goS
      rw [if_pos h]
      exact ht
    · walk_at "lw"
      refine g_ktup (by show 2 ≤ 100; decide) fun t H2 nt s2 ht => k t H2 s2 ?_
      unfold goS
      rw [if_neg h]
      exact ht
theorem ok__law_blobs (T : Txt w K mg C_Pusher a_KINDS) : Cal P w K mg base 2 "_law_blobs" (spBlobs C_Pusher) := by
  have c_address_of : Cal P w K mg base 1 "address_of" spAddr := ok_address_of T
  have c_image_text : Cal P w K mg base 1 "image_text" spImg := ok_image_text T
  have c_bundle_text : Cal P w K mg base 1 "bundle_text" spBun := ok_bundle_text T
  refine cal_mk T.d__law_blobs sc__law_blobs (fun vs H Q E h => ?_) (fun f cdv A outer s H vs Q E hr h => ?_)
  · obtain ⟨c, p, g, n, dn, st, cl, pl, up, a, rfl, _⟩ := h
    rfl
  · obtain ⟨c, p, g, n, dn, st, cl, pl, up, a, rfl, W, ok, k⟩ := h
    obtain ⟨dx, l, h1, h2, h3, h4⟩ := W.ex
    refine ⟨_, (pss_cons (ps_set (i := 1) sc__law_blobs.nd rfl (by first | exact Or.inl rfl | exact Or.inr rfl) (pe_c c_image_text hr (by decide) rfl (pa_cons (pe_lc (own := [("_law_text_here", 3)]) (g := (gName 3)) (by rfl) sc__law_blobs.nd (pi_list (pe_fld (pv 0) rfl)) (blkOk_by (own := [("_law_text_here", 3)]) (N := n__law_blobs) (sc := defScope s__law_blobs) (by decide +kernel)) (fun _ _ _ _ _ => (pg_name (i := 3) sc__law_blobs.nd rfl (by first | exact Or.inl rfl | exact Or.inr rfl))) (fun _ _ _ _ _ => pts_nil) (fun _ _ _ _ _ => (pe_c c_address_of hr (by decide) rfl (pa_cons (pe_str) (pa_cons (pv 3) pa_nil))))) pa_nil)))
      (pss_cons (ps_set (i := 2) sc__law_blobs.nd rfl (by first | exact Or.inl rfl | exact Or.inr rfl) (pe_op op_cat (pe_lc (own := [("_law_text_here", 3)]) (g := (gName 3)) (by rfl) sc__law_blobs.nd (pi_list (pe_fld (pv 0) rfl)) (blkOk_by (own := [("_law_text_here", 3)]) (N := n__law_blobs) (sc := defScope s__law_blobs) (by decide +kernel)) (fun _ _ _ _ _ => (pg_name (i := 3) sc__law_blobs.nd rfl (by first | exact Or.inl rfl | exact Or.inr rfl))) (fun _ _ _ _ _ => pts_nil) (fun _ _ _ _ _ => (pe_tup (pa_cons (pe_str) (pa_cons (pv 3) pa_nil))))) (pe_lst (pa_cons (pe_tup (pa_cons (pe_str) (pa_cons (pv 1) pa_nil))) pa_nil))))
      (pss_cons (ps_if (pt_cmpR op_notN' (pe_fld (pv 0) rfl) (pe_non) (nomark _)) (pss_one (ps_expr (pe_bm PySem.F.plainAttrs_list PySem.F.slot_list_append PySem.F.type_list_append mt_append (pv 2) (pa_cons (pe_tup (pa_cons (pe_str) (pa_cons (pe_c c_bundle_text hr (by decide) rfl (pa_cons (pe_lst (pa_cons (pe_tup (pa_cons (pe_fld (pv 0) rfl) (pa_cons (pe_c c_address_of hr (by decide) rfl (pa_cons (pe_str) (pa_cons (pv 1) pa_nil))) pa_nil))) pa_nil)) pa_nil)) pa_nil))) pa_nil)))) pss_nil)
      (pss_one (ps_ret (pv 2)))))), ?_⟩
    walk_at "lw"
    refine g_ritL (SqL.of h4) ?_
    refine lc_map (G := fun H' => SqL K H' l (g.ls.map strS)) walk_list (fun H' s => SqL.of (s _ _ h4)) (by rw [List.length_map]; have := ok.l1; omega) (fun _ => true) (fun v => match v with | .str x => strS (adrL "layer" x.cps.toList) | _ => v) ?_ ?_
    · intro x hx H' R s1 kk
      obtain ⟨t, _, rfl⟩ := List.mem_map.mp hx
      walk_at "lw"
      refine kk _ rfl (fun H'' R s2 r => ?_) (fun hp' H'' R s2 r => ?_)
      · walk_at "lw"
        exact r
      · walk_at "lw"
        exact ⟨"layer", t, rfl, lay_kind, r _ (Same.refl _)⟩
    · intro q H1 nq s1 hq
      rw [List.filter_eq_self.mpr (fun _ _ => rfl), List.map_map] at hq
      have e : g.ls.map ((fun v => match v with | .str x => strS (adrL "layer" x.cps.toList) | _ => v) ∘ strS) = g.las.map strS := by
        unfold G.las
        rw [List.map_map]
        rfl
      rw [e] at hq
      walk_at "lw"
      refine ⟨q, g.las, rfl, hq, by unfold G.las; rw [List.length_map]; have := ok.l1; omega, g.las_len, fun H2 s2 => ?_⟩
      have s12 := s1.trans s2
      walk_at "lw"
      refine g_ritL (SqL.of (s12.at h4)) ?_
      refine lc_new (G := fun H' => SqL K H' l (g.ls.map strS)) (fun x y H => ∃ t, y = V.ref t ∧ H t = some (.tup [.str "layer", x])) (fun x y H1 H2 h ⟨t, e1, e2⟩ => ⟨t, e1, h _ _ e2⟩) walk_list (fun H' s => SqL.of (s _ _ (s12.at h4))) (by rw [List.length_map]; have := ok.l1; omega) ?_ ?_
      · intro x hx H' R s3 kk
        obtain ⟨t, _, rfl⟩ := List.mem_map.mp hx
        walk_at "lw"
        refine kk _ rfl fun H'' R' s4 r => ?_
        walk_at "lw"
        exact g_ktup (by show 2 ≤ 100; decide) fun u H5 nu s5 hu => r _ _ s5 ⟨u, rfl, hu⟩
      · intro q3 ys H3 nq3 s3 hys hR hq3
        rw [List.length_map] at hys
        obtain ⟨ts, t1, rfl, t3⟩ := pairs_of hys hR
        walk_at "lw"
        refine g_ktup (by show 2 ≤ 100; decide) fun im H4 nim s4 him => ?_
        walk_at "lw"
        refine g_klst (by show 1 ≤ 100; decide) fun q5 H5 nq5 s5 hq5 => ?_
        have hlen : ts.length ≤ 3 := by
          have := congrArg List.length t1
          rw [List.length_map, List.length_map] at this
          have := ok.l1
          omega
        refine g_cat ((s4.trans s5).at hq3) hq5 (by rw [List.length_map]; show _ + 1 ≤ _; omega) fun q6 H6 nq6 s6 hq6 => ?_
        have s36 : Same H3 H6 := (s4.trans s5).trans s6
        have s06 : Same H H6 := (s12.trans s3).trans s36
        have t6 : ∀ e ∈ ts ++ [(im, ("image" : Str), g.img)], H6 e.1 = some (.tup [.str e.2.1, strS e.2.2]) := fun e he => by
          rcases List.mem_append.mp he with z | z
          · exact s36 _ _ (t3 e z)
          · rw [List.mem_singleton.mp z]
            exact (s5.trans s6) _ _ him
        have hq6 : H6 q6 = some (.lst ((ts ++ [(im, ("image" : Str), g.img)]).map fun e => V.ref e.1)) := by rw [hq6, List.map_append]; rfl
        have n6 : H q6 = none := ((s12.trans s3).trans (s4.trans s5)).free nq6
        generalize hts : ts ++ [(im, ("image" : Str), g.img)] = us at t6 hq6
        have hus : us.map (·.2) = g.ls.map (fun t => (("layer" : Str), t)) ++ [(("image" : Str), g.img)] := by rw [← hts, List.map_append, t1]; rfl
        have hul : us.length ≤ 4 := by rw [← hts, List.length_append]; show _ + 1 ≤ _; omega
        walk_at "lw"
        cases hq : g.pf with
        | none =>
          refine ifF (b := !decide (plV none = V.non)) (by show (!decide (V.non = V.non)) = false; rw [decide_eq_true rfl]; rfl) ?_
          walk_at "lw"
          refine k q6 H6 s06 ⟨us, ?_, hq6, t6⟩
          rw [hus]
          unfold BL
          rw [hq, List.append_nil]
        | some pq =>
          have hpq := ok.pf pq hq
          refine ifT (b := !decide (plV (some pq) = V.non)) (by rw [decide_eq_false fun z => by cases z]; rfl) ?_
          walk_at "lw"
          refine g_tyL hq6 ?_
          walk_at "lw"
          rw [hq]
          refine ⟨"image", g.img, rfl, img_kind, ?_⟩
          walk_at "lw"
          refine g_ktup (by show 2 ≤ 100; decide) fun t7 H7 nt7 s7 ht7 => ?_
          walk_at "lw"
          refine g_klst (by show 1 ≤ 100; decide) fun q8 H8 nq8 s8 hq8 => ?_
          walk_at "lw"
          refine ⟨q8, [(t7, pq, g.ia)], rfl, hq8, fun e he => ?_, (by show 1 ≤ 100; decide), fun e he => ?_, fun H9 s9 => ?_⟩
          · rw [List.mem_singleton.mp he]
            exact s8 _ _ ht7
          · rw [List.mem_singleton.mp he]
            show pq.length + g.ia.length ≤ 1000
            unfold G.ia
            rw [adrL_len]
            omega
          · walk_at "lw"
            refine g_ktup (by show 2 ≤ 100; decide) fun tb HA ntb sA htb => ?_
            have s6A : Same H6 HA := ((s7.trans s8).trans s9).trans sA
            walk_at "lw"
            refine g_append (s6A.at hq6) (by rw [List.length_map]; omega) fun HB hB kB => ?_
            walk_at "lw"
            have tup : ∀ b zs, HA b = some (.tup zs) → HB b = some (.tup zs) := fun b zs e => by
              rw [kB b (ne_of e (s6A.at hq6) (by intro z; cases z))]; exact e
            refine k q6 HB (fun b o e => by rw [kB b (ne_of_none e n6)]; exact s6A _ _ (s06 _ _ e)) ⟨us ++ [(tb, ("bundle" : Str), g.bun pq)], ?_, ?_, fun e he => ?_⟩
            · rw [List.map_append, hus]
              unfold BL
              rw [hq]
              rfl
            · rw [hB, List.map_append]
              rfl
            · rcases List.mem_append.mp he with z | z
              · exact tup _ _ (s6A _ _ (t6 e z))
              · rw [List.mem_singleton.mp z]
                exact tup _ _ htb
end
end Lw

namespace Lw
open PySem L2
open PyProof.Rows (envOfC)
def spTgt (C : Addr) : Sp := fun vs H Q _ => ∃ (c : Addr → Nat) (p : Addr) (g : G) (n : Int) (dn : Bool) (st : Str) (cl pl up a : Int), vs = [.ref p] ∧ PAt C c H p g n dn st cl pl up a ∧ g.Ok ∧ ∀ H', Same H H' → Q (.str (SX.S g.tgt)) H'
def spLReq (C : Addr) : Sp := fun vs H Q _ => ∃ (c : Addr → Nat) (p d : Addr) (g : G) (m : M) (n : Int) (dn : Bool) (st : Str) (cl pl up a : Int), vs = [.ref p, .ref d] ∧ PAt C c H p g n dn st cl pl up a ∧ ModAt c H d m ∧ g.Ok ∧ WF g m ∧ m.step ≠ .don ∧
  ∀ t H', Same H H' → H' t = some (.tup ((rq g m).map kV)) → Q (.ref t) H'
/-- what the law says a reply does: its step and place, and the model's other fields -/
def LwQ (c : Addr → Nat) (H : Hp) (d : Addr) (m : M) (o : Option M) (Q : VK) : Prop := match o with
  | none => ∀ t H', ModAt c H' d m → Stp (fun i => i = 2) c c H H' → H' t = some (.tup [.str "", .int 0]) → Q (.ref t) H'
  | some m' => ∀ t H', ModAt c H' d { m with cl := m'.cl, up := m'.up, a := m'.a } → Stp (fun i => i = 2) c c H H' → H' t = some (.tup [.str m'.step.s, .int m'.pl]) → Q (.ref t) H'
def spLw (C : Addr) (f : G → M → Rp → Option M) (cond : M → Prop) : Sp := fun vs H Q _ => ∃ (c : Addr → Nat) (p d t : Addr) (g : G) (m : M) (r : Rp) (n : Int) (dn : Bool) (st : Str) (cl pl up a : Int), vs = [.ref p, .ref d, .ref t] ∧ PAt C c H p g n dn st cl pl up a ∧ ModAt c H d m ∧ g.Ok ∧ WF g m ∧
  H t = some (.tup (r.b.map kV)) ∧ OkB r.b ∧ cond m ∧ LwQ c H d m (f g m r) Q
theorem lw_none {c : Addr → Nat} {H : Hp} {d : Addr} {m : M} {o : Option M} {Q : VK} (e : o = none) (D : ModAt c H d m) (k : LwQ c H d m o Q) : ∀ t H', Same H H' → H' t = some (.tup [.str "", .int 0]) → Q (.ref t) H' := by
  subst e
  exact fun t H' s ht => k t H' (D.same s) (Stp.same s) ht
/-- .. the model's fields as they were -/
theorem lw_same {c : Addr → Nat} {H : Hp} {d : Addr} {m m' : M} {o : Option M} {Q : VK} (e : o = some m') (e1 : m'.cl = m.cl) (e2 : m'.up = m.up) (e3 : m'.a = m.a) (D : ModAt c H d m) (k : LwQ c H d m o Q) : ∀ t H', Same H H' → H' t = some (.tup [.str m'.step.s, .int m'.pl]) → Q (.ref t) H' := by
  subst e
  intro t H' s ht
  refine k t H' ?_ (Stp.same s) ht
  rw [e1, e2, e3]
  exact D.same s
theorem goL_s {g : G} {i : Int} {m : M} : (goL g i m).step.s = goS g i := by
  unfold goL goS
  dsimp only
  split <;> rfl
theorem lw_goL {c : Addr → Nat} {H : Hp} {d : Addr} {g : G} {m : M} {i : Int} {o : Option M} {Q : VK} (e : o = some (goL g i m)) (D : ModAt c H d m) (k : LwQ c H d m o Q) : ∀ t H', Same H H' → H' t = some (.tup [.str (goS g i), .int i]) → Q (.ref t) H' := fun t H' s ht => by
  refine lw_same (m := m) e rfl rfl rfl D k t H' s ?_
  rw [goL_s]
  exact ht
theorem BL_len (g : G) : 0 < (BL g).length := by
  unfold BL
  rw [List.length_append, List.length_append]
  show 0 < _ + 1 + _
  omega
theorem BL_last (g : G) : (BL g)[(BL g).length - 1]? = some (match g.pf with | none => ("image", g.img) | some q => ("bundle", g.bun q)) := by
  unfold BL
  cases g.pf with
  | none => simp
  | some q => simp
theorem pairs_at {H : Hp} {b : Addr} {es : List (Str × List Nat)} (h : PairsAt H b es) {i : Nat} {e : Str × List Nat} (he : es[i]? = some e) : ∃ (xs : List V) (t : Addr), H b = some (.lst xs) ∧ xs.length = es.length ∧ xs[i]? = some (.ref t) ∧ H t = some (.tup [.str e.1, strS e.2]) := by
  obtain ⟨ts, h1, h2, h3⟩ := h
  subst h1
  rw [List.getElem?_map] at he
  cases q : ts[i]? with
  | none => rw [q] at he; cases he
  | some z =>
    rw [q] at he
    cases he
    exact ⟨_, z.1, h2, by rw [List.length_map, List.length_map], by rw [List.getElem?_map, q]; rfl, h3 z (List.mem_of_getElem? q)⟩
def pP (H : Hp) (st : Str) : V → Bool
  | .ref a => (match H a with | some (.tup (.str k :: _)) => decide (k = st) | _ => false)
  | _ => false
def pF (H : Hp) : V → V
  | .ref a => (match H a with | some (.tup [_, y]) => y | _ => .non)
  | _ => .non
theorem pP_at {H : Hp} {st k : Str} {t : Addr} {y : List V} (h : H t = some (.tup (.str k :: y))) : pP H st (.ref t) = decide (k = st) := by
  show (match H t with | some (.tup (.str k :: _)) => decide (k = st) | _ => false) = _
  rw [h]
theorem pF_at {H : Hp} {x y : V} {t : Addr} (h : H t = some (.tup [x, y])) : pF H (.ref t) = y := by
  show (match H t with | some (.tup [_, y]) => y | _ => .non) = _
  rw [h]
theorem pick_list {H : Hp} {st : Str} : ∀ {ts : List (Addr × Str × List Nat)}, (∀ e ∈ ts, H e.1 = some (.tup [.str e.2.1, strS e.2.2])) →
    ((ts.map fun e => V.ref e.1).filter (pP H st)).map (pF H) = ((ts.map (·.2)).filter fun e => decide (e.1 = st)).map fun e => strS e.2
  | [], _ => rfl
  | e :: ts, h => by
    have ih := pick_list (st := st) fun z hz => h z (List.mem_cons_of_mem e hz)
    have he := h e List.mem_cons_self
    rw [List.map_cons, List.map_cons, List.filter_cons, List.filter_cons, pP_at he]
    by_cases hs : e.2.1 = st
    · rw [if_pos (decide_eq_true hs), if_pos (decide_eq_true hs), List.map_cons, List.map_cons, ih, pF_at he]
    · rw [if_neg (by simpa using hs), if_neg (by simpa using hs), ih]
theorem BL_img (g : G) : (BL g).filter (fun e => decide (e.1 = ("image" : Str))) = [(("image" : Str), g.img)] := by
  have h1 : ∀ ls : List (List Nat), (ls.map fun t => (("layer" : Str), t)).filter (fun e => decide (e.1 = ("image" : Str))) = [] := fun ls =>
    List.filter_eq_nil_iff.mpr fun e he => by
      obtain ⟨t, _, rfl⟩ := List.mem_map.mp he
      show ¬ decide (("layer" : Str) = "image") = true
      decide +kernel
  unfold BL
  rw [List.filter_append, List.filter_append, h1]
  have e1 : [(("image" : Str), g.img)].filter (fun e => decide (e.1 = ("image" : Str))) = [(("image" : Str), g.img)] := by
    rw [List.filter_cons_of_pos (by show decide (("image" : Str) = "image") = true; decide +kernel)]
    rfl
  rw [e1]
  cases g.pf with
  | none => rfl
  | some q =>
    show [] ++ [(("image" : Str), g.img)] ++ [(("bundle" : Str), g.bun q)].filter (fun e => decide (e.1 = ("image" : Str))) = _
    rw [List.filter_cons_of_neg (by show ¬ decide (("bundle" : Str) = "image") = true; decide +kernel)]
    rfl
theorem BL_bun {g : G} {q : List Nat} (hq : g.pf = some q) : (BL g).filter (fun e => decide (e.1 = ("bundle" : Str))) = [(("bundle" : Str), g.bun q)] := by
  have h1 : ∀ ls : List (List Nat), (ls.map fun t => (("layer" : Str), t)).filter (fun e => decide (e.1 = ("bundle" : Str))) = [] := fun ls =>
    List.filter_eq_nil_iff.mpr fun e he => by
      obtain ⟨t, _, rfl⟩ := List.mem_map.mp he
      show ¬ decide (("layer" : Str) = "bundle") = true
      decide +kernel
  unfold BL
  rw [List.filter_append, List.filter_append, h1, hq]
  show [] ++ [(("image" : Str), g.img)].filter (fun e => decide (e.1 = ("bundle" : Str))) ++ [(("bundle" : Str), g.bun q)].filter (fun e => decide (e.1 = ("bundle" : Str))) = _
  rw [List.filter_cons_of_neg (by show ¬ decide (("image" : Str) = "bundle") = true; decide +kernel), List.filter_cons_of_pos (by show decide (("bundle" : Str) = "bundle") = true; decide +kernel)]
  rfl
/-- the text of the blob of a step's kind -/
def blobT (g : G) (s : St9) : List Nat := if s = .img then g.img else g.bun (g.pf.getD [])
theorem BL_pick {g : G} {s : St9} (h : s = .img ∨ (s = .bun ∧ g.pf.isSome = true)) : ((BL g).filter fun e => decide (e.1 = s.s)).map (fun e => strS e.2) = [strS (blobT g s)] := by
  rcases h with rfl | ⟨rfl, h⟩
  · show ((BL g).filter fun e => decide (e.1 = ("image" : Str))).map (fun e => strS e.2) = _
    rw [BL_img]
    rfl
  · obtain ⟨q, hq⟩ := Option.isSome_iff_exists.mp h
    show ((BL g).filter fun e => decide (e.1 = ("bundle" : Str))).map (fun e => strS e.2) = _
    rw [BL_bun hq]
    unfold blobT
    rw [if_neg (by decide), hq]
    rfl
section
variable {P : Program} {w : World} {K : PySem.W.Frag} {mg : Str → Option Value} {base : Heap} {C_Pusher a_KINDS : Addr}
theorem ok__law_target (T : Txt w K mg C_Pusher a_KINDS) : Cal P w K mg base 3 "_law_target" (spTgt C_Pusher) := by
  have c_address_of : Cal P w K mg base 1 "address_of" spAddr := ok_address_of T
  have c__law_blobs : Cal P w K mg base 2 "_law_blobs" (spBlobs C_Pusher) := ok__law_blobs T
  refine cal_mk T.d__law_target sc__law_target (fun vs H Q E h => ?_) (fun f cdv A outer s H vs Q E hr h => ?_)
  · obtain ⟨c, p, g, n, dn, st, cl, pl, up, a, rfl, _⟩ := h
    rfl
  · obtain ⟨c, p, g, n, dn, st, cl, pl, up, a, rfl, W, ok, k⟩ := h
    refine ⟨_, (pss_cons (ps_set (i := 1) sc__law_target.nd rfl (by first | exact Or.inl rfl | exact Or.inr rfl) (pe_c c__law_blobs hr (by decide) rfl (pa_cons (pv 0) pa_nil)))
      (pss_one (ps_ret (pe_c c_address_of hr (by decide) rfl (pa_cons (pe_ix ix_tup (pe_ix ix_list (pv 1) (pe_op op_sub (pe_callB call_len_seq' (by rfl) T.n_len (by decide +kernel) (pa_cons (pv 1) pa_nil)) (pe_int)) (fun _ _ => rfl)) (pe_int) (fun _ _ => rfl)) (pa_cons (pe_ix ix_tup (pe_ix ix_list (pv 1) (pe_op op_sub (pe_callB call_len_seq' (by rfl) T.n_len (by decide +kernel) (pa_cons (pv 1) pa_nil)) (pe_int)) (fun _ _ => rfl)) (pe_int) (fun _ _ => rfl)) pa_nil)))))), ?_⟩
    walk_at "lw"
    refine ⟨c, p, g, n, dn, st, cl, pl, up, a, rfl, W, ok, fun b H1 s1 hb => ?_⟩
    obtain ⟨xs, t, x1, x2, x3, x4⟩ := pairs_at hb (BL_last g)
    have hat : atI xs ((xs.length : Int) - 1) = some (.ref t) := by
      have := atI_nat (xs := xs) (j := (BL g).length - 1) x3
      have hp := BL_len g
      rw [show (((BL g).length - 1 : Nat) : Int) = (xs.length : Int) - 1 by omega] at this
      exact this
    walk_at "lw"
    refine g_rix (SqL.of x1) hat ?_
    walk_at "lw"
    refine g_rixT (SqT.of x4) (v := .str _) rfl ?_
    walk_at "lw"
    refine g_rix (SqL.of x1) hat ?_
    walk_at "lw"
    refine g_rixT (SqT.of x4) (v := strS _) rfl ?_
    walk_at "lw"
    cases hq : g.pf with
    | none =>
      refine ⟨"image", g.img, rfl, img_kind, ?_⟩
      have e : g.tgt = adrL "image" g.img := by unfold G.tgt; rw [hq]; rfl
      rw [e] at k
      exact k H1 s1
    | some q =>
      refine ⟨"bundle", g.bun q, rfl, bun_kind, ?_⟩
      have e : g.tgt = adrL "bundle" (g.bun q) := by unfold G.tgt; rw [hq]
      rw [e] at k
      exact k H1 s1
end
end Lw

namespace Lw
open PySem L2
open PyProof.Rows (envOfC)
section
variable {P : Program} {w : World} {K : PySem.W.Frag} {mg : Str → Option Value} {base : Heap} {C_Pusher a_KINDS : Addr}
theorem ok__law_request (T : Txt w K mg C_Pusher a_KINDS) : Cal P w K mg base 4 "_law_request" (spLReq C_Pusher) := by
  have c__law_layer : Cal P w K mg base 2 "_law_layer" (spLL C_Pusher) := ok__law_layer T
  have c__law_blobs : Cal P w K mg base 2 "_law_blobs" (spBlobs C_Pusher) := ok__law_blobs T
  have c__law_target : Cal P w K mg base 3 "_law_target" (spTgt C_Pusher) := ok__law_target T
  refine cal_mk T.d__law_request sc__law_request (fun vs H Q E h => ?_) (fun f cdv A outer s H vs Q E hr h => ?_)
  · obtain ⟨c, p, d, g, m, n, dn, st, cl, pl, up, a, rfl, _⟩ := h
    rfl
  · obtain ⟨c, p, d, g, m, n, dn, st, cl, pl, up, a, rfl, W, D, ok, wf, hnd, k⟩ := h
    have hu := hu_of hr
    have hd := D.hd
    obtain ⟨dx, l, h1, h2, h3, h4⟩ := W.ex
    have hwl := wf.lay
    refine ⟨_, (pss_cons (ps_set (i := 2) sc__law_request.nd rfl (by first | exact Or.inl rfl | exact Or.inr rfl) (pe_dget hu (pv 1) (pe_str) (fun _ _ => rfl)))
      (pss_cons (ps_set (i := 3) sc__law_request.nd rfl (by first | exact Or.inl rfl | exact Or.inr rfl) (pe_dget hu (pv 1) (pe_str) (fun _ _ => rfl)))
      (pss_cons (ps_if (pt_cmpR op_eq (pv 2) (pe_str) (nomark _)) (pss_one (ps_ret (pe_tup (pa_cons (pe_str) pa_nil)))) pss_nil)
      (pss_cons (ps_if (pt_cmpR op_in_seq (pv 2) (pe_lst (pa_cons (pe_str) (pa_cons (pe_str) pa_nil))) (by rfl)) (pss_one (ps_ret (pe_tup (pa_cons (pv 2) (pa_cons (pv 3) pa_nil))))) pss_nil)
      (pss_cons (ps_if (pt_cmpR op_eq (pv 2) (pe_str) (nomark _)) (pss_one (ps_ret (pe_tup (pa_cons (pe_str) (pa_cons (pv 3) (pa_cons (pe_c c__law_layer hr (by decide) rfl (pa_cons (pv 0) (pa_cons (pv 1) pa_nil))) pa_nil)))))) pss_nil)
      (pss_cons (ps_if (pt_cmpR op_eq (pv 2) (pe_str) (nomark _)) (pss_cons (ps_set (i := 4) sc__law_request.nd rfl (by first | exact Or.inl rfl | exact Or.inr rfl) (pe_ix ix_list (pe_fld (pv 0) rfl) (pe_dget hu (pv 1) (pe_str) (fun _ _ => rfl)) (fun _ _ => rfl)))
      (pss_one (ps_ret (pe_tup (pa_cons (pe_str) (pa_cons (pe_dget hu (pv 1) (pe_str) (fun _ _ => rfl)) (pa_cons (pe_dget hu (pv 1) (pe_str) (fun _ _ => rfl)) (pa_cons (pe_slice C8.sl_txt (pv 4) (po_some (pe_dget hu (pv 1) (pe_str) (fun _ _ => rfl))) (po_some (pe_op op_add (pe_dget hu (pv 1) (pe_str) (fun _ _ => rfl)) (pe_int)))) pa_nil)))))))) pss_nil)
      (pss_cons (ps_if (pt_cmpR op_eq (pv 2) (pe_str) (nomark _)) (pss_one (ps_ret (pe_tup (pa_cons (pe_str) (pa_cons (pe_dget hu (pv 1) (pe_str) (fun _ _ => rfl)) (pa_cons (pv 3) (pa_cons (pe_str) (pa_cons (pe_c c__law_layer hr (by decide) rfl (pa_cons (pv 0) (pa_cons (pv 1) pa_nil))) pa_nil)))))))) pss_nil)
      (pss_cons (ps_set (i := 5) sc__law_request.nd rfl (by first | exact Or.inl rfl | exact Or.inr rfl) (pe_c c__law_blobs hr (by decide) rfl (pa_cons (pv 0) pa_nil)))
      (pss_cons (ps_if (pt_cmpR op_in_seq (pv 2) (pe_lst (pa_cons (pe_str) (pa_cons (pe_str) pa_nil))) (by rfl)) (pss_cons (ps_set (i := 4) sc__law_request.nd rfl (by first | exact Or.inl rfl | exact Or.inr rfl) (pe_ix ix_list (pe_lc (own := [("_law_blob", 6)]) (g := (gName 6)) (by rfl) sc__law_request.nd (pi_list (pv 5)) (blkOk_by (own := [("_law_blob", 6)]) (N := n__law_request) (sc := defScope s__law_request) (by decide +kernel)) (fun _ _ _ _ _ => (pg_name (i := 6) sc__law_request.nd rfl (by first | exact Or.inl rfl | exact Or.inr rfl))) (fun _ _ _ _ _ => (pts_one (pt_cmpR op_eq (pe_ix (ix_tupK K rfl) (pv 6) (pe_int) (fun _ _ => rfl)) (pv 2) (nomark _)))) (fun _ _ _ _ _ => (pe_ix (ix_tupK K rfl) (pv 6) (pe_int) (fun _ _ => rfl)))) (pe_int) (fun _ _ => rfl)))
      (pss_one (ps_ret (pe_tup (pa_cons (pe_str) (pa_cons (pv 3) (pa_cons (pv 2) (pa_cons (pv 4) pa_nil)))))))) pss_nil)
      (pss_one (ps_ret (pe_tup (pa_cons (pe_str) (pa_cons (pv 3) (pa_cons (pe_fld (pv 0) rfl) (pa_cons (pe_c c__law_target hr (by decide) rfl (pa_cons (pv 0) pa_nil)) pa_nil)))))))))))))))), ?_⟩
    walk_at "lw"
    unfold rq at k
    cases hs : m.step
    case don => exact absurd hs hnd
    case opn =>
      rw [hs] at k
      walk_at "lw"
      exact g_ktup (by show 1 ≤ 100; decide) fun t H1 _ s1 ht => k t H1 s1 ht
    case start =>
      rw [hs] at k
      walk_at "lw"
      exact g_ktup (by show 2 ≤ 100; decide) fun t H1 _ s1 ht => k t H1 (by walk_at "lw same") ht
    case cls =>
      rw [hs] at k
      walk_at "lw"
      exact g_ktup (by show 2 ≤ 100; decide) fun t H1 _ s1 ht => k t H1 (by walk_at "lw same") ht
    case has =>
      rw [hs] at k
      walk_at "lw"
      refine ⟨c, p, d, g, m, n, dn, st, cl, pl, up, a, rfl, W.same (by walk_at "lw same"), D.same (by walk_at "lw same"), wf, by rw [hs]; rfl, ?_⟩
      walk_at "lw"
      exact g_ktup (by show 3 ≤ 100; decide) fun t H1 _ s1 ht => k t H1 (by walk_at "lw same") ht
    case fin =>
      rw [hs] at k
      walk_at "lw"
      refine ⟨c, p, d, g, m, n, dn, st, cl, pl, up, a, rfl, W.same (by walk_at "lw same"), D.same (by walk_at "lw same"), wf, by rw [hs]; rfl, ?_⟩
      walk_at "lw"
      exact g_ktup (by show 5 ≤ 100; decide) fun t H1 _ s1 ht => k t H1 (by walk_at "lw same") ht
    case part =>
      have hlay := lay_at (hwl (by rw [hs]; rfl))
      rw [hs] at k
      walk_at "lw"
      refine g_rix (SqL.of (Same.at (by walk_at "lw same") h4)) (atI_map hlay) ?_
      walk_at "lw"
      refine g_rslS (by rw [SX.S_len]; exact Nat.le_trans (lay_le ok m) (by decide)) ?_
      walk_at "lw"
      exact g_ktup (by show 4 ≤ 100; decide) fun t H1 _ s1 ht => k t H1 (by walk_at "lw same") ht
    case nam =>
      rw [hs] at k
      walk_at "lw"
      refine ⟨c, p, g, n, dn, st, cl, pl, up, a, rfl, W.same (by walk_at "lw same"), ok, fun b H1 s1 hb => ?_⟩
      walk_at "lw"
      refine ⟨c, p, g, n, dn, st, cl, pl, up, a, rfl, W.same (by walk_at "lw same"), ok, fun H2 s2 => ?_⟩
      walk_at "lw"
      exact g_ktup (by show 4 ≤ 100; decide) fun t H3 _ s3 ht => k t H3 (by walk_at "lw same") ht
    case img =>
      have hb := BL_pick (g := g) (s := .img) (.inl rfl)
      have hs' := wf.bun
      rw [hs] at k
      walk_at "lw"
      refine ⟨c, p, g, n, dn, st, cl, pl, up, a, rfl, W.same (by walk_at "lw same"), ok, fun b H1 s1 hb1 => ?_⟩
      obtain ⟨ts, t1, t2, t3⟩ := hb1
      have hz : ts.length ≤ 100000 := by
        have e := congrArg List.length t1
        rw [List.length_map] at e
        rw [e]
        unfold BL
        rw [List.length_append, List.length_append, List.length_map]
        have := ok.l1
        cases g.pf with
        | none => show _ + 1 + 0 ≤ _; omega
        | some q => show _ + 1 + 1 ≤ _; omega
      walk_at "lw"
      refine g_ritL (xs := ts.map fun e => V.ref e.1) (SqL.of (by walk_at "lw hp")) ?_
      refine lc_map (G := fun H' => SqL K H' b (ts.map fun e => V.ref e.1)) walk_list (fun H' s => SqL.of (s _ _ (by walk_at "lw hp"))) (by rw [List.length_map]; exact hz) (pP H1 St9.img.s) (pF H1) ?_ ?_
      · intro x hx H' R s2 kk
        obtain ⟨e, he, rfl⟩ := List.mem_map.mp hx
        have he1 := t3 e he
        walk_at "lw"
        refine kk _ rfl (fun H'' R s3 r => ?_) (fun hp H'' R s3 r => ?_)
        · walk_at "lw"
          refine g_rixT (xs := [.str e.2.1, strS e.2.2]) (SqT.of (by walk_at "lw hp")) (v := .str e.2.1) rfl ?_
          walk_at "lw"
          rw [pP_at he1] at r
          rw [show decide (V.str e.2.1 = V.str St9.img.s) = decide (e.2.1 = St9.img.s) by rw [decide_eq_decide]; exact str_eq]
          exact r
        · walk_at "lw"
          refine g_rixT (xs := [.str e.2.1, strS e.2.2]) (SqT.of (by walk_at "lw hp")) (v := strS e.2.2) rfl ?_
          walk_at "lw"
          rw [pF_at he1] at r
          exact r _ (Same.refl _)
      · intro q H2 nq s2 hq
        rw [pick_list t3, t1, hb] at hq
        walk_at "lw"
        refine g_rix (SqL.of hq) (v := strS (blobT g .img)) rfl ?_
        walk_at "lw"
        exact g_ktup (by show 4 ≤ 100; decide) fun t H3 _ s3 ht => k t H3 (by walk_at "lw same") ht
    case bun =>
      have hb := BL_pick (g := g) (s := .bun) (.inr ⟨rfl, wf.bun hs⟩)
      have hs' := wf.bun
      rw [hs] at k
      walk_at "lw"
      refine ⟨c, p, g, n, dn, st, cl, pl, up, a, rfl, W.same (by walk_at "lw same"), ok, fun b H1 s1 hb1 => ?_⟩
      obtain ⟨ts, t1, t2, t3⟩ := hb1
      have hz : ts.length ≤ 100000 := by
        have e := congrArg List.length t1
        rw [List.length_map] at e
        rw [e]
        unfold BL
        rw [List.length_append, List.length_append, List.length_map]
        have := ok.l1
        cases g.pf with
        | none => show _ + 1 + 0 ≤ _; omega
        | some q => show _ + 1 + 1 ≤ _; omega
      walk_at "lw"
      refine g_ritL (xs := ts.map fun e => V.ref e.1) (SqL.of (by walk_at "lw hp")) ?_
      refine lc_map (G := fun H' => SqL K H' b (ts.map fun e => V.ref e.1)) walk_list (fun H' s => SqL.of (s _ _ (by walk_at "lw hp"))) (by rw [List.length_map]; exact hz) (pP H1 St9.bun.s) (pF H1) ?_ ?_
      · intro x hx H' R s2 kk
        obtain ⟨e, he, rfl⟩ := List.mem_map.mp hx
        have he1 := t3 e he
        walk_at "lw"
        refine kk _ rfl (fun H'' R s3 r => ?_) (fun hp H'' R s3 r => ?_)
        · walk_at "lw"
          refine g_rixT (xs := [.str e.2.1, strS e.2.2]) (SqT.of (by walk_at "lw hp")) (v := .str e.2.1) rfl ?_
          walk_at "lw"
          rw [pP_at he1] at r
          rw [show decide (V.str e.2.1 = V.str St9.bun.s) = decide (e.2.1 = St9.bun.s) by rw [decide_eq_decide]; exact str_eq]
          exact r
        · walk_at "lw"
          refine g_rixT (xs := [.str e.2.1, strS e.2.2]) (SqT.of (by walk_at "lw hp")) (v := strS e.2.2) rfl ?_
          walk_at "lw"
          rw [pF_at he1] at r
          exact r _ (Same.refl _)
      · intro q H2 nq s2 hq
        rw [pick_list t3, t1, hb] at hq
        walk_at "lw"
        refine g_rix (SqL.of hq) (v := strS (blobT g .bun)) rfl ?_
        walk_at "lw"
        exact g_ktup (by show 4 ≤ 100; decide) fun t H3 _ s3 ht => k t H3 (by walk_at "lw same") ht
end
end Lw

namespace Lw
open PySem L2
open PyProof.Rows (envOfC)
theorem two_at {b : Bool} {x y : V} : atI [x, y] (if b = true then 1 else 0) = some (if b = true then y else x) := by cases b <;> rfl
theorem Rp.k_have {r : Rp} (h : r.k = "have") : ∃ u a, r = .have' u a := by
  cases r <;> first | exact ⟨_, _, rfl⟩ | (dsimp only [Rp.k] at h; exact absurd h (by decide +kernel))
section
variable {P : Program} {w : World} {K : PySem.W.Frag} {mg : Str → Option Value} {base : Heap} {C_Pusher a_KINDS : Addr}
theorem ok__law_layer_step (T : Txt w K mg C_Pusher a_KINDS) : Cal P w K mg base 3 "_law_layer_step" (spLw C_Pusher nx' fun m => m.step.lay = true) := by
  have c__law_layer : Cal P w K mg base 2 "_law_layer" (spLL C_Pusher) := ok__law_layer T
  have c__law_place : Cal P w K mg base 1 "_law_place" (spPl C_Pusher) := ok__law_place T
  refine cal_mk T.d__law_layer_step sc__law_layer_step (fun vs H Q E h => ?_) (fun f cdv A outer s H vs Q E hr h => ?_)
  · obtain ⟨c, p, d, t, g, m, r, n, dn, st, cl, pl, up, a, rfl, _⟩ := h
    rfl
  · obtain ⟨c, p, d, t, g, m, r, n, dn, st, cl, pl, up, a, rfl, W, D, ok, wf, ht, okr, hlay, k⟩ := h
    have hu := hu_of hr
    have hd := D.hd
    obtain ⟨dx, l, h1, h2, h3, h4⟩ := W.ex
    have hat := lay_at (wf.lay hlay)
    have o1 : OkB (Rp.kept (adrS g m)).b := okbS (by decide +kernel) (okbS (okAdrS g m) okb0)
    have o2 : OkB (Rp.lacks (adrS g m)).b := okbS (by decide +kernel) (okbS (okAdrS g m) okb0)
    have o3 : OkB (Rp.wrong (adrS g m)).b := okbS (by decide +kernel) (okbS (okAdrS g m) okb0)
    have o4 : OkB (Rp.gone m.up).b := okbS (by decide +kernel) (okbI okb0)
    refine ⟨_, (pss_cons (ps_set (i := 3) sc__law_layer_step.nd rfl (by first | exact Or.inl rfl | exact Or.inr rfl) (pe_dget hu (pv 1) (pe_str) (fun _ _ => rfl)))
      (pss_cons (ps_set (i := 4) sc__law_layer_step.nd rfl (by first | exact Or.inl rfl | exact Or.inr rfl) (pe_c c__law_layer hr (by decide) rfl (pa_cons (pv 0) (pa_cons (pv 1) pa_nil))))
      (pss_cons (ps_if (PW.pt (pw_and (pt_cmpR op_eq (pv 3) (pe_str) (nomark _)) (pw_and1 (pt_cmpR op_eq (pe_ix ix_tup (pv 2) (pe_int) (fun _ _ => rfl)) (pe_str) (nomark _))))) (pss_cons (ps_dput hu (pv 1) (pe_str) (pe_ix ix_tup (pv 2) (pe_int) (fun _ _ => rfl)) rfl)
      (pss_cons (ps_dput hu (pv 1) (pe_str) (pe_int) rfl)
      (pss_one (ps_ret (pe_ix ix_list (pe_lst (pa_cons (pe_tup (pa_cons (pe_str) (pa_cons (pe_dget hu (pv 1) (pe_str) (fun _ _ => rfl)) pa_nil))) (pa_cons (pe_tup (pa_cons (pe_str) (pa_cons (pe_dget hu (pv 1) (pe_str) (fun _ _ => rfl)) pa_nil))) pa_nil))) (pe_callTy call_int1' (by rfl) T.n_int (by decide +kernel) (pa_cons (pe_cmpR op_eq (pe_ix ix_list (pe_fld (pv 0) rfl) (pe_dget hu (pv 1) (pe_str) (fun _ _ => rfl)) (fun _ _ => rfl)) (pe_str) (nomark _)) pa_nil)) (fun _ _ => rfl)))))) pss_nil)
      (pss_cons (ps_if (PW.pt (pw_and (pt_cmpR op_eq (pv 3) (pe_str) (nomark _)) (pw_and (pt_cmpR op_eq (pe_ix ix_tup (pv 2) (pe_int) (fun _ _ => rfl)) (pe_str) (nomark _)) (pw_and1 (pt_cmpR op_eq (pe_ix ix_tup (pv 2) (pe_int) (fun _ _ => rfl)) (pe_dget hu (pv 1) (pe_str) (fun _ _ => rfl)) (nomark _)))))) (pss_cons (ps_dput hu (pv 1) (pe_str) (pe_ix ix_tup (pv 2) (pe_int) (fun _ _ => rfl)) rfl)
      (pss_one (ps_ret (pe_ix ix_list (pe_lst (pa_cons (pe_tup (pa_cons (pe_str) (pa_cons (pe_dget hu (pv 1) (pe_str) (fun _ _ => rfl)) pa_nil))) (pa_cons (pe_tup (pa_cons (pe_str) (pa_cons (pe_dget hu (pv 1) (pe_str) (fun _ _ => rfl)) pa_nil))) pa_nil))) (pe_callTy call_int1' (by rfl) T.n_int (by decide +kernel) (pa_cons (pe_cmpR op_ge (pe_ix ix_tup (pv 2) (pe_int) (fun _ _ => rfl)) (pe_callB call_len_str' (by rfl) T.n_len (by decide +kernel) (pa_cons (pe_ix ix_list (pe_fld (pv 0) rfl) (pe_dget hu (pv 1) (pe_str) (fun _ _ => rfl)) (fun _ _ => rfl)) pa_nil)) (nomark _)) pa_nil)) (fun _ _ => rfl))))) pss_nil)
      (pss_cons (ps_if (PW.pt (pw_and (pt_cmpR op_in_seq (pv 3) (pe_lst (pa_cons (pe_str) (pa_cons (pe_str) pa_nil))) (by rfl)) (pw_and1 (pt_cmpR (op_eqD hr.units) (pv 2) (pe_tup (pa_cons (pe_str) (pa_cons (pe_dget hu (pv 1) (pe_str) (fun _ _ => rfl)) pa_nil))) (nomark _))))) (pss_one (ps_ret (pe_tup (pa_cons (pe_str) (pa_cons (pe_dget hu (pv 1) (pe_str) (fun _ _ => rfl)) pa_nil))))) pss_nil)
      (pss_cons (ps_if (PW.pt (pw_and (pt_cmpR op_in_seq (pv 3) (pe_lst (pa_cons (pe_str) (pa_cons (pe_str) pa_nil))) (by rfl)) (pw_and1 (pt_cmpR (op_eqD hr.units) (pv 2) (pe_tup (pa_cons (pe_str) (pa_cons (pv 4) pa_nil))) (nomark _))))) (pss_one (ps_ret (pe_c c__law_place hr (by decide) rfl (pa_cons (pv 0) (pa_cons (pe_op op_add (pe_dget hu (pv 1) (pe_str) (fun _ _ => rfl)) (pe_int)) pa_nil))))) pss_nil)
      (pss_cons (ps_if (PW.pt (pw_or (PW.pt (pw_and (pt_cmpR op_eq (pv 3) (pe_str) (nomark _)) (pw_and1 (pt_cmpR (op_eqD hr.units) (pv 2) (pe_tup (pa_cons (pe_str) (pa_cons (pv 4) pa_nil))) (nomark _))))) (pw_or1 (PW.pt (pw_and (pt_cmpR op_eq (pv 3) (pe_str) (nomark _)) (pw_and1 (pt_cmpR (op_eqD hr.units) (pv 2) (pe_tup (pa_cons (pe_str) (pa_cons (pv 4) pa_nil))) (nomark _)))))))) (pss_one (ps_ret (pe_tup (pa_cons (pe_str) (pa_cons (pe_dget hu (pv 1) (pe_str) (fun _ _ => rfl)) pa_nil))))) pss_nil)
      (pss_one (ps_ret (pe_tup (pa_cons (pe_str) (pa_cons (pe_int) pa_nil)))))))))))), ?_⟩
    walk_at "lw"
    refine ⟨c, p, d, g, m, n, dn, st, cl, pl, up, a, rfl, W, D, wf, hlay, ?_⟩
    cases hs : m.step
    case opn => rw [hs] at hlay; cases hlay
    case img => rw [hs] at hlay; cases hlay
    case bun => rw [hs] at hlay; cases hlay
    case nam => rw [hs] at hlay; cases hlay
    case cls => rw [hs] at hlay; cases hlay
    case don => rw [hs] at hlay; cases hlay
    case has =>
      walk_at "lw"
      refine g_keq (b := (Rp.kept (adrS g m)).b) (Same.at (by walk_at "lw same") ht) rfl (by show 2 ≤ 100; decide) okr o1 fun H1 s1 => ?_
      rw [Rp.b_dec]
      walk_at "lw"
      refine if2 (fun hk => ?_) (fun hk => ?_)
      · have e : nx' g m r = some (goL g (m.pl + 1) m) := by unfold nx'; rw [hs]; dsimp only; rw [if_pos hk]
        walk_at "lw"
        refine ⟨c, p, g, n, dn, st, cl, pl, up, a, m.pl + 1, rfl, W.same (by walk_at "lw same"), fun u H2 s2 hu2 => ?_⟩
        walk_at "lw"
        exact lw_goL (m := m) e D k u H2 (by walk_at "lw same") hu2
      · walk_at "lw"
        refine g_keq (b := (Rp.lacks (adrS g m)).b) (Same.at (by walk_at "lw same") ht) rfl (by show 2 ≤ 100; decide) okr o2 fun H2 s2 => ?_
        rw [Rp.b_dec]
        walk_at "lw"
        refine if2 (fun hk2 => ?_) (fun hk2 => ?_)
        · have e : nx' g m r = some { m with step := .start } := by unfold nx'; rw [hs]; dsimp only; rw [if_neg hk, if_pos hk2]
          walk_at "lw"
          exact g_ktup (by show 2 ≤ 100; decide) fun u H3 _ s3 hu3 => lw_same (m := m) e rfl rfl rfl D k u H3 (by walk_at "lw same") hu3
        · have e : nx' g m r = none := by unfold nx'; rw [hs]; dsimp only; rw [if_neg hk, if_neg hk2]
          walk_at "lw"
          exact g_ktup (by show 2 ≤ 100; decide) fun u H3 _ s3 hu3 => lw_none (m := m) e D k u H3 (by walk_at "lw same") hu3
    case start =>
      walk_at "lw"
      refine g_rixT (SqT.of (Same.at (by walk_at "lw same") ht)) r.at0 ?_
      walk_at "lw"
      refine if2 (fun hk => ?_) (fun hk => ?_)
      · obtain ⟨u, rfl⟩ := Rp.k_upload (str_eq.mp hk)
        have e : nx' g m (.upload u) = some { m with up := u, a := 0, step := if layT g m = [] then .fin else .part } := by unfold nx'; rw [hs]
        walk_at "lw"
        refine g_rixT (SqT.of (Same.at (by walk_at "lw same") ht)) (v := .int u) rfl ?_
        walk_at "lw"
        refine g_rdputS hd (by rw [mkS_len]; decide) fun H1 d1 k1 => ?_
        rw [put_upload] at d1
        walk_at "lw"
        refine g_rdputS d1 (by rw [mkS_len]; decide) fun H2 d2 k2 => ?_
        rw [put_at] at d2
        have st2 : Stp (fun i => i = 2) c c H H2 := (Stp.ch hd D.cd (fun xs z => by cases z) d1 k1).trans (Stp.ch d1 D.cd (fun xs z => by cases z) d2 k2)
        have p2 := st2.keep _ _ h2 (by rw [h1]; decide)
        have l2 := st2.keep _ _ h4 (by rw [h3]; decide)
        walk_at "lw"
        refine g_ktup (by show 2 ≤ 100; decide) fun t1 H3 _ s3 ht1 => ?_
        walk_at "lw"
        refine g_ktup (by show 2 ≤ 100; decide) fun t2 H4 _ s4 ht2 => ?_
        walk_at "lw"
        refine g_klst (by show 2 ≤ 100; decide) fun q H5 _ s5 hq => ?_
        walk_at "lw"
        refine g_rix (SqL.of (((s3.trans s4).trans s5).at l2)) (atI_map hat) ?_
        walk_at "lw"
        refine g_rix (SqL.of hq) two_at ?_
        walk_at "lw"
        have s35 := (s3.trans s4).trans s5
        rw [e] at k
        by_cases hn : strS (layT g m) = V.str ""
        · have hn2 := lay_nil.mp hn
          rw [if_pos hn2] at k
          rw [if_pos (decide_eq_true hn)]
          exact k t2 H5 ⟨D.cd, s35.at d2⟩ (st2.trans (Stp.same s35)) (s5.at ht2)
        · have hn2 : ¬ layT g m = [] := fun z => hn (lay_nil.mpr z)
          rw [if_neg hn2] at k
          rw [if_neg (by rw [decide_eq_true_eq]; exact hn)]
          exact k t1 H5 ⟨D.cd, s35.at d2⟩ (st2.trans (Stp.same s35)) ((s4.trans s5).at ht1)
      · have e : nx' g m r = none := by
          unfold nx'
          rw [hs]
          cases r <;> first | rfl | exact absurd rfl hk
        walk_at "lw"
        exact g_ktup (by show 2 ≤ 100; decide) fun u H3 _ s3 hu3 => lw_none (m := m) e D k u H3 (by walk_at "lw same") hu3
    case part =>
      walk_at "lw"
      refine g_rixT (SqT.of (Same.at (by walk_at "lw same") ht)) r.at0 ?_
      walk_at "lw"
      refine if2 (fun hk => ?_) (fun hk => ?_)
      · obtain ⟨u, a0, rfl⟩ := Rp.k_have (str_eq.mp hk)
        walk_at "lw"
        refine g_rixT (SqT.of (Same.at (by walk_at "lw same") ht)) (v := .int u) rfl ?_
        walk_at "lw"
        refine if2 (fun hu => ?_) (fun hu => ?_)
        · have hu' := int_eq.mp hu
          have e : nx' g m (.have' u a0) = some { m with a := a0, step := if a0 < (layT g m).length then .part else .fin } := by
            unfold nx'
            rw [hs]; dsimp only; rw [if_neg (fun z => by cases z), if_pos hu']
          walk_at "lw"
          refine g_rixT (SqT.of (Same.at (by walk_at "lw same") ht)) (v := .int a0) rfl ?_
          walk_at "lw"
          refine g_rdputS hd (by rw [mkS_len]; decide) fun H1 d1 k1 => ?_
          rw [put_at] at d1
          have st1 : Stp (fun i => i = 2) c c H H1 := Stp.ch hd D.cd (fun xs z => by cases z) d1 k1
          have p1 := st1.keep _ _ h2 (by rw [h1]; decide)
          have l1 := st1.keep _ _ h4 (by rw [h3]; decide)
          have t1' := st1.tup _ _ ht
          walk_at "lw"
          refine g_ktup (by show 2 ≤ 100; decide) fun t1 H3 _ s3 ht1 => ?_
          walk_at "lw"
          refine g_ktup (by show 2 ≤ 100; decide) fun t2 H4 _ s4 ht2 => ?_
          walk_at "lw"
          refine g_klst (by show 2 ≤ 100; decide) fun q H5 _ s5 hq => ?_
          have s35 := (s3.trans s4).trans s5
          walk_at "lw"
          refine g_rixT (SqT.of (s35.at t1')) (v := .int a0) rfl ?_
          walk_at "lw"
          refine g_rix (SqL.of (s35.at l1)) (atI_map hat) ?_
          walk_at "lw"
          refine g_lenT (by rw [SX.S_len]; exact Nat.le_trans (lay_le ok m) (by decide)) ?_
          rw [SX.S_len]
          walk_at "lw"
          refine g_rix (SqL.of hq) two_at ?_
          walk_at "lw"
          rw [e] at k
          by_cases hn : a0 < (layT g m).length
          · rw [if_pos hn] at k
            rw [if_neg (by rw [decide_eq_true_eq]; omega)]
            exact k t1 H5 ⟨D.cd, s35.at d1⟩ (st1.trans (Stp.same s35)) ((s4.trans s5).at ht1)
          · rw [if_neg hn] at k
            rw [if_pos (by rw [decide_eq_true_eq]; omega)]
            exact k t2 H5 ⟨D.cd, s35.at d1⟩ (st1.trans (Stp.same s35)) (s5.at ht2)
        · have hu' : ¬ u = m.up := fun z => hu (by rw [z])
          have e : nx' g m (.have' u a0) = none := by
            unfold nx'
            rw [hs]; dsimp only; rw [if_neg (fun z => by cases z), if_neg hu']
          walk_at "lw"
          refine g_keq (b := (Rp.gone m.up).b) (Same.at (by walk_at "lw same") ht) rfl (by show 2 ≤ 100; decide) okr o4 fun H1 s1 => ?_
          rw [Rp.b_dec]
          walk_at "lw"
          refine ifF (decide_eq_false fun z => by cases z) ?_
          walk_at "lw"
          exact g_ktup (by show 2 ≤ 100; decide) fun u H3 _ s3 hu3 => lw_none (m := m) e D k u H3 (by walk_at "lw same") hu3
      · walk_at "lw"
        refine g_keq (b := (Rp.gone m.up).b) (Same.at (by walk_at "lw same") ht) rfl (by show 2 ≤ 100; decide) okr o4 fun H1 s1 => ?_
        rw [Rp.b_dec]
        walk_at "lw"
        refine if2 (fun hk3 => ?_) (fun hk3 => ?_)
        · have e : nx' g m r = some { m with step := .has } := by unfold nx'; rw [hs]; dsimp only; rw [if_pos hk3]
          walk_at "lw"
          exact g_ktup (by show 2 ≤ 100; decide) fun u H3 _ s3 hu3 => lw_same (m := m) e rfl rfl rfl D k u H3 (by walk_at "lw same") hu3
        · have e : nx' g m r = none := by
            unfold nx'
            rw [hs]; dsimp only; rw [if_neg hk3]
            cases r <;> first | rfl | exact absurd rfl hk
          walk_at "lw"
          exact g_ktup (by show 2 ≤ 100; decide) fun u H3 _ s3 hu3 => lw_none (m := m) e D k u H3 (by walk_at "lw same") hu3
    case fin =>
      walk_at "lw"
      refine g_keq (b := (Rp.gone m.up).b) (Same.at (by walk_at "lw same") ht) rfl (by show 2 ≤ 100; decide) okr o4 fun H1 s1 => ?_
      rw [Rp.b_dec]
      walk_at "lw"
      refine if2 (fun hk => ?_) (fun hk => ?_)
      · have e : nx' g m r = some { m with step := .has } := by
          unfold nx'
          rw [hs]; dsimp only; rw [if_neg (by rw [hk]; intro z; cases z), if_neg (by rw [hk]; intro z; cases z), if_pos hk]
        walk_at "lw"
        exact g_ktup (by show 2 ≤ 100; decide) fun u H3 _ s3 hu3 => lw_same (m := m) e rfl rfl rfl D k u H3 (by walk_at "lw same") hu3
      · walk_at "lw"
        refine g_keq (b := (Rp.kept (adrS g m)).b) (Same.at (by walk_at "lw same") ht) rfl (by show 2 ≤ 100; decide) okr o1 fun H2 s2 => ?_
        rw [Rp.b_dec]
        walk_at "lw"
        refine if2 (fun hk2 => ?_) (fun hk2 => ?_)
        · have e : nx' g m r = some (goL g (m.pl + 1) m) := by unfold nx'; rw [hs]; dsimp only; rw [if_pos hk2]
          walk_at "lw"
          refine ⟨c, p, g, n, dn, st, cl, pl, up, a, m.pl + 1, rfl, W.same (by walk_at "lw same"), fun u H3 s3 hu3 => ?_⟩
          walk_at "lw"
          exact lw_goL (m := m) e D k u H3 (by walk_at "lw same") hu3
        · walk_at "lw"
          refine g_keq (b := (Rp.wrong (adrS g m)).b) (Same.at (by walk_at "lw same") ht) rfl (by show 2 ≤ 100; decide) okr o3 fun H3 s3 => ?_
          rw [Rp.b_dec]
          walk_at "lw"
          refine if2 (fun hk3 => ?_) (fun hk3 => ?_)
          · have e : nx' g m r = some { m with step := .start } := by unfold nx'; rw [hs]; dsimp only; rw [if_neg hk2, if_pos hk3]
            walk_at "lw"
            exact g_ktup (by show 2 ≤ 100; decide) fun u H4 _ s4 hu4 => lw_same (m := m) e rfl rfl rfl D k u H4 (by walk_at "lw same") hu4
          · have e : nx' g m r = none := by unfold nx'; rw [hs]; dsimp only; rw [if_neg hk2, if_neg hk3, if_neg hk]
            walk_at "lw"
            exact g_ktup (by show 2 ≤ 100; decide) fun u H4 _ s4 hu4 => lw_none (m := m) e D k u H4 (by walk_at "lw same") hu4
end
end Lw

namespace Lw
open PySem L2
open PyProof.Rows (envOfC)
section
variable {P : Program} {w : World} {K : PySem.W.Frag} {mg : Str → Option Value} {base : Heap} {C_Pusher a_KINDS : Addr}
theorem ok__law_end_step (T : Txt w K mg C_Pusher a_KINDS) : Cal P w K mg base 4 "_law_end_step" (spLw C_Pusher nx' fun m => m.step = .img ∨ m.step = .bun ∨ m.step = .nam) := by
  have c_address_of : Cal P w K mg base 1 "address_of" spAddr := ok_address_of T
  have c__law_place : Cal P w K mg base 1 "_law_place" (spPl C_Pusher) := ok__law_place T
  have c__law_blobs : Cal P w K mg base 2 "_law_blobs" (spBlobs C_Pusher) := ok__law_blobs T
  have c__law_target : Cal P w K mg base 3 "_law_target" (spTgt C_Pusher) := ok__law_target T
  refine cal_mk T.d__law_end_step sc__law_end_step (fun vs H Q E h => ?_) (fun f cdv A outer s H vs Q E hr h => ?_)
  · obtain ⟨c, p, d, t, g, m, r, n, dn, st, cl, pl, up, a, rfl, _⟩ := h
    rfl
  · obtain ⟨c, p, d, t, g, m, r, n, dn, st, cl, pl, up, a, rfl, W, D, ok, wf, ht, okr, hc, k⟩ := h
    have hu := hu_of hr
    have hd := D.hd
    obtain ⟨dx, l, h1, h2, h3, h4⟩ := W.ex
    have o1 : OkB (Rp.named g.nm (SX.S g.tgt)).b := okbS (by decide +kernel) (okbS ok.nm (okbS (okTgt g) okb0))
    have o2 : OkB (Rp.lacks (SX.S g.tgt)).b := okbS (by decide +kernel) (okbS (okTgt g) okb0)
    refine ⟨_, (pss_cons (ps_set (i := 3) sc__law_end_step.nd rfl (by first | exact Or.inl rfl | exact Or.inr rfl) (pe_dget hu (pv 1) (pe_str) (fun _ _ => rfl)))
      (pss_cons (ps_if (pt_cmpR op_eq (pv 3) (pe_str) (nomark _)) (pss_cons (ps_if (pt_cmpR (op_eqD hr.units) (pv 2) (pe_tup (pa_cons (pe_str) (pa_cons (pe_fld (pv 0) rfl) (pa_cons (pe_c c__law_target hr (by decide) rfl (pa_cons (pv 0) pa_nil)) pa_nil)))) (nomark _)) (pss_one (ps_ret (pe_tup (pa_cons (pe_str) (pa_cons (pe_int) pa_nil))))) pss_nil)
      (pss_cons (ps_if (pt_cmpR (op_eqD hr.units) (pv 2) (pe_tup (pa_cons (pe_str) (pa_cons (pe_c c__law_target hr (by decide) rfl (pa_cons (pv 0) pa_nil)) pa_nil))) (nomark _)) (pss_one (ps_ret (pe_c c__law_place hr (by decide) rfl (pa_cons (pv 0) (pa_cons (pe_int) pa_nil))))) pss_nil)
      (pss_one (ps_ret (pe_tup (pa_cons (pe_str) (pa_cons (pe_int) pa_nil))))))) pss_nil)
      (pss_cons (ps_set (i := 4) sc__law_end_step.nd rfl (by first | exact Or.inl rfl | exact Or.inr rfl) (pe_ix ix_list (pe_lc (own := [("_law_blob", 5)]) (g := (gName 5)) (by rfl) sc__law_end_step.nd (pi_list (pe_c c__law_blobs hr (by decide) rfl (pa_cons (pv 0) pa_nil))) (blkOk_by (own := [("_law_blob", 5)]) (N := n__law_end_step) (sc := defScope s__law_end_step) (by decide +kernel)) (fun _ _ _ _ _ => (pg_name (i := 5) sc__law_end_step.nd rfl (by first | exact Or.inl rfl | exact Or.inr rfl))) (fun _ _ _ _ _ => (pts_one (pt_cmpR op_eq (pe_ix (ix_tupK K rfl) (pv 5) (pe_int) (fun _ _ => rfl)) (pv 3) (nomark _)))) (fun _ _ _ _ _ => (pe_ix (ix_tupK K rfl) (pv 5) (pe_int) (fun _ _ => rfl)))) (pe_int) (fun _ _ => rfl)))
      (pss_cons (ps_if (pt_cmpR op_eq (pe_ix ix_tup (pv 2) (pe_int) (fun _ _ => rfl)) (pe_str) (nomark _)) (pss_one (ps_ret (pe_c c__law_place hr (by decide) rfl (pa_cons (pv 0) (pa_cons (pe_int) pa_nil))))) pss_nil)
      (pss_cons (ps_if (PW.pt (pw_or (pt_cmpR op_eq (pe_ix ix_tup (pv 2) (pe_int) (fun _ _ => rfl)) (pe_str) (nomark _)) (pw_or1 (PW.pt (pw_and (pt_cmpR op_eq (pe_ix ix_tup (pv 2) (pe_int) (fun _ _ => rfl)) (pe_str) (nomark _)) (pw_and1 (pt_cmpR op_ne (pe_ix ix_tup (pv 2) (pe_int) (fun _ _ => rfl)) (pe_c c_address_of hr (by decide) rfl (pa_cons (pv 3) (pa_cons (pv 4) pa_nil))) (nomark _)))))))) (pss_one (ps_ret (pe_tup (pa_cons (pv 3) (pa_cons (pe_int) pa_nil))))) pss_nil)
      (pss_cons (ps_if (pt_cmpR op_ne (pe_ix ix_tup (pv 2) (pe_int) (fun _ _ => rfl)) (pe_str) (nomark _)) (pss_one (ps_ret (pe_tup (pa_cons (pe_str) (pa_cons (pe_int) pa_nil))))) pss_nil)
      (pss_cons (ps_if (PW.pt (pw_and (pt_cmpR op_eq (pv 3) (pe_str) (nomark _)) (pw_and1 (pt_cmpR op_notN' (pe_fld (pv 0) rfl) (pe_non) (nomark _))))) (pss_one (ps_ret (pe_tup (pa_cons (pe_str) (pa_cons (pe_int) pa_nil))))) pss_nil)
      (pss_one (ps_ret (pe_tup (pa_cons (pe_str) (pa_cons (pe_int) pa_nil)))))))))))), ?_⟩
    walk_at "lw"
    rcases hc with hs | hs | hs
    · have hb := BL_pick (g := g) (s := .img) (.inl rfl)
      rw [hs]
      walk_at "lw"
      refine ⟨c, p, g, n, dn, st, cl, pl, up, a, rfl, W.same (by walk_at "lw same"), ok, fun b H1 s1 hb1 => ?_⟩
      obtain ⟨ts, t1, t2, t3⟩ := hb1
      have hz : ts.length ≤ 100000 := by
        have e := congrArg List.length t1
        rw [List.length_map] at e
        rw [e]
        unfold BL
        rw [List.length_append, List.length_append, List.length_map]
        have := ok.l1
        cases g.pf with
        | none => show _ + 1 + 0 ≤ _; omega
        | some q => show _ + 1 + 1 ≤ _; omega
      refine g_ritL (xs := ts.map fun e => V.ref e.1) (SqL.of (by walk_at "lw hp")) ?_
      refine lc_map (G := fun H' => SqL K H' b (ts.map fun e => V.ref e.1)) walk_list (fun H' s => SqL.of (s _ _ (by walk_at "lw hp"))) (by rw [List.length_map]; exact hz) (pP H1 St9.img.s) (pF H1) ?_ ?_
      · intro x hx H' R s2 kk
        obtain ⟨e, he, rfl⟩ := List.mem_map.mp hx
        have he1 := t3 e he
        walk_at "lw"
        refine kk _ rfl (fun H'' R s3 r => ?_) (fun hp H'' R s3 r => ?_)
        · walk_at "lw"
          refine g_rixT (xs := [.str e.2.1, strS e.2.2]) (SqT.of (by walk_at "lw hp")) (v := .str e.2.1) rfl ?_
          walk_at "lw"
          rw [pP_at he1] at r
          rw [show decide (V.str e.2.1 = V.str St9.img.s) = decide (e.2.1 = St9.img.s) by rw [decide_eq_decide]; exact str_eq]
          exact r
        · walk_at "lw"
          refine g_rixT (xs := [.str e.2.1, strS e.2.2]) (SqT.of (by walk_at "lw hp")) (v := strS e.2.2) rfl ?_
          walk_at "lw"
          rw [pF_at he1] at r
          exact r _ (Same.refl _)
      · intro q H2 nq s2 hq
        rw [pick_list t3, t1, hb] at hq
        walk_at "lw"
        refine g_rix (SqL.of hq) (v := strS (blobT g .img)) rfl ?_
        walk_at "lw"
        refine g_rixT (SqT.of (Same.at (by walk_at "lw same") ht)) r.at0 ?_
        cases r
        case lacks x =>
          have e : nx' g m (.lacks x) = some (goL g 0 m) := by unfold nx'; rw [hs]
          dsimp only [Rp.k]
          walk_at "lw"
          refine ⟨c, p, g, n, dn, st, cl, pl, up, a, 0, rfl, W.same (by walk_at "lw same"), fun u H5 s5 hu5 => ?_⟩
          walk_at "lw"
          exact lw_goL (m := m) e D k u H5 (by walk_at "lw same") hu5
        case malformed =>
          have e : nx' g m .malformed = some { m with pl := 0 } := by unfold nx'; rw [hs]
          dsimp only [Rp.k]
          walk_at "lw"
          refine g_rixT (SqT.of (Same.at (by walk_at "lw same") ht)) (v := .str "malformed") rfl ?_
          walk_at "lw"
          exact g_ktup (by show 2 ≤ 100; decide) fun u H5 _ s5 hu5 => lw_same (m := m) e rfl rfl rfl D k u H5 (by walk_at "lw same") (by rw [show ({ m with pl := 0 } : M).step = m.step from rfl, hs]; exact hu5)
        case kept x =>
          dsimp only [Rp.k]
          walk_at "lw"
          refine g_rixT (SqT.of (Same.at (by walk_at "lw same") ht)) (v := .str "kept") rfl ?_
          walk_at "lw"
          refine g_rixT (SqT.of (Same.at (by walk_at "lw same") ht)) (v := .str "kept") rfl ?_
          walk_at "lw"
          refine g_rixT (SqT.of (Same.at (by walk_at "lw same") ht)) (v := .str x) rfl ?_
          walk_at "lw"
          refine ⟨"image", blobT g .img, rfl, img_kind, ?_⟩
          walk_at "lw"
          refine ifn2 (fun hx => ?_) (fun hx => ?_)
          · have hx : x = SX.S g.ia := str_eq.mp hx
            have e : nx' g m (.kept x) = some { m with step := if g.pf.isSome then .bun else .nam, pl := 0 } := by
              unfold nx'; rw [hs]; dsimp only; rw [if_pos (by unfold blobA; rw [if_pos rfl]; exact hx)]
            walk_at "lw"
            refine g_rixT (SqT.of (Same.at (by walk_at "lw same") ht)) (v := .str "kept") rfl ?_
            walk_at "lw"
            cases hq : g.pf with
            | none =>
              rw [hq] at e
              refine ifF (b := !decide (plV none = V.non)) (by show (!decide (V.non = V.non)) = false; rw [decide_eq_true rfl]; rfl) ?_
              walk_at "lw"
              exact g_ktup (by show 2 ≤ 100; decide) fun u H5 _ s5 hu5 => lw_same (m := m) e rfl rfl rfl D k u H5 (by walk_at "lw same") hu5
            | some q =>
              rw [hq] at e
              refine ifT (b := !decide (plV (some q) = V.non)) (by rw [decide_eq_false fun z => by cases z]; rfl) ?_
              walk_at "lw"
              exact g_ktup (by show 2 ≤ 100; decide) fun u H5 _ s5 hu5 => lw_same (m := m) e rfl rfl rfl D k u H5 (by walk_at "lw same") hu5
          · have hx : ¬ x = SX.S g.ia := fun z => hx (by rw [z]; rfl)
            have e : nx' g m (.kept x) = some { m with pl := 0 } := by
              unfold nx'; rw [hs]; dsimp only; rw [if_neg (by unfold blobA; rw [if_pos rfl]; exact hx)]
            walk_at "lw"
            exact g_ktup (by show 2 ≤ 100; decide) fun u H5 _ s5 hu5 => lw_same (m := m) e rfl rfl rfl D k u H5 (by walk_at "lw same") (by rw [show ({ m with pl := 0 } : M).step = m.step from rfl, hs]; exact hu5)
        all_goals
          dsimp only [Rp.k]
          walk_at "lw"
          refine g_rixT (SqT.of (Same.at (by walk_at "lw same") ht)) (Rp.at0 _) ?_
          dsimp only [Rp.k]
          walk_at "lw"
          refine g_rixT (SqT.of (Same.at (by walk_at "lw same") ht)) (Rp.at0 _) ?_
          dsimp only [Rp.k]
          walk_at "lw"
          refine g_rixT (SqT.of (Same.at (by walk_at "lw same") ht)) (Rp.at0 _) ?_
          dsimp only [Rp.k]
          walk_at "lw"
          exact g_ktup (by show 2 ≤ 100; decide) fun u H5 _ s5 hu5 => lw_none (m := m) (by unfold nx'; rw [hs]) D k u H5 (by walk_at "lw same") hu5
    · have hb := BL_pick (g := g) (s := .bun) (.inr ⟨rfl, wf.bun hs⟩)
      rw [hs]
      walk_at "lw"
      refine ⟨c, p, g, n, dn, st, cl, pl, up, a, rfl, W.same (by walk_at "lw same"), ok, fun b H1 s1 hb1 => ?_⟩
      obtain ⟨ts, t1, t2, t3⟩ := hb1
      have hz : ts.length ≤ 100000 := by
        have e := congrArg List.length t1
        rw [List.length_map] at e
        rw [e]
        unfold BL
        rw [List.length_append, List.length_append, List.length_map]
        have := ok.l1
        cases g.pf with
        | none => show _ + 1 + 0 ≤ _; omega
        | some q => show _ + 1 + 1 ≤ _; omega
      refine g_ritL (xs := ts.map fun e => V.ref e.1) (SqL.of (by walk_at "lw hp")) ?_
      refine lc_map (G := fun H' => SqL K H' b (ts.map fun e => V.ref e.1)) walk_list (fun H' s => SqL.of (s _ _ (by walk_at "lw hp"))) (by rw [List.length_map]; exact hz) (pP H1 St9.bun.s) (pF H1) ?_ ?_
      · intro x hx H' R s2 kk
        obtain ⟨e, he, rfl⟩ := List.mem_map.mp hx
        have he1 := t3 e he
        walk_at "lw"
        refine kk _ rfl (fun H'' R s3 r => ?_) (fun hp H'' R s3 r => ?_)
        · walk_at "lw"
          refine g_rixT (xs := [.str e.2.1, strS e.2.2]) (SqT.of (by walk_at "lw hp")) (v := .str e.2.1) rfl ?_
          walk_at "lw"
          rw [pP_at he1] at r
          rw [show decide (V.str e.2.1 = V.str St9.bun.s) = decide (e.2.1 = St9.bun.s) by rw [decide_eq_decide]; exact str_eq]
          exact r
        · walk_at "lw"
          refine g_rixT (xs := [.str e.2.1, strS e.2.2]) (SqT.of (by walk_at "lw hp")) (v := strS e.2.2) rfl ?_
          walk_at "lw"
          rw [pF_at he1] at r
          exact r _ (Same.refl _)
      · intro q H2 nq s2 hq
        rw [pick_list t3, t1, hb] at hq
        walk_at "lw"
        refine g_rix (SqL.of hq) (v := strS (blobT g .bun)) rfl ?_
        walk_at "lw"
        refine g_rixT (SqT.of (Same.at (by walk_at "lw same") ht)) r.at0 ?_
        cases r
        case lacks x =>
          have e : nx' g m (.lacks x) = some (goL g 0 m) := by unfold nx'; rw [hs]
          dsimp only [Rp.k]
          walk_at "lw"
          refine ⟨c, p, g, n, dn, st, cl, pl, up, a, 0, rfl, W.same (by walk_at "lw same"), fun u H5 s5 hu5 => ?_⟩
          walk_at "lw"
          exact lw_goL (m := m) e D k u H5 (by walk_at "lw same") hu5
        case malformed =>
          have e : nx' g m .malformed = some { m with pl := 0 } := by unfold nx'; rw [hs]
          dsimp only [Rp.k]
          walk_at "lw"
          refine g_rixT (SqT.of (Same.at (by walk_at "lw same") ht)) (v := .str "malformed") rfl ?_
          walk_at "lw"
          exact g_ktup (by show 2 ≤ 100; decide) fun u H5 _ s5 hu5 => lw_same (m := m) e rfl rfl rfl D k u H5 (by walk_at "lw same") (by rw [show ({ m with pl := 0 } : M).step = m.step from rfl, hs]; exact hu5)
        case kept x =>
          dsimp only [Rp.k]
          walk_at "lw"
          refine g_rixT (SqT.of (Same.at (by walk_at "lw same") ht)) (v := .str "kept") rfl ?_
          walk_at "lw"
          refine g_rixT (SqT.of (Same.at (by walk_at "lw same") ht)) (v := .str "kept") rfl ?_
          walk_at "lw"
          have hq0 := wf.bun hs
          have ha : adrL "bundle" (blobT g .bun) = g.tgt := by
            obtain ⟨q, hq⟩ := Option.isSome_iff_exists.mp hq0
            unfold blobT G.tgt
            rw [if_neg (by decide), hq]
            rfl
          refine g_rixT (SqT.of (Same.at (by walk_at "lw same") ht)) (v := .str x) rfl ?_
          walk_at "lw"
          refine ⟨"bundle", blobT g .bun, rfl, bun_kind, ?_⟩
          rw [adr_S, ha]
          walk_at "lw"
          refine ifn2 (fun hx => ?_) (fun hx => ?_)
          · have hx : x = SX.S g.tgt := str_eq.mp hx
            have e : nx' g m (.kept x) = some { m with step := .nam, pl := 0 } := by
              unfold nx'; rw [hs]; dsimp only; rw [if_pos (by unfold blobA; rw [if_neg (by decide)]; exact hx)]
            walk_at "lw"
            refine g_rixT (SqT.of (Same.at (by walk_at "lw same") ht)) (v := .str "kept") rfl ?_
            walk_at "lw"
            exact g_ktup (by show 2 ≤ 100; decide) fun u H5 _ s5 hu5 => lw_same (m := m) e rfl rfl rfl D k u H5 (by walk_at "lw same") hu5
          · have hx : ¬ x = SX.S g.tgt := fun z => hx (by rw [z])
            have e : nx' g m (.kept x) = some { m with pl := 0 } := by
              unfold nx'; rw [hs]; dsimp only; rw [if_neg (by unfold blobA; rw [if_neg (by decide)]; exact hx)]
            walk_at "lw"
            exact g_ktup (by show 2 ≤ 100; decide) fun u H5 _ s5 hu5 => lw_same (m := m) e rfl rfl rfl D k u H5 (by walk_at "lw same") (by rw [show ({ m with pl := 0 } : M).step = m.step from rfl, hs]; exact hu5)
        all_goals
          dsimp only [Rp.k]
          walk_at "lw"
          refine g_rixT (SqT.of (Same.at (by walk_at "lw same") ht)) (Rp.at0 _) ?_
          dsimp only [Rp.k]
          walk_at "lw"
          refine g_rixT (SqT.of (Same.at (by walk_at "lw same") ht)) (Rp.at0 _) ?_
          dsimp only [Rp.k]
          walk_at "lw"
          refine g_rixT (SqT.of (Same.at (by walk_at "lw same") ht)) (Rp.at0 _) ?_
          dsimp only [Rp.k]
          walk_at "lw"
          exact g_ktup (by show 2 ≤ 100; decide) fun u H5 _ s5 hu5 => lw_none (m := m) (by unfold nx'; rw [hs]) D k u H5 (by walk_at "lw same") hu5
    · rw [hs]
      walk_at "lw"
      refine ⟨c, p, g, n, dn, st, cl, pl, up, a, rfl, W.same (by walk_at "lw same"), ok, fun H1 s1 => ?_⟩
      walk_at "lw"
      refine g_keq (b := (Rp.named g.nm (SX.S g.tgt)).b) (Same.at (by walk_at "lw same") ht) rfl (by show 3 ≤ 100; decide) okr o1 fun H2 s2 => ?_
      rw [Rp.b_dec]
      walk_at "lw"
      refine if2 (fun hk => ?_) (fun hk => ?_)
      · have e : nx' g m r = some { m with step := .cls, pl := 0 } := by unfold nx'; rw [hs]; dsimp only; rw [if_pos hk]
        walk_at "lw"
        exact g_ktup (by show 2 ≤ 100; decide) fun u H3 _ s3 hu3 => lw_same (m := m) e rfl rfl rfl D k u H3 (by walk_at "lw same") hu3
      · walk_at "lw"
        refine ⟨c, p, g, n, dn, st, cl, pl, up, a, rfl, W.same (by walk_at "lw same"), ok, fun H3 s3 => ?_⟩
        walk_at "lw"
        refine g_keq (b := (Rp.lacks (SX.S g.tgt)).b) (Same.at (by walk_at "lw same") ht) rfl (by show 2 ≤ 100; decide) okr o2 fun H4 s4 => ?_
        rw [Rp.b_dec]
        walk_at "lw"
        refine if2 (fun hk2 => ?_) (fun hk2 => ?_)
        · have e : nx' g m r = some (goL g 0 m) := by unfold nx'; rw [hs]; dsimp only; rw [if_neg hk, if_pos hk2]
          walk_at "lw"
          refine ⟨c, p, g, n, dn, st, cl, pl, up, a, 0, rfl, W.same (by walk_at "lw same"), fun u H5 s5 hu5 => ?_⟩
          walk_at "lw"
          exact lw_goL (m := m) e D k u H5 (by walk_at "lw same") hu5
        · have e : nx' g m r = none := by unfold nx'; rw [hs]; dsimp only; rw [if_neg hk, if_neg hk2]
          walk_at "lw"
          exact g_ktup (by show 2 ≤ 100; decide) fun u H5 _ s5 hu5 => lw_none (m := m) e D k u H5 (by walk_at "lw same") hu5
end
end Lw

namespace Lw
open PySem L2
open PyProof.Rows (envOfC)
theorem LwQ.shift {c : Addr → Nat} {H H' : Hp} {d : Addr} {m : M} {o : Option M} {Q : VK} (s : Same H H') (k : LwQ c H d m o Q) : LwQ c H' d m o Q := by
  cases o with
  | none => exact fun t H2 D st ht => k t H2 D ((Stp.same s).trans st) ht
  | some m' => exact fun t H2 D st ht => k t H2 D ((Stp.same s).trans st) ht
section
variable {P : Program} {w : World} {K : PySem.W.Frag} {mg : Str → Option Value} {base : Heap} {C_Pusher a_KINDS : Addr}
theorem ok__law_next (T : Txt w K mg C_Pusher a_KINDS) : Cal P w K mg base 5 "_law_next" (spLw C_Pusher nx fun m => m.step ≠ .don) := by
  have c__law_place : Cal P w K mg base 1 "_law_place" (spPl C_Pusher) := ok__law_place T
  have c__law_layer_step : Cal P w K mg base 3 "_law_layer_step" (spLw C_Pusher nx' fun m => m.step.lay = true) := ok__law_layer_step T
  have c__law_end_step : Cal P w K mg base 4 "_law_end_step" (spLw C_Pusher nx' fun m => m.step = .img ∨ m.step = .bun ∨ m.step = .nam) := ok__law_end_step T
  refine cal_mk T.d__law_next sc__law_next (fun vs H Q E h => ?_) (fun f cdv A outer s H vs Q E hr h => ?_)
  · obtain ⟨c, p, d, t, g, m, r, n, dn, st, cl, pl, up, a, rfl, _⟩ := h
    rfl
  · obtain ⟨c, p, d, t, g, m, r, n, dn, st, cl, pl, up, a, rfl, W, D, ok, wf, ht, okr, hnd, k⟩ := h
    have hu := hu_of hr
    have hd := D.hd
    have o1 : OkB (Rp.lapsed m.cl).b := okbS (by decide +kernel) (okbI okb0)
    have o5 : OkB (Rp.closed m.cl).b := okbS (by decide +kernel) (okbI okb0)
    refine ⟨_, (pss_cons (ps_set (i := 3) sc__law_next.nd rfl (by first | exact Or.inl rfl | exact Or.inr rfl) (pe_dget hu (pv 1) (pe_str) (fun _ _ => rfl)))
      (C8.pss_cut (ps_if (PW.pt (pw_and (pt_cmpR op_notIn_seq (pv 3) (pe_lst (pa_cons (pe_str) (pa_cons (pe_str) (pa_cons (pe_str) pa_nil)))) (by rfl)) (pw_and1 (pt_cmpR (op_eqD hr.units) (pv 2) (pe_tup (pa_cons (pe_str) (pa_cons (pe_dget hu (pv 1) (pe_str) (fun _ _ => rfl)) pa_nil))) (nomark _))))) (pss_one (ps_ret (pe_tup (pa_cons (pe_str) (pa_cons (pe_int) pa_nil))))) pss_nil)
      (pss_cons (ps_if (pt_cmpR op_eq (pv 3) (pe_str) (nomark _)) (pss_cons (ps_if (pt_cmpR op_ne (pe_ix ix_tup (pv 2) (pe_int) (fun _ _ => rfl)) (pe_str) (nomark _)) (pss_one (ps_ret (pe_tup (pa_cons (pe_str) (pa_cons (pe_int) pa_nil))))) pss_nil)
      (pss_cons (ps_dput hu (pv 1) (pe_str) (pe_ix ix_tup (pv 2) (pe_int) (fun _ _ => rfl)) rfl)
      (pss_one (ps_ret (pe_c c__law_place hr (by decide) rfl (pa_cons (pv 0) (pa_cons (pe_int) pa_nil))))))) pss_nil)
      (pss_cons (ps_if (pt_cmpR op_eq (pv 3) (pe_str) (nomark _)) (pss_one (ps_ret (pe_ix ix_list (pe_lst (pa_cons (pe_tup (pa_cons (pe_str) (pa_cons (pe_int) pa_nil))) (pa_cons (pe_tup (pa_cons (pe_str) (pa_cons (pe_int) pa_nil))) pa_nil))) (pe_callTy call_int1' (by rfl) T.n_int (by decide +kernel) (pa_cons (pe_cmpR (op_eqD hr.units) (pv 2) (pe_tup (pa_cons (pe_str) (pa_cons (pe_dget hu (pv 1) (pe_str) (fun _ _ => rfl)) pa_nil))) (nomark _)) pa_nil)) (fun _ _ => rfl)))) pss_nil)
      (pss_cons (ps_if (pt_cmpR op_in_seq (pv 3) (pe_lst (pa_cons (pe_str) (pa_cons (pe_str) (pa_cons (pe_str) pa_nil)))) (by rfl)) (pss_one (ps_ret (pe_c c__law_end_step hr (by decide) rfl (pa_cons (pv 0) (pa_cons (pv 1) (pa_cons (pv 2) pa_nil)))))) pss_nil)
      (pss_one (ps_ret (pe_c c__law_layer_step hr (by decide) rfl (pa_cons (pv 0) (pa_cons (pv 1) (pa_cons (pv 2) pa_nil))))))))))), ?_⟩
    walk_at "lw"
    refine g_cut (fun σ H' => Same H H' ∧ ¬ (m.step.lp = true ∧ r = .lapsed m.cl) ∧ σ = [some (.ref p), some (.ref d), some (.ref t), some (.str m.step.s)]) ?_ ?_
    · cases hs : m.step
      case don => exact absurd hs hnd
      case opn => walk_at "lw"; exact ⟨(by walk_at "lw same"), (fun z => (by cases z.1)), rfl⟩
      case part => walk_at "lw"; exact ⟨(by walk_at "lw same"), (fun z => (by cases z.1)), rfl⟩
      case cls => walk_at "lw"; exact ⟨(by walk_at "lw same"), (fun z => (by cases z.1)), rfl⟩
      all_goals
        walk_at "lw"
        refine g_keq (b := (Rp.lapsed m.cl).b) (Same.at (by walk_at "lw same") ht) rfl (by show 2 ≤ 100; decide) okr o1 fun H1 s1 => ?_
        rw [Rp.b_dec]
        walk_at "lw"
        refine if2 (fun hk => ?_) (fun hk => ?_)
        · have e : nx g m r = some { m with step := .opn, pl := 0 } := by unfold nx; rw [if_pos ⟨by rw [hs]; rfl, hk⟩]
          walk_at "lw"
          exact g_ktup (by show 2 ≤ 100; decide) fun u H3 _ s3 hu3 => lw_same (m := m) e rfl rfl rfl D k u H3 (by walk_at "lw same") hu3
        · walk_at "lw"
          exact ⟨(by walk_at "lw same"), (fun z => hk z.2), rfl⟩
    · rintro σ H' ⟨s0, hn, rfl⟩
      have k : LwQ c H d m (nx' g m r) Q := by
        unfold nx at k
        rw [if_neg hn] at k
        exact k
      cases hs : m.step
      case don => exact absurd hs hnd
      case opn =>
        walk_at "lw"
        refine g_rixT (SqT.of (Same.at (by walk_at "lw same") ht)) r.at0 ?_
        walk_at "lw"
        refine ifn2 (fun hk => ?_) (fun hk => ?_)
        · obtain ⟨c0, rfl⟩ := Rp.k_claim (str_eq.mp hk)
          have e : nx' g m (.claim c0) = some (goL g 0 { m with cl := c0 }) := by unfold nx'; rw [hs]
          walk_at "lw"
          refine g_rixT (SqT.of (Same.at (by walk_at "lw same") ht)) (v := .int c0) rfl ?_
          walk_at "lw"
          refine g_rdputS (kvs := mkS keys5 (mv m)) (by walk_at "lw hp") (by rw [mkS_len]; decide) fun H1 d1 k1 => ?_
          rw [put_claim] at d1
          have st1 : Stp (fun i => i = 2) c c H' H1 := Stp.ch (s0.at hd) D.cd (fun xs z => by cases z) d1 k1
          walk_at "lw"
          refine ⟨c, p, g, n, dn, st, cl, pl, up, a, 0, rfl, (W.same s0).frame st1 (by decide), fun u H5 s5 hu5 => ?_⟩
          walk_at "lw"
          rw [e] at k
          refine k u H5 ⟨D.cd, s5.at d1⟩ (((Stp.same s0).trans st1).trans (Stp.same s5)) ?_
          rw [goL_s]
          exact hu5
        · have e : nx' g m r = none := by
            unfold nx'
            rw [hs]
            cases r <;> first | rfl | exact absurd rfl hk
          walk_at "lw"
          exact g_ktup (by show 2 ≤ 100; decide) fun u H5 _ s5 hu5 => lw_none (m := m) e D k u H5 (by walk_at "lw same") hu5
      case cls =>
        walk_at "lw"
        refine g_ktup (by show 2 ≤ 100; decide) fun t1 H3 _ s3 ht1 => ?_
        walk_at "lw"
        refine g_ktup (by show 2 ≤ 100; decide) fun t2 H4 _ s4 ht2 => ?_
        walk_at "lw"
        refine g_klst (by show 2 ≤ 100; decide) fun q H5 _ s5 hq => ?_
        walk_at "lw"
        refine g_keq (b := (Rp.closed m.cl).b) (Same.at (by walk_at "lw same") ht) rfl (by show 2 ≤ 100; decide) okr o5 fun H6 s6 => ?_
        rw [Rp.b_dec]
        walk_at "lw"
        refine g_rix (SqL.of (s6.at hq)) two_at ?_
        walk_at "lw"
        by_cases hk : r = .closed m.cl
        · have e : nx' g m r = some { m with step := .don, pl := 0 } := by unfold nx'; rw [hs]; dsimp only; rw [if_pos hk]
          rw [if_pos (decide_eq_true hk)]
          exact lw_same (m := m) e rfl rfl rfl D k t2 H6 (by walk_at "lw same") (by walk_at "lw hp")
        · have e : nx' g m r = none := by unfold nx'; rw [hs]; dsimp only; rw [if_neg hk]
          rw [if_neg (by rw [decide_eq_true_eq]; exact hk)]
          exact lw_none (m := m) e D k t1 H6 (by walk_at "lw same") (by walk_at "lw hp")
      case img =>
        walk_at "lw"
        exact ⟨c, p, d, t, g, m, r, n, dn, st, cl, pl, up, a, rfl, W.same (by walk_at "lw same"), D.same (by walk_at "lw same"), ok, wf, Same.at (by walk_at "lw same") ht, okr, .inl hs, LwQ.shift (by walk_at "lw same") k⟩
      case bun =>
        walk_at "lw"
        exact ⟨c, p, d, t, g, m, r, n, dn, st, cl, pl, up, a, rfl, W.same (by walk_at "lw same"), D.same (by walk_at "lw same"), ok, wf, Same.at (by walk_at "lw same") ht, okr, .inr (.inl hs), LwQ.shift (by walk_at "lw same") k⟩
      case nam =>
        walk_at "lw"
        exact ⟨c, p, d, t, g, m, r, n, dn, st, cl, pl, up, a, rfl, W.same (by walk_at "lw same"), D.same (by walk_at "lw same"), ok, wf, Same.at (by walk_at "lw same") ht, okr, .inr (.inr hs), LwQ.shift (by walk_at "lw same") k⟩
      all_goals
        walk_at "lw"
        exact ⟨c, p, d, t, g, m, r, n, dn, st, cl, pl, up, a, rfl, W.same (by walk_at "lw same"), D.same (by walk_at "lw same"), ok, wf, Same.at (by walk_at "lw same") ht, okr, (by show m.step.lay = true; rw [hs]; rfl), LwQ.shift (by walk_at "lw same") k⟩
end
end Lw

namespace Lw
open PySem L2
open PyProof.Rows (envOfC)
/-- a reply stands at v -/
def RepAt (H : Hp) (v : V) : Prop := ∃ (t : Addr) (r : Rp), v = .ref t ∧ H t = some (.tup (r.b.map kV)) ∧ OkB r.b
theorem RepAt.tup {H H' : Hp} {v : V} (h : RepAt H v) (k : ∀ b xs, H b = some (.tup xs) → H' b = some (.tup xs)) : RepAt H' v := by
  obtain ⟨t, r, h1, h2, h3⟩ := h
  exact ⟨t, r, h1, k _ _ h2, h3⟩
/-- a dict of replies -/
def RepD (H : Hp) (F : Addr) : Prop := ∃ kvs : List (Key × V), H F = some (.dK kvs) ∧ kvs.length ≤ 20 ∧ ∀ kv ∈ kvs, RepAt H kv.2
theorem putK_mem {kvs : List (Key × V)} {k : Key} {v : V} {kv : Key × V} (h : kv ∈ putK kvs k v) : kv ∈ kvs ∨ kv.2 = v := by
  unfold putK at h
  split at h
  · obtain ⟨z, hz, e⟩ := List.mem_map.mp h
    split at e
    · right; rw [← e]
    · left; rw [← e]; exact hz
  · rcases List.mem_append.mp h with z | z
    · exact .inl z
    · right; rw [List.mem_singleton.mp z]
theorem putK_len {kvs : List (Key × V)} {k : Key} {v : V} : (putK kvs k v).length ≤ kvs.length + 1 := by
  unfold putK
  split
  · rw [List.length_map]; exact Nat.le_succ _
  · rw [List.length_append]; exact Nat.le_refl _
theorem valV_mem {kvs : List (Key × V)} {k : Key} {v : V} (h : valV kvs k = some v) : ∃ kv ∈ kvs, kv.2 = v := by
  unfold valV at h
  cases e : kvs.find? fun kv => decide (kv.1 = k) with
  | none => rw [e] at h; cases h
  | some kv =>
    rw [e] at h
    exact ⟨kv, List.mem_of_find?_eq_some e, Option.some.inj h⟩
def spRep (C : Addr) : Sp := fun vs H Q _ => ∃ (c : Addr → Nat) (S p d : Addr) (g : G) (m : M) (n : Int) (dn : Bool) (st : Str) (cl pl up a : Int), vs = [.ref S, .ref p, .ref d] ∧ StateAt c H S ∧ PAt C c H p g n dn st cl pl up a ∧ ModAt c H d m ∧ g.Ok ∧ WF g m ∧ m.step ≠ .don ∧
  ∀ (c' : Addr → Nat) (t : Addr) (r : Rp) (H' : Hp), StateAt c' H' S → H' t = some (.tup (r.b.map kV)) → OkB r.b → Stp (fun i => i = 0) c c' H H' → Q (.ref t) H'
theorem _root_.Lw.Stp.grow {I : Nat → Prop} {c c' : Addr → Nat} {H H' H2 : Hp} {p : Addr} {o o' : HO} (s : Stp I c c' H H') (n : H p = none) (h : H' p = some o) (ht : ∀ xs, o ≠ .tup xs) (h2 : H2 p = some o') (k : ∀ b, b ≠ p → H2 b = H' b) : Stp I c c' H H2 :=
  ⟨fun b u e z => by rw [k b (ne_of_none e n)]; exact s.keep b u e z, s.col, fun b xs e => by rw [k b (ne_of_none e n)]; exact s.tup b xs e, fun b e => by
    by_cases z : b = p
    · subst z; exact n
    · rw [k b z] at e; exact s.fre b e⟩
/-- replies under way: a dict of them at F, own and new -/
structure RB (c0 : Addr → Nat) (H0 : Hp) (S F : Addr) (n : Nat) (c : Addr → Nat) (H : Hp) : Prop where
  S : StateAt c H S
  cf : c F = 9
  nF : H0 F = none
  rep : ∃ kvs : List (Key × V), H F = some (.dK kvs) ∧ kvs.length ≤ n ∧ ∀ kv ∈ kvs, RepAt H kv.2
  st : Stp (fun i => i = 0) c0 c H0 H
section
variable {c0 c c' : Addr → Nat} {H0 H H' : Hp} {S F : Addr} {n : Nat}
theorem RB.step (B : RB c0 H0 S F n c H) (S' : StateAt c' H' S) (s : Stp (fun i => i = 0) c c' H H') : RB c0 H0 S F n c' H' := by
  obtain ⟨kvs, h1, h2, h3⟩ := B.rep
  exact ⟨S', by rw [s.col _ _ h1, B.cf], B.nF, ⟨kvs, s.keep _ _ h1 (by rw [B.cf]; decide), h2, fun kv hk => (h3 kv hk).tup s.tup⟩, B.st.trans s⟩
theorem RB.same (B : RB c0 H0 S F n c H) (s : Same H H') : RB c0 H0 S F n c H' := B.step (B.S.frame (I := fun _ => False) (Stp.same s) (by decide)) (Stp.same s)
theorem RB.put {R : Hp → Prop} {z : Str} {v : V} (B : RB c0 H0 S F n c H) (hn : n < 1000) (rv : RepAt H v) (k : ∀ H', RB c0 H0 S F (n + 1) c H' → (∀ b xs, H b = some (.tup xs) → H' b = some (.tup xs)) → R H') : rDPut (.ref F) (.str z) v H R := by
  obtain ⟨kvs, h1, h2, h3⟩ := B.rep
  refine g_rdputS h1 (by omega) fun H' p' k' => ?_
  have tp : ∀ b xs, H b = some (.tup xs) → H' b = some (.tup xs) := fun b xs e => by rw [k' b (ne_of e h1 (by intro z; cases z))]; exact e
  refine k H' ⟨B.S.frame (I := fun i => i = 9) (Stp.ch h1 B.cf (fun xs z => by cases z) p' k') (by decide), B.cf, B.nF, ⟨_, p', Nat.le_trans putK_len (Nat.succ_le_succ h2), fun kv hk => ?_⟩, B.st.grow B.nF h1 (fun xs z => by cases z) p' k'⟩ tp
  rcases putK_mem hk with z | z
  · exact (h3 kv z).tup tp
  · rw [z]; exact rv.tup tp
end
theorem mergeK_mem : ∀ {more kvs : List (Key × V)} {kv : Key × V}, kv ∈ mergeK kvs more → kv ∈ kvs ∨ ∃ z ∈ more, z.2 = kv.2
  | [], _, _, h => .inl h
  | m :: more, kvs, kv, h => by
    have h : kv ∈ mergeK (putK kvs m.1 m.2) more := h
    rcases mergeK_mem h with z | ⟨z, z1, z2⟩
    · rcases putK_mem z with q | q
      · exact .inl q
      · exact .inr ⟨m, List.mem_cons_self, q.symm⟩
    · exact .inr ⟨z, List.mem_cons_of_mem _ z1, z2⟩
theorem mergeK_len : ∀ {more kvs : List (Key × V)}, (mergeK kvs more).length ≤ kvs.length + more.length
  | [], _ => Nat.le_refl _
  | m :: more, kvs => by
    have h := mergeK_len (more := more) (kvs := putK kvs m.1 m.2)
    have h2 := putK_len (kvs := kvs) (k := m.1) (v := m.2)
    show (mergeK (putK kvs m.1 m.2) more).length ≤ _
    rw [List.length_cons]
    omega
theorem pick01 {r : Int} (h0 : 0 ≤ r) (h1 : r < 4) : ∃ z : Int, atI ([.int 0, .int 0, .int 0, .int 1] : List V) r = some (.int z) := by
  have : r = 0 ∨ r = 1 ∨ r = 2 ∨ r = 3 := by omega
  rcases this with rfl | rfl | rfl | rfl
  · exact ⟨0, rfl⟩
  · exact ⟨0, rfl⟩
  · exact ⟨0, rfl⟩
  · exact ⟨1, rfl⟩
theorem inHF (x : St9) : inV (V.str x.s) [V.str "has", V.str "finish"] = (decide (x = .has) || decide (x = .fin)) := by cases x <;> decide +kernel
theorem inIB (x : St9) : inV (V.str x.s) [V.str "image", V.str "bundle"] = (decide (x = .img) || decide (x = .bun)) := by cases x <;> decide +kernel
theorem isNam (x : St9) : decide (V.str x.s = V.str "name") = decide (x = .nam) := by rw [decide_eq_decide, str_eq]; cases x <;> decide +kernel
theorem st_flat {x : Str} : flatV (.str x) = true := rfl
section
variable {P : Program} {w : World} {K : PySem.W.Frag} {mg : Str → Option Value} {base : Heap} {C_Pusher a_KINDS : Addr}
theorem ok__law_reply (T : Txt w K mg C_Pusher a_KINDS) : Cal P w K mg base 4 "_law_reply" (spRep C_Pusher) := by
  have c__law_take : Cal P w K mg base 1 "_law_take" spTake := ok__law_take T
  have c_address_of : Cal P w K mg base 1 "address_of" spAddr := ok_address_of T
  have c__law_layer : Cal P w K mg base 2 "_law_layer" (spLL C_Pusher) := ok__law_layer T
  have c__law_blobs : Cal P w K mg base 2 "_law_blobs" (spBlobs C_Pusher) := ok__law_blobs T
  have c__law_target : Cal P w K mg base 3 "_law_target" (spTgt C_Pusher) := ok__law_target T
  refine cal_mk T.d__law_reply sc__law_reply (fun vs H Q E h => ?_) (fun f cdv A outer s H vs Q E hr h => ?_)
  · obtain ⟨c, S, p, d, g, m, n, dn, st, cl, pl, up, a, rfl, _⟩ := h
    rfl
  · obtain ⟨c, S, p, d, g, m, n, dn, st, cl, pl, up, a, rfl, S0, W, D, ok, wf, hnd, k⟩ := h
    have hu := hu_of hr
    refine ⟨_, (pss_cons (ps_set (i := 3) sc__law_reply.nd rfl (by first | exact Or.inl rfl | exact Or.inr rfl) (pe_c c__law_take hr (by decide) rfl (pa_cons (pv 0) (pa_cons (pe_int) pa_nil))))
      (pss_cons (ps_set (i := 4) sc__law_reply.nd rfl (by first | exact Or.inl rfl | exact Or.inr rfl) (pe_dget hu (pv 2) (pe_str) (fun _ _ => rfl)))
      (pss_cons (ps_set (i := 5) sc__law_reply.nd rfl (by first | exact Or.inl rfl | exact Or.inr rfl) (pe_op op_add (pe_dget hu (pv 2) (pe_str) (fun _ _ => rfl)) (pe_ix ix_list (pe_lst (pa_cons (pe_int) (pa_cons (pe_int) (pa_cons (pe_int) (pa_cons (pe_int) pa_nil))))) (pe_c c__law_take hr (by decide) rfl (pa_cons (pv 0) (pa_cons (pe_int) pa_nil))) (fun _ _ => rfl))))
      (pss_cons (ps_set (i := 6) sc__law_reply.nd rfl (by first | exact Or.inl rfl | exact Or.inr rfl) (pe_op op_add (pe_dget hu (pv 2) (pe_str) (fun _ _ => rfl)) (pe_ix ix_list (pe_lst (pa_cons (pe_int) (pa_cons (pe_int) (pa_cons (pe_int) (pa_cons (pe_int) pa_nil))))) (pe_c c__law_take hr (by decide) rfl (pa_cons (pv 0) (pa_cons (pe_int) pa_nil))) (fun _ _ => rfl))))
      (pss_cons (ps_set (i := 7) sc__law_reply.nd rfl (by first | exact Or.inl rfl | exact Or.inr rfl) (pe_str))
      (C8.pss_cut (ps_if (PW.pt (pw_and (pt_cmpR op_in_seq (pv 4) (pe_lst (pa_cons (pe_str) (pa_cons (pe_str) pa_nil))) (by rfl)) (pw_and1 (pt_cmpR op_gt (pe_c c__law_take hr (by decide) rfl (pa_cons (pv 0) (pa_cons (pe_int) pa_nil))) (pe_int) (nomark _))))) (pss_one (ps_set (i := 7) sc__law_reply.nd rfl (by first | exact Or.inl rfl | exact Or.inr rfl) (pe_c c__law_layer hr (by decide) rfl (pa_cons (pv 1) (pa_cons (pv 2) pa_nil))))) pss_nil)
      (C8.pss_cut (ps_if (PW.pt (pw_and (pt_cmpR op_in_seq (pv 4) (pe_lst (pa_cons (pe_str) (pa_cons (pe_str) pa_nil))) (by rfl)) (pw_and1 (pt_cmpR op_gt (pe_c c__law_take hr (by decide) rfl (pa_cons (pv 0) (pa_cons (pe_int) pa_nil))) (pe_int) (nomark _))))) (pss_one (ps_set (i := 7) sc__law_reply.nd rfl (by first | exact Or.inl rfl | exact Or.inr rfl) (pe_c c_address_of hr (by decide) rfl (pa_cons (pv 4) (pa_cons (pe_ix ix_list (pe_lc (own := [("_law_blob", 10)]) (g := (gName 10)) (by rfl) sc__law_reply.nd (pi_list (pe_c c__law_blobs hr (by decide) rfl (pa_cons (pv 1) pa_nil))) (blkOk_by (own := [("_law_blob", 10)]) (N := n__law_reply) (sc := defScope s__law_reply) (by decide +kernel)) (fun _ _ _ _ _ => (pg_name (i := 10) sc__law_reply.nd rfl (by first | exact Or.inl rfl | exact Or.inr rfl))) (fun _ _ _ _ _ => (pts_one (pt_cmpR op_eq (pe_ix (ix_tupK K rfl) (pv 10) (pe_int) (fun _ _ => rfl)) (pv 4) (nomark _)))) (fun _ _ _ _ _ => (pe_ix (ix_tupK K rfl) (pv 10) (pe_int) (fun _ _ => rfl)))) (pe_int) (fun _ _ => rfl)) pa_nil))))) pss_nil)
      (C8.pss_cut (ps_if (PW.pt (pw_and (pt_cmpR op_eq (pv 4) (pe_str) (nomark _)) (pw_and1 (pt_cmpR op_gt (pe_c c__law_take hr (by decide) rfl (pa_cons (pv 0) (pa_cons (pe_int) pa_nil))) (pe_int) (nomark _))))) (pss_one (ps_set (i := 7) sc__law_reply.nd rfl (by first | exact Or.inl rfl | exact Or.inr rfl) (pe_c c__law_target hr (by decide) rfl (pa_cons (pv 1) pa_nil)))) pss_nil)
      (pss_cons (ps_set (i := 8) sc__law_reply.nd rfl (by first | exact Or.inl rfl | exact Or.inr rfl) (pe_disp (pps_cons (pe_str) (pe_tup (pa_cons (pe_str) (pa_cons (pe_op op_add (pe_int) (pe_c c__law_take hr (by decide) rfl (pa_cons (pv 0) (pa_cons (pe_int) pa_nil)))) pa_nil))) (pps_cons (pe_str) (pe_tup (pa_cons (pe_str) (pa_cons (pv 7) pa_nil))) (pps_cons (pe_str) (pe_tup (pa_cons (pe_str) (pa_cons (pe_op op_add (pe_int) (pe_c c__law_take hr (by decide) rfl (pa_cons (pv 0) (pa_cons (pe_int) pa_nil)))) pa_nil))) pps_nil))) (by rfl) (by rfl) (fun z => by cases z) (by decide)))
      (pss_cons (ps_dput hu (pv 8) (pe_str) (pe_tup (pa_cons (pe_str) (pa_cons (pv 6) (pa_cons (pe_callB (call_min2 rfl) (by rfl) T.n_min (by decide +kernel) (pa_cons (pe_op op_sub (pe_op op_add (pe_dget hu (pv 2) (pe_str) (fun _ _ => rfl)) (pe_int)) (pe_c c__law_take hr (by decide) rfl (pa_cons (pv 0) (pa_cons (pe_int) pa_nil)))) (pa_cons (pe_int) pa_nil))) pa_nil)))) rfl)
      (pss_cons (ps_dput hu (pv 8) (pe_str) (pe_tup (pa_cons (pe_str) (pa_cons (pv 7) pa_nil))) rfl)
      (pss_cons (ps_dput hu (pv 8) (pe_str) (pe_tup (pa_cons (pe_str) (pa_cons (pv 7) pa_nil))) rfl)
      (pss_cons (ps_dput hu (pv 8) (pe_str) (pe_tup (pa_cons (pe_str) (pa_cons (pv 7) pa_nil))) rfl)
      (pss_cons (ps_dput hu (pv 8) (pe_str) (pe_tup (pa_cons (pe_str) (pa_cons (pe_fld (pv 1) rfl) (pa_cons (pv 7) pa_nil)))) rfl)
      (pss_cons (ps_dput hu (pv 8) (pe_str) (pe_tup (pa_cons (pe_str) (pa_cons (pv 5) pa_nil))) rfl)
      (C8.pss_cut (ps_if (pt_cmpR op_lt (pv 3) (pe_int) (nomark _)) (pss_one (ps_ret (pe_dget2 hu (pv 8) (pv 4) (pe_tup (pa_cons (pe_str) pa_nil)) ⟨rfl, by rfl, rfl, rfl⟩))) pss_nil)
      (pss_cons (ps_set (i := 9) sc__law_reply.nd rfl (by first | exact Or.inl rfl | exact Or.inr rfl) (pe_lst (pa_cons (pe_tup (pa_cons (pe_str) (pa_cons (pv 7) pa_nil))) (pa_cons (pe_tup (pa_cons (pe_str) (pa_cons (pv 6) pa_nil))) (pa_cons (pe_tup (pa_cons (pe_str) (pa_cons (pv 7) pa_nil))) (pa_cons (pe_tup (pa_cons (pe_str) (pa_cons (pv 5) pa_nil))) (pa_cons (pe_tup (pa_cons (pe_str) pa_nil)) pa_nil)))))))
      (pss_cons (ps_set (i := 9) sc__law_reply.nd rfl (by first | exact Or.inl rfl | exact Or.inr rfl) (pe_op op_cat (pv 9) (pe_lst (pa_cons (pe_tup (pa_cons (pe_str) (pa_cons (pv 7) pa_nil))) (pa_cons (pe_tup (pa_cons (pe_str) (pa_cons (pv 7) pa_nil))) (pa_cons (pe_tup (pa_cons (pe_str) (pa_cons (pe_str) (pa_cons (pv 7) pa_nil)))) pa_nil))))))
      (pss_one (ps_ret (pe_ix ix_list (pv 9) (pe_op op_sub (pv 3) (pe_int)) (fun _ _ => rfl)))))))))))))))))))))), ?_⟩
    walk_at "lw"
    refine ⟨c, S, 20, rfl, S0, by decide, by decide, fun kd c1 H1 kd0 kd1 S1 st1 => ?_⟩
    have D1 := (D.frame st1 (by decide)).hd
    walk_at "lw"
    refine g_klst (by show 4 ≤ 100; decide) fun q H2 nq s2 hq => ?_
    have st2 := st1.trans (L2x_sameN (i := 9) s2 nq)
    have S2 := S1.frame (I := fun _ => False) (L2x_sameN (i := 9) s2 nq) (by decide)
    walk_at "lw"
    refine ⟨_, S, 4, rfl, S2, by decide, by decide, fun r c3 H3 r0 r1 S3 st3 => ?_⟩
    obtain ⟨z, hz⟩ := pick01 r0 r1
    refine g_rix (SqL.of (st3.keep _ _ hq (by rw [Stp.paint_same]; decide))) hz ?_
    have st3 := st2.trans st3
    clear S1 st1 st2 S2 D1
    have D3 := (D.frame st3 (by decide)).hd
    walk_at "lw"
    refine g_klst (by show 4 ≤ 100; decide) fun q H4 nq s4 hq => ?_
    have st4 := st3.trans (L2x_sameN (i := 9) s4 nq)
    have S4 := S3.frame (I := fun _ => False) (L2x_sameN (i := 9) s4 nq) (by decide)
    walk_at "lw"
    refine ⟨_, S, 4, rfl, S4, by decide, by decide, fun r c5 H5 r0 r1 S5 st5 => ?_⟩
    obtain ⟨z5, hz5⟩ := pick01 r0 r1
    refine g_rix (SqL.of (st5.keep _ _ hq (by rw [Stp.paint_same]; decide))) hz5 ?_
    have st5 := st4.trans st5
    clear S3 st3 st4 S4 D3
    walk_at "lw"
    generalize hcl : m.cl + z = cl5
    generalize hup : m.up + z5 = up5
    refine g_cut (fun σ H' => ∃ (c' : Addr → Nat) (x : Str), σ = [some (.ref S), some (.ref p), some (.ref d), some (.int kd), some (.str m.step.s), some (.int cl5), some (.int up5), some (.str x), none, none, none] ∧ StateAt c' H' S ∧ Stp (fun i => i = 0) c c' H H' ∧ PyData.strOk x = true) ?_ ?_
    · walk_at "lw"
      refine g_kinL (by show 2 ≤ 100; decide) rfl rfl (inHF _) fun H6 s6 => ?_
      have st6 := st5.trans (Stp.same s6)
      have S6 := S5.frame (I := fun _ => False) (Stp.same s6) (by decide)
      walk_at "lw"
      refine ifb (fun hb => ?_) (fun hb => ?_)
      · walk_at "lw"
        refine ⟨_, S, 6, rfl, S6, by decide, by decide, fun r c7 H7 r0 r1 S7 st7 => ?_⟩
        have st7 := st6.trans st7
        walk_at "lw"
        refine if2 (fun hr => ?_) (fun hr => ?_)
        · walk_at "lw"
          have hlay : m.step.lay = true := by
            rw [Bool.or_eq_true, decide_eq_true_eq, decide_eq_true_eq] at hb
            rcases hb with h | h <;> rw [h] <;> rfl
          refine ⟨c7, p, d, g, m, n, dn, st, cl, pl, up, a, rfl, W.frame st7 (by decide), D.frame st7 (by decide), wf, hlay, ?_⟩
          walk_at "lw"
          exact ⟨c7, _, rfl, S7, st7, okAdrS g m⟩
        · walk_at "lw"
          exact ⟨c7, _, rfl, S7, st7, by decide +kernel⟩
      · walk_at "lw"
        exact ⟨c5, _, rfl, S6, st6, by decide +kernel⟩
    clear S5 st5 hq s4
    rintro σ H6 ⟨c6, x6, rfl, S6, st6, hx6⟩
    refine g_cut (fun σ H' => ∃ (c' : Addr → Nat) (x : Str), σ = [some (.ref S), some (.ref p), some (.ref d), some (.int kd), some (.str m.step.s), some (.int cl5), some (.int up5), some (.str x), none, none, none] ∧ StateAt c' H' S ∧ Stp (fun i => i = 0) c c' H H' ∧ PyData.strOk x = true) ?_ ?_
    · walk_at "lw"
      refine g_kinL (by show 2 ≤ 100; decide) rfl rfl (inIB _) fun H7 s7 => ?_
      have st7 := st6.trans (Stp.same s7)
      have S7 := S6.frame (I := fun _ => False) (Stp.same s7) (by decide)
      walk_at "lw"
      refine ifb (fun hb => ?_) (fun hb => ?_)
      · walk_at "lw"
        refine ⟨_, S, 6, rfl, S7, by decide, by decide, fun r c8 H8 r0 r1 S8 st8 => ?_⟩
        have st8 := st7.trans st8
        walk_at "lw"
        refine if2 (fun hr => ?_) (fun hr => ?_)
        · have hsb : m.step = .img ∨ (m.step = .bun ∧ g.pf.isSome = true) := by
            rw [Bool.or_eq_true, decide_eq_true_eq, decide_eq_true_eq] at hb
            rcases hb with h | h
            · exact .inl h
            · exact .inr ⟨h, wf.bun h⟩
          have hk : m.step.s ∈ kinds3 := by rcases hsb with h | ⟨h, _⟩ <;> rw [h] <;> decide +kernel
          have hbp := BL_pick hsb
          walk_at "lw"
          refine ⟨c8, p, g, n, dn, st, cl, pl, up, a, rfl, W.frame st8 (by decide), ok, fun b H9 s9 hb1 => ?_⟩
          obtain ⟨ts, t1, t2, t3⟩ := hb1
          have hz : ts.length ≤ 100000 := by
            have e := congrArg List.length t1
            rw [List.length_map] at e
            rw [e]
            unfold BL
            rw [List.length_append, List.length_append, List.length_map]
            have := ok.l1
            cases g.pf with
            | none => show _ + 1 + 0 ≤ _; omega
            | some q => show _ + 1 + 1 ≤ _; omega
          refine g_ritL (xs := ts.map fun e => V.ref e.1) (SqL.of (by walk_at "lw hp")) ?_
          refine lc_map (G := fun H' => SqL K H' b (ts.map fun e => V.ref e.1)) walk_list (fun H' s => SqL.of (s _ _ (by walk_at "lw hp"))) (by rw [List.length_map]; exact hz) (pP H9 m.step.s) (pF H9) ?_ ?_
          · intro x hx H' R s2 kk
            obtain ⟨e, he, rfl⟩ := List.mem_map.mp hx
            have he1 := t3 e he
            walk_at "lw"
            refine kk _ rfl (fun H'' R s3 r => ?_) (fun hp H'' R s3 r => ?_)
            · walk_at "lw"
              refine g_rixT (xs := [.str e.2.1, strS e.2.2]) (SqT.of (by walk_at "lw hp")) (v := .str e.2.1) rfl ?_
              walk_at "lw"
              rw [pP_at he1] at r
              rw [show decide (V.str e.2.1 = V.str m.step.s) = decide (e.2.1 = m.step.s) by rw [decide_eq_decide]; exact str_eq]
              exact r
            · walk_at "lw"
              refine g_rixT (xs := [.str e.2.1, strS e.2.2]) (SqT.of (by walk_at "lw hp")) (v := strS e.2.2) rfl ?_
              walk_at "lw"
              rw [pF_at he1] at r
              exact r _ (Same.refl _)
          · intro q HA nq sA hq
            rw [pick_list t3, t1, hbp] at hq
            walk_at "lw"
            refine g_rix (SqL.of hq) (v := strS (blobT g m.step)) rfl ?_
            walk_at "lw"
            refine ⟨m.step.s, blobT g m.step, rfl, hk, ?_⟩
            walk_at "lw"
            have sA := Stp.same (I := fun i => i = 0) (c := c8) (s9.trans sA)
            exact ⟨c8, _, rfl, S8.frame (I := fun i => False) (Stp.same (s9.trans ‹Same H9 HA›)) (by decide), st8.trans sA, okAdr _ _⟩
        · walk_at "lw"
          exact ⟨c8, _, rfl, S8, st8, hx6⟩
      · walk_at "lw"
        exact ⟨c6, _, rfl, S7, st7, hx6⟩
    clear S6 st6 hx6 x6 c6 H6
    rintro σ H6 ⟨c6, x6, rfl, S6, st6, hx6⟩
    refine g_cut (fun σ H' => ∃ (c' : Addr → Nat) (x : Str), σ = [some (.ref S), some (.ref p), some (.ref d), some (.int kd), some (.str m.step.s), some (.int cl5), some (.int up5), some (.str x), none, none, none] ∧ StateAt c' H' S ∧ Stp (fun i => i = 0) c c' H H' ∧ PyData.strOk x = true) ?_ ?_
    · walk_at "lw"
      refine ifb (fun hb => ?_) (fun hb => ?_)
      · walk_at "lw"
        refine ⟨_, S, 6, rfl, S6, by decide, by decide, fun r c8 H8 r0 r1 S8 st8 => ?_⟩
        have st8 := st6.trans st8
        walk_at "lw"
        refine if2 (fun hr => ?_) (fun hr => ?_)
        · walk_at "lw"
          refine ⟨c8, p, g, n, dn, st, cl, pl, up, a, rfl, W.frame st8 (by decide), ok, fun H9 s9 => ?_⟩
          walk_at "lw"
          exact ⟨c8, _, rfl, S8.frame (I := fun i => False) (Stp.same s9) (by decide), st8.trans (Stp.same s9), okTgt g⟩
        · walk_at "lw"
          exact ⟨c8, _, rfl, S8, st8, hx6⟩
      · walk_at "lw"
        exact ⟨c6, _, rfl, S6, st6, hx6⟩
    clear S6 st6 hx6 x6 c6 H6
    rintro σ H6 ⟨c6, x6, rfl, S6, st6, hx6⟩
    have okA : OkB (Rp.kept x6).b := okbS (by decide +kernel) (okbS hx6 okb0)
    walk_at "lw"
    refine g_disp fun F H7 nF s7 hF => ?_
    have st7 := st6.trans (L2x_sameN (i := 9) s7 nF)
    have S7 := S6.frame (I := fun _ => False) (L2x_sameN (i := 9) s7 nF) (by decide)
    have nF0 : H F = none := st6.fre F nF
    have cF : (Stp.paint c6 F 9) F = 9 := Stp.paint_same
    generalize Stp.paint c6 F 9 = c7 at st7 S7 cF
    walk_at "lw"
    refine ⟨c7, S, 9, rfl, S7, by decide, by decide, fun r8 c8 H8 _ _ S8 st8 => ?_⟩
    walk_at "lw"
    refine g_ktup (by show 2 ≤ 100; decide) fun t1 H9 _ s9 ht1 => ?_
    walk_at "lw"
    refine g_ktup (by show 2 ≤ 100; decide) fun t2 H10 _ s10 ht2 => ?_
    walk_at "lw"
    have S10 := S8.frame (I := fun _ => False) (Stp.same (s9.trans s10)) (by decide)
    refine ⟨c8, S, 9, rfl, S10, by decide, by decide, fun r11 c11 H11 _ _ S11 st11 => ?_⟩
    walk_at "lw"
    refine g_ktup (by show 2 ≤ 100; decide) fun t3 H12 _ s12 ht3 => ?_
    walk_at "lw"
    have st8c : c8 F = 9 := by rw [st8.col _ _ hF, cF]
    have hF8 := st8.keep _ _ hF (by rw [cF]; decide)
    have hF10 := (s9.trans s10).at hF8
    have hF11 := st11.keep _ _ hF10 (by rw [st8c]; decide)
    have cF11 : c11 F = 9 := by rw [st11.col _ _ hF10, st8c]
    refine g_rdisp (kvs := [(kS "open", .ref t1), (kS "has", .ref t2), (kS "start", .ref t3)]) (s12.at hF11) rfl (by show 3 ≤ 15; decide) fun H13 hF13 k13 => ?_
    have tp : ∀ b xs, H12 b = some (.tup xs) → H13 b = some (.tup xs) := fun b xs e => by rw [k13 b (ne_of e (s12.at hF11) (by intro z; cases z))]; exact e
    have st12 : Stp (fun i => i = 0) c c11 H H12 := (((st7.trans st8).trans (Stp.same (s9.trans s10))).trans st11).trans (Stp.same s12)
    have B : RB c H S F 3 c11 H13 := by
      refine ⟨(S11.frame (I := fun _ => False) (Stp.same s12) (by decide)).frame (I := fun i => i = 9) (Stp.ch (s12.at hF11) cF11 (fun xs z => by cases z) hF13 k13) (by decide), cF11, nF0, ⟨_, hF13, mergeK_len, fun kv hk => ?_⟩, st12.grow nF0 (s12.at hF11) (fun xs z => by cases z) hF13 k13⟩
      have m1 : RepAt H13 (.ref t1) := ⟨t1, .claim (1 + r8), rfl, tp _ _ (s12 _ _ (st11.tup _ _ (s10 _ _ ht1))), okbS (by decide +kernel) (okbI okb0)⟩
      have m2 : RepAt H13 (.ref t2) := ⟨t2, .kept x6, rfl, tp _ _ (s12 _ _ (st11.tup _ _ ht2)), okA⟩
      have m3 : RepAt H13 (.ref t3) := ⟨t3, .upload (1 + r11), rfl, tp _ _ ht3, okbS (by decide +kernel) (okbI okb0)⟩
      rcases mergeK_mem hk with z | ⟨z, z1, z2⟩
      · cases z
      · rw [← z2]
        simp only [List.mem_cons, List.not_mem_nil, or_false] at z1
        rcases z1 with rfl | rfl | rfl
        · exact m1
        · exact m2
        · exact m3
    clear S6 st6 s7 hF st7 S7 cF S8 st8 s9 ht1 s10 ht2 S10 S11 st11 s12 ht3 st8c hF8 hF10 hF11 cF11 hF13 k13 tp st12 nF
    generalize c11 = c12 at B
    have D13 := (D.frame B.st (by decide)).hd
    walk_at "lw"
    refine ⟨c12, S, 2, rfl, B.S, by decide, by decide, fun r14 c14 H14 _ _ S14 st14 => ?_⟩
    have B := B.step S14 st14
    walk_at "lw"
    refine ⟨_, _, rfl, ?_⟩
    walk_at "lw"
    generalize (if (9 : Int) < m.a + 4 - r14 then (9 : Int) else m.a + 4 - r14) = a14
    refine g_ktup (by show 3 ≤ 100; decide) fun u1 H15 _ s15 hu1 => ?_
    walk_at "lw"
    refine (B.same s15).put (by decide) ⟨u1, .have' up5 a14, rfl, hu1, okbS (by decide +kernel) (okbI (okbI okb0))⟩ fun H16 B tp16 => ?_
    walk_at "lw"
    refine g_ktup (by show 2 ≤ 100; decide) fun u2 H17 _ s17 hu2 => ?_
    walk_at "lw"
    refine (B.same s17).put (by decide) ⟨u2, .kept x6, rfl, hu2, okA⟩ fun H18 B tp18 => ?_
    walk_at "lw"
    refine g_ktup (by show 2 ≤ 100; decide) fun u3 H19 _ s19 hu3 => ?_
    walk_at "lw"
    refine (B.same s19).put (by decide) ⟨u3, .kept x6, rfl, hu3, okA⟩ fun H20 B tp20 => ?_
    walk_at "lw"
    refine g_ktup (by show 2 ≤ 100; decide) fun u4 H21 _ s21 hu4 => ?_
    walk_at "lw"
    refine (B.same s21).put (by decide) ⟨u4, .kept x6, rfl, hu4, okA⟩ fun H22 B tp22 => ?_
    obtain ⟨dx, l, _, hp22, _⟩ := (W.frame B.st (by decide)).ex
    walk_at "lw"
    refine g_ktup (by show 3 ≤ 100; decide) fun u5 H23 _ s23 hu5 => ?_
    walk_at "lw"
    refine (B.same s23).put (by decide) ⟨u5, .named g.nm x6, rfl, hu5, okbS (by decide +kernel) (okbS ok.nm (okbS hx6 okb0))⟩ fun H24 B tp24 => ?_
    walk_at "lw"
    refine g_ktup (by show 2 ≤ 100; decide) fun u6 H25 _ s25 hu6 => ?_
    walk_at "lw"
    refine (B.same s25).put (by decide) ⟨u6, .closed cl5, rfl, hu6, okbS (by decide +kernel) (okbI okb0)⟩ fun H26 B tp26 => ?_
    clear tp16 tp18 tp20 tp22 tp24 tp26 s15 s17 s19 s21 s23 s25 hu1 hu2 hu3 hu4 hu5 hu6 hp22 st14 S14 D13
    walk_at "lw"
    refine g_cut (fun σ H' => σ = [some (.ref S), some (.ref p), some (.ref d), some (.int kd), some (.str m.step.s), some (.int cl5), some (.int up5), some (.str x6), some (.ref F), none, none] ∧ H' = H26 ∧ 12 ≤ kd) ?_ ?_
    · walk_at "lw"
      refine if2 (fun hk => ?_) (fun hk => ?_)
      · walk_at "lw"
        obtain ⟨kvs, h1, h2, h3⟩ := B.rep
        refine g_dget2 ?_
        walk_at "lw"
        refine ⟨F, rfl, .inl ⟨kvs, .of h1⟩, ?_⟩
        walk_at "lw"
        refine g_ktup (by show 1 ≤ 100; decide) fun u7 H27 _ s27 hu7 => ?_
        refine ⟨_, .inl ⟨kvs, kS m.step.s, .of (s27.at h1), rfl, rfl⟩, ?_⟩
        have B := B.same s27
        cases hv : valV kvs (kS m.step.s) with
        | none => exact k _ u7 .malformed H27 B.S hu7 (okbS (by decide +kernel) okb0) B.st
        | some v =>
          obtain ⟨kv, hm, rfl⟩ := valV_mem hv
          obtain ⟨t, r, e1, e2, e3⟩ := h3 kv hm
          show Q kv.2 H27
          rw [e1]
          exact k _ t r H27 B.S (s27.at e2) e3 B.st
      · walk_at "lw"
        exact ⟨rfl, rfl, by have : ¬ kd < 12 := fun z => hk z; omega⟩
    · rintro σ H' ⟨rfl, rfl, hk12⟩
      walk_at "lw"
      refine g_ktup (by show 2 ≤ 100; decide) fun v1 H27 _ s27 hv1 => ?_
      walk_at "lw"
      refine g_ktup (by show 2 ≤ 100; decide) fun v2 H28 _ s28 hv2 => ?_
      walk_at "lw"
      refine g_ktup (by show 2 ≤ 100; decide) fun v3 H29 _ s29 hv3 => ?_
      walk_at "lw"
      refine g_ktup (by show 2 ≤ 100; decide) fun v4 H30 _ s30 hv4 => ?_
      walk_at "lw"
      refine g_ktup (by show 1 ≤ 100; decide) fun v5 H31 _ s31 hv5 => ?_
      walk_at "lw"
      refine g_klst (by show 5 ≤ 100; decide) fun q1 H32 _ s32 hq1 => ?_
      walk_at "lw"
      refine g_ktup (by show 2 ≤ 100; decide) fun v6 H33 _ s33 hv6 => ?_
      walk_at "lw"
      refine g_ktup (by show 2 ≤ 100; decide) fun v7 H34 _ s34 hv7 => ?_
      walk_at "lw"
      refine g_ktup (by show 3 ≤ 100; decide) fun v8 H35 _ s35 hv8 => ?_
      walk_at "lw"
      refine g_klst (by show 3 ≤ 100; decide) fun q2 H36 _ s36 hq2 => ?_
      refine g_cat ((((s33.trans s34).trans s35).trans s36).at hq1) hq2 (by show 5 + 3 ≤ 100000; decide) fun q3 H37 _ s37 hq3 => ?_
      walk_at "lw"
      have o1 : OkB (Rp.lacks x6).b := okbS (by decide +kernel) (okbS hx6 okb0)
      have o2 : OkB (Rp.gone up5).b := okbS (by decide +kernel) (okbI okb0)
      have o3 : OkB (Rp.wrong x6).b := okbS (by decide +kernel) (okbS hx6 okb0)
      have o4 : OkB (Rp.lapsed cl5).b := okbS (by decide +kernel) (okbI okb0)
      have o5 : OkB Rp.malformed.b := okbS (by decide +kernel) okb0
      have o8 : OkB (Rp.named "other" x6).b := okbS (by decide +kernel) (okbS (by decide +kernel) (okbS hx6 okb0))
      have c36 := s36.trans s37
      have c35 := s35.trans c36
      have c34 := s34.trans c35
      have c32 := (s32.trans s33).trans c34
      have c31 := s31.trans c32
      have c30 := s30.trans c31
      have c29 := s29.trans c30
      have c28 := s28.trans c29
      have B := B.same (s27.trans c28)
      clear s27 s28 s29 s30 s31 s32 s33 s34 s35 s36 s37 hq1 hq2
      have cs : kd = 12 ∨ kd = 13 ∨ kd = 14 ∨ kd = 15 ∨ kd = 16 ∨ kd = 17 ∨ kd = 18 ∨ kd = 19 := by omega
      rcases cs with rfl | rfl | rfl | rfl | rfl | rfl | rfl | rfl
      · refine g_rix (SqL.of hq3) (v := .ref v1) rfl ?_
        walk_at "lw"
        exact k _ v1 (.lacks x6) H37 B.S (c28.at hv1) o1 B.st
      · refine g_rix (SqL.of hq3) (v := .ref v2) rfl ?_
        walk_at "lw"
        exact k _ v2 (.gone up5) H37 B.S (c29.at hv2) o2 B.st
      · refine g_rix (SqL.of hq3) (v := .ref v3) rfl ?_
        walk_at "lw"
        exact k _ v3 (.wrong x6) H37 B.S (c30.at hv3) o3 B.st
      · refine g_rix (SqL.of hq3) (v := .ref v4) rfl ?_
        walk_at "lw"
        exact k _ v4 (.lapsed cl5) H37 B.S (c31.at hv4) o4 B.st
      · refine g_rix (SqL.of hq3) (v := .ref v5) rfl ?_
        walk_at "lw"
        exact k _ v5 .malformed H37 B.S (c32.at hv5) o5 B.st
      · refine g_rix (SqL.of hq3) (v := .ref v6) rfl ?_
        walk_at "lw"
        exact k _ v6 (.kept x6) H37 B.S (c34.at hv6) okA B.st
      · refine g_rix (SqL.of hq3) (v := .ref v7) rfl ?_
        walk_at "lw"
        exact k _ v7 (.lacks x6) H37 B.S (c35.at hv7) o1 B.st
      · refine g_rix (SqL.of hq3) (v := .ref v8) rfl ?_
        walk_at "lw"
        exact k _ v8 (.named "other" x6) H37 B.S (c36.at hv8) o8 B.st
end
end Lw

/-! ## a drawn push -/
namespace Lw
open PySem L2
open PyProof.Rows (envOfC)
section
variable {σ : L2.St} {H : Hp} {Q : VK} {tl tk : TA}
def rMakeK (C : Addr) (n m : Nat) (sp : Sp) (vs zs : List V) (H2 : Hp) (Q : VK) : Prop := vs.length = n ∧ zs.length = m ∧ ∀ x dx, H2 x = none → H2 dx = none → dx ≠ x → sp ((.ref x :: vs) ++ zs) (upd (upd H2 dx (.own x)) x (.ins C dx [])) (fun v H3 => v = .non ∧ Q (.ref x) H3) E0
theorem g_makeK {C : Addr} {n m : Nat} {sp : Sp} (k : tl σ H fun vs H1 => tk σ H1 fun zs H2 => rMakeK C n m sp vs zs H2 Q) : tMakeK C n m sp (fun vs zs => vs ++ zs) E0 tl tk σ H Q := k
end
def spLPu (C : Addr) : Sp := fun vs H Q _ => ∃ (c : Addr → Nat) (S : Addr), vs = [.ref S] ∧ StateAt c H S ∧
  ∀ c' p g n H', StateAt c' H' S → PAt C c' H' p g n false "open" 0 0 0 0 → g.Ok → Stp (fun i => i = 0) c c' H H' → Q (.ref p) H'
def mill : List Nat := [109, 105, 108, 108]
def yard : List Nat := [121, 97, 114, 100]
theorem pickPf {r : Int} (h0 : 0 ≤ r) (h1 : r < 4) : ∃ pf : Option (List Nat), atI ([.non, .non, .str "mill", .str "yard"] : List V) r = some (plV pf) ∧ ∀ q, pf = some q → q.length ≤ 4 ∧ ∀ c ∈ q, c < 0x110000 := by
  have e1 : ("mill" : Str) = SX.S mill := by decide +kernel
  have e2 : ("yard" : Str) = SX.S yard := by decide +kernel
  have : r = 0 ∨ r = 1 ∨ r = 2 ∨ r = 3 := by omega
  rcases this with rfl | rfl | rfl | rfl
  · exact ⟨none, rfl, fun q h => by cases h⟩
  · exact ⟨none, rfl, fun q h => by cases h⟩
  · exact ⟨some mill, by rw [e1]; rfl, fun q h => by cases h; decide⟩
  · exact ⟨some yard, by rw [e2]; rfl, fun q h => by cases h; decide⟩
theorem pickNm {r : Int} (h0 : 0 ≤ r) (h1 : r < 2) : ∃ nm : Str, atI ([.str "app", .str "web"] : List V) r = some (.str nm) ∧ PyData.strOk nm = true := by
  have : r = 0 ∨ r = 1 := by omega
  rcases this with rfl | rfl
  · exact ⟨"app", rfl, by decide +kernel⟩
  · exact ⟨"web", rfl, by decide +kernel⟩
theorem signs8_ok {l : List Nat} (h : ∀ x ∈ l, x ∈ signs8) : ∀ c ∈ l, c < 0x110000 := fun c hc => by
  have : ∀ c ∈ signs8, c < 0x110000 := by decide
  exact this c (h c hc)
section
variable {P : Program} {w : World} {K : PySem.W.Frag} {mg : Str → Option Value} {base : Heap} {C_Pusher a_KINDS : Addr}
theorem ok__law_pusher (T : Txt w K mg C_Pusher a_KINDS) : Cal P w K mg base 3 "_law_pusher" (spLPu C_Pusher) := by
  have c__law_take : Cal P w K mg base 1 "_law_take" spTake := ok__law_take T
  have c__law_text : Cal P w K mg base 2 "_law_text" spText := ok__law_text T
  have m_Pusher : MakK P w K mg base 1 "Pusher" C_Pusher 2 ["platform", "number"] (spPInit C_Pusher) := ok_Pusher___init__ T
  refine cal_mk T.d__law_pusher sc__law_pusher (fun vs H Q E h => ?_) (fun f cdv A outer s H vs Q E hr h => ?_)
  · obtain ⟨c, S, rfl, _⟩ := h
    rfl
  · obtain ⟨c, S, rfl, S0, k⟩ := h
    refine ⟨_, (pss_cons (ps_setLc (i := 1) (own := [("_law_k", 3)]) (g := (gName 3)) (by rfl) sc__law_pusher.nd rfl rfl (sw_true rfl rfl rfl (by decide +kernel)) (pi_range1 (by rfl) T.n_range (pa_cons (pe_c c__law_take hr (by decide) rfl (pa_cons (pv 0) (pa_cons (pe_int) pa_nil))) pa_nil)) (blkOk_by (own := [("_law_k", 3)]) (N := n__law_pusher) (sc := defScope s__law_pusher) (by decide +kernel)) (fun _ _ _ _ _ => (pg_name (i := 3) sc__law_pusher.nd rfl (by first | exact Or.inl rfl | exact Or.inr rfl))) (fun _ _ _ _ _ => pts_nil) (fun _ _ _ _ _ => (pe_c c__law_text hr (by decide) rfl (pa_cons (pv 0) (pa_cons (pe_int) pa_nil)))))
      (pss_cons (ps_set (i := 2) sc__law_pusher.nd rfl (by first | exact Or.inl rfl | exact Or.inr rfl) (pe_ix ix_list (pe_lst (pa_cons (pe_non) (pa_cons (pe_non) (pa_cons (pe_str) (pa_cons (pe_str) pa_nil))))) (pe_c c__law_take hr (by decide) rfl (pa_cons (pv 0) (pa_cons (pe_int) pa_nil))) (fun _ _ => rfl)))
      (pss_one (ps_ret (pe_mkK m_Pusher hr (by decide) rfl (pa_cons (pv 1) (pa_cons (pe_ix ix_list (pe_lst (pa_cons (pe_str) (pa_cons (pe_str) pa_nil))) (pe_c c__law_take hr (by decide) rfl (pa_cons (pv 0) (pa_cons (pe_int) pa_nil))) (fun _ _ => rfl)) pa_nil)) (pk_cons (pv 2) (pk_cons (pe_c c__law_take hr (by decide) rfl (pa_cons (pv 0) (pa_cons (pe_int) pa_nil))) pk_nil))))))), ?_⟩
    walk_at "lw"
    refine ⟨c, S, 4, rfl, S0, by decide, by decide, fun r c1 H1 r0 r1 S1 st1 => ?_⟩
    walk_at "lw"
    refine g_ritR r0 (by omega) ?_
    refine lc_draw walk_rng (by rw [List.length_map, List.length_range]; omega) strS (fun l => l.length ≤ 7 ∧ ∀ x ∈ l, x ∈ signs8) S1 (fun x => rfl) (fun x c5 H5 R S5 st5 kk => ?_) ?_
    · walk_at "lw"
      refine ⟨c5, S, 7, rfl, S5, by decide, by decide, fun l c6 H6 hl hx S6 st6 => ?_⟩
      exact kk l c6 H6 ⟨by omega, hx⟩ S6 st6
    · intro ql ls c5 H5 nq hlen hls S5 st5 hql cql
      rw [List.length_map, List.length_range] at hlen
      have st5 := st1.trans st5
      walk_at "lw"
      refine g_klst (by show 4 ≤ 100; decide) fun q H6 nq6 s6 hq6 => ?_
      have st6 := L2x_sameN (I := fun i => i = 0) (c := c5) (i := 9) s6 nq6
      have S6 := S5.frame (I := fun _ => False) (L2x_sameN (i := 9) s6 nq6) (by decide)
      walk_at "lw"
      refine ⟨_, S, 4, rfl, S6, by decide, by decide, fun r7 c7 H7 r70 r71 S7 st7 => ?_⟩
      obtain ⟨pf, hpf, hpo⟩ := pickPf r70 r71
      refine g_rix (SqL.of (st7.keep _ _ hq6 (by rw [Stp.paint_same]; decide))) hpf ?_
      have st57 := st6.trans st7
      have c7l : c7 ql = 9 := by rw [st57.col _ _ hql, cql]
      have h7l := st57.keep _ _ hql (by rw [cql]; decide)
      have st7 := st5.trans st57
      clear S5 S6 st5 st6 st57 hq6 s6 hql cql
      walk_at "lw"
      refine g_makeK ?_
      walk_at "lw"
      refine g_klst (by show 2 ≤ 100; decide) fun q H8 nq8 s8 hq8 => ?_
      have st8 := L2x_sameN (I := fun i => i = 0) (c := c7) (i := 9) s8 nq8
      have S8 := S7.frame (I := fun _ => False) (L2x_sameN (i := 9) s8 nq8) (by decide)
      walk_at "lw"
      refine ⟨_, S, 2, rfl, S8, by decide, by decide, fun r9 c9 H9 r90 r91 S9 st9 => ?_⟩
      obtain ⟨nm, hnm, hno⟩ := pickNm r90 r91
      refine g_rix (SqL.of (st9.keep _ _ hq8 (by rw [Stp.paint_same]; decide))) hnm ?_
      have st79 := st8.trans st9
      have c9l : c9 ql = 9 := by rw [st79.col _ _ h7l, c7l]
      have h9l := st79.keep _ _ h7l (by rw [c7l]; decide)
      have st9 := st7.trans st79
      clear S7 S8 st7 st8 st79 hq8 s8
      walk_at "lw"
      refine ⟨c9, S, 3, rfl, S9, by decide, by decide, fun n c10 H10 n0 n1 S10 st10 => ?_⟩
      have hl10 := st10.keep _ _ h9l (by rw [c9l]; decide)
      have st10 := st9.trans st10
      clear S9 st9
      walk_at "lw"
      refine ⟨rfl, rfl, fun p dx np ndx nex => ?_⟩
      have s10 : Same H10 (upd (upd H10 dx (.own p)) p (.ins C_Pusher dx [])) := (Same.new ndx).thenNew (by rw [upd_ne nex.symm]; exact np)
      refine ⟨p, dx, ql, ls, nm, pf, n, rfl, upd_same, s10 _ _ hl10, fun l H2 nl hp hl kp => ⟨rfl, ?_⟩⟩
      have s2 : Same H10 H2 := Same.made np ndx kp
      have npl : p ≠ l := fun z => by subst z; rw [upd_same] at nl; cases nl
      have nl1 : H10 l = none := s10.free nl
      have st2 : Stp (fun _ => False) c10 (Stp.paint (Stp.paint c10 p 1) l 1) H10 H2 := Stp.sameC s2 fun b o e => by
        rw [Stp.paint_ne (ne_of_none e nl1), Stp.paint_ne (ne_of_none e np)]
      refine k _ p ⟨ls, nm, pf⟩ n H2 (S10.frame st2 (by decide)) ⟨dx, l, by rw [Stp.paint_ne npl]; exact Stp.paint_same, hp, Stp.paint_same, hl⟩ ⟨by show ls.length ≤ 3; omega, fun t ht => ⟨(hls t ht).1, signs8_ok (hls t ht).2⟩, hno, hpo⟩ (st10.trans (st2.mono fun _ z => z.elim))
end
end Lw

/-! ## the law -/
namespace Lw
open PySem L2
open PyProof.Rows (envOfC)
def spLaw (K : PySem.W.Frag) : Sp := fun vs H Q _ => ∃ (a : Addr) (ns : List Int), vs = [.ref a] ∧ SqL K H a (ns.map V.int) ∧ ns.length ≤ 63 ∧ ∀ H', Q (.bl true) H'
def m0 : M := ⟨.opn, 0, 0, 0, 0⟩
theorem slice_ok {x : Str} {lo hi : Option Int} (h : PyData.strOk x = true) : PyData.strOk (Txt.slice x lo hi) = true := by
  rw [← C8.cutS_slice]
  unfold PyData.strOk at h ⊢
  rw [← Array.all_toList, List.all_eq_true] at h ⊢
  intro c hc
  exact h c (List.mem_of_mem_drop (List.mem_of_mem_take hc))
theorem adrL_ok (k : Str) (t : List Nat) : ∀ c ∈ adrL k t, c < 0x110000 := fun c hc => by
  have : ∀ c ∈ hexS, c < 0x110000 := by decide
  exact this c (adrL_hex k t c hc)
theorem imgL_ok {as : List (List Nat)} (h : ∀ a ∈ as, ∀ c ∈ a, c < 0x110000) : ∀ c ∈ imgL as, c < 0x110000 := by
  intro c hc
  unfold imgL at hc
  rcases List.mem_append.mp hc with z | z
  · have : ∀ c ∈ imgH, c < 0x110000 := by decide
    exact this c z
  · obtain ⟨l, hl, hc⟩ := List.mem_flatten.mp z
    obtain ⟨a, ha, rfl⟩ := List.mem_map.mp hl
    rcases List.mem_append.mp hc with y | y
    · exact h a ha c y
    · rw [List.mem_singleton.mp y]; decide
theorem img_okN (g : G) : ∀ c ∈ g.img, c < 0x110000 := imgL_ok fun a ha => by
  obtain ⟨t, _, rfl⟩ := List.mem_map.mp ha
  exact adrL_ok _ _
theorem bun_okN {g : G} (ok : g.Ok) : ∀ c ∈ g.bun (g.pf.getD []), c < 0x110000 := by
  intro c hc
  unfold G.bun bunL at hc
  rcases List.mem_append.mp hc with z | z
  · have : ∀ c ∈ bunH, c < 0x110000 := by decide
    exact this c z
  · simp only [List.map_cons, List.map_nil, List.flatten_cons, List.flatten_nil, List.append_nil, List.mem_append] at z
    rcases z with ((y | y) | y) | y
    · cases hp : g.pf with
      | none => rw [hp] at y; cases y
      | some q => rw [hp] at y; exact (ok.pf q hp).2 c y
    · rw [List.mem_singleton.mp y]; decide
    · exact adrL_ok _ _ c y
    · rw [List.mem_singleton.mp y]; decide
theorem rq_ok {g : G} (ok : g.Ok) (m : M) : OkB (rq g m) := by
  have hl : PyData.strOk (SX.S (layT g m)) = true := by
    refine okT fun c hc => ?_
    unfold layT at hc
    rw [List.getD_eq_getElem?_getD] at hc
    cases hx : g.ls[m.pl.toNat]? with
    | none => rw [hx] at hc; cases hc
    | some x => rw [hx] at hc; exact (ok.l2 x (List.mem_of_getElem? hx)).2 c hc
  have hk : ∀ x : Str, PyData.strOk x = true → PyData.strOk x = true := fun _ h => h
  have hi : PyData.strOk (SX.S g.img) = true := okT (img_okN g)
  have hb : m.step = .bun → PyData.strOk (SX.S (g.bun (g.pf.getD []))) = true := fun _ => okT (bun_okN ok)
  unfold rq
  cases hs : m.step <;> dsimp only
  case opn => exact okbS (by decide +kernel) okb0
  case start => exact okbS (by decide +kernel) (okbI okb0)
  case cls => exact okbS (by decide +kernel) (okbI okb0)
  case has => exact okbS (by decide +kernel) (okbI (okbS (okAdrS g m) okb0))
  case part => exact okbS (by decide +kernel) (okbI (okbI (okbS (slice_ok hl) okb0)))
  case fin => exact okbS (by decide +kernel) (okbI (okbI (okbS (by decide +kernel) (okbS (okAdrS g m) okb0))))
  case img => exact okbS (by decide +kernel) (okbI (okbS (by decide +kernel) (okbS hi okb0)))
  case bun => exact okbS (by decide +kernel) (okbI (okbS (by decide +kernel) (okbS (hb hs) okb0)))
  case nam => exact okbS (by decide +kernel) (okbI (okbS ok.nm (okbS (okTgt g) okb0)))
  case don => exact okb0
theorem s_done (x : St9) : decide (V.str x.s = V.str "done") = decide (x = .don) := by rw [decide_eq_decide, str_eq]; cases x <;> decide +kernel
theorem s_ne (x : St9) : (!decide (V.str x.s = V.str "")) = true := by cases x <;> decide +kernel
section
variable {P : Program} {w : World} {K : PySem.W.Frag} {mg : Str → Option Value} {base : Heap} {C_Pusher a_KINDS : Addr}
theorem ok_law (T : Txt w K mg C_Pusher a_KINDS) {f : Addr} {fd : FuncData} (F : Fun K "law" "law" s_law f fd) : FnOk P w K mg base CX0 8 f fd ["_law_script"] (spLaw K) := by
  have c__law_state : Cal P w K mg base 1 "_law_state" (spState K) := ok__law_state T
  have c__law_take : Cal P w K mg base 1 "_law_take" spTake := ok__law_take T
  have c__law_pusher : Cal P w K mg base 3 "_law_pusher" (spLPu C_Pusher) := ok__law_pusher T
  have c__law_target : Cal P w K mg base 3 "_law_target" (spTgt C_Pusher) := ok__law_target T
  have c__law_request : Cal P w K mg base 4 "_law_request" (spLReq C_Pusher) := ok__law_request T
  have c__law_reply : Cal P w K mg base 4 "_law_reply" (spRep C_Pusher) := ok__law_reply T
  have c__law_next : Cal P w K mg base 5 "_law_next" (spLw C_Pusher nx fun m => m.step ≠ .don) := ok__law_next T
  have t_Pusher_address : Met P w K mg base 4 C_Pusher "address" (spTx C_Pusher fTgt) := ok_Pusher_address T
  have t_Pusher_request : Met P w K mg base 5 C_Pusher "request" (spReq C_Pusher) := ok_Pusher_request T
  have t_Pusher_take : Met P w K mg base 6 C_Pusher "take" (spTk C_Pusher nx fun _ _ => True) := ok_Pusher_take T
  refine F.ok sc_law (fun vs H Q E h => ?_) (fun cdv A outer s H vs Q E hr h => ?_)
  · obtain ⟨a, ns, rfl, _⟩ := h
    rfl
  · obtain ⟨sc, ns, rfl, hS, hlen, k⟩ := h
    have hu := hu_of hr
    refine ⟨_, (pss_cons (ps_set (i := 1) sc_law.nd rfl (by first | exact Or.inl rfl | exact Or.inr rfl) (pe_c c__law_state hr (by decide) rfl (pa_cons (pv 0) pa_nil)))
      (pss_cons (ps_set (i := 2) sc_law.nd rfl (by first | exact Or.inl rfl | exact Or.inr rfl) (pe_c c__law_pusher hr (by decide) rfl (pa_cons (pv 1) pa_nil)))
      (pss_cons (ps_set (i := 3) sc_law.nd rfl (by first | exact Or.inl rfl | exact Or.inr rfl) (pe_fld (pv 2) rfl))
      (pss_cons (ps_set (i := 4) sc_law.nd rfl (by first | exact Or.inl rfl | exact Or.inr rfl) (pe_disp (pps_cons (pe_str) (pe_str) (pps_cons (pe_str) (pe_int) (pps_cons (pe_str) (pe_int) (pps_cons (pe_str) (pe_int) (pps_cons (pe_str) (pe_int) pps_nil))))) (by rfl) (by rfl) (fun z => by cases z) (by decide)))
      (pss_cons (ps_if (PW.pt (pw_or (pt_cmpR op_ne (pe_gc rfl T.g_PART) (pe_int) (nomark _)) (pw_or1 (pt_cmpR op_ne (pe_mt0 t_Pusher_address hr (by decide) (pv 2)) (pe_c c__law_target hr (by decide) rfl (pa_cons (pv 2) pa_nil)) (nomark _))))) (pss_one (ps_ret (pe_bl))) pss_nil)
      (pss_cons (ps_for PassesOwn.never rfl (pi_range1 (by rfl) T.n_range (pa_cons (pe_c c__law_take hr (by decide) rfl (pa_cons (pv 1) (pa_cons (pe_int) pa_nil))) pa_nil)) (pg_name (i := 5) sc_law.nd rfl (by first | exact Or.inl rfl | exact Or.inr rfl)) (pss_cons (ps_if (pt_cmpR op_eq (pe_dget hu (pv 4) (pe_str) (fun _ _ => rfl)) (pe_str) (nomark _)) (pss_one (ps_ret ((pe_and (pe_cmpR op_isBl (pe_fld (pv 2) rfl) (pe_bl) (by rfl)) (pe_and (pe_cmpR op_isN' (pe_mt0 t_Pusher_request hr (by decide) (pv 2)) (pe_non) (nomark _)) (pe_one (pe_cmpR op_isBl (pe_mt t_Pusher_take hr (by decide) (pv 2) (pa_cons (pe_tup (pa_cons (pe_str) (pa_cons (pe_int) pa_nil))) pa_nil)) (pe_bl) (by rfl)))))))) pss_nil)
      (pss_cons (ps_if (PW.pt (pw_or (pt_cmpR op_notBl (pe_fld (pv 2) rfl) (pe_bl) (by rfl)) (pw_or (pt_cmpR op_ne (pe_fld (pv 2) rfl) (pv 3) (nomark _)) (pw_or1 (pt_cmpR (op_neD hr.units) (pe_mt0 t_Pusher_request hr (by decide) (pv 2)) (pe_c c__law_request hr (by decide) rfl (pa_cons (pv 2) (pa_cons (pv 4) pa_nil))) (nomark _)))))) (pss_one (ps_ret (pe_bl))) pss_nil)
      (pss_cons (ps_set (i := 6) sc_law.nd rfl (by first | exact Or.inl rfl | exact Or.inr rfl) (pe_c c__law_reply hr (by decide) rfl (pa_cons (pv 1) (pa_cons (pv 2) (pa_cons (pv 4) pa_nil)))))
      (pss_cons (ps_asg (pe_c c__law_next hr (by decide) rfl (pa_cons (pv 2) (pa_cons (pv 4) (pa_cons (pv 6) pa_nil)))) (pg_tup (by rfl) (pgs_cons (pg_name (i := 7) sc_law.nd rfl (by first | exact Or.inl rfl | exact Or.inr rfl)) (pgs_cons (pg_name (i := 8) sc_law.nd rfl (by first | exact Or.inl rfl | exact Or.inr rfl)) pgs_nil))))
      (pss_cons (ps_if (pt_cmpR op_ne (pe_callB call_repr_bool (by rfl) T.n_repr (by decide +kernel) (pa_cons (pe_mt t_Pusher_take hr (by decide) (pv 2) (pa_cons (pv 6) pa_nil)) pa_nil)) (pe_callB call_repr_bool (by rfl) T.n_repr (by decide +kernel) (pa_cons (pe_cmpR op_ne (pv 7) (pe_str) (nomark _)) pa_nil)) (nomark _)) (pss_one (ps_ret (pe_bl))) pss_nil)
      (pss_one (ps_if (pt_cmpR op_ne (pv 7) (pe_str) (nomark _)) (pss_cons (ps_dput hu (pv 4) (pe_str) (pv 7) rfl)
      (pss_cons (ps_dput hu (pv 4) (pe_str) (pv 8) rfl)
      (pss_one (ps_set (i := 3) sc_law.nd rfl (by first | exact Or.inl rfl | exact Or.inr rfl) (pe_op op_add (pv 3) (pe_callTy call_int1' (by rfl) T.n_int (by decide +kernel) (pa_cons (pe_cmpR op_ne (pv 7) (pe_str) (nomark _)) pa_nil))))))) pss_nil))))))))
      (pss_one (ps_ret (pe_bl))))))))), ?_⟩
    walk_at "lw"
    refine ⟨sc, ns, fun _ => 9, rfl, hS, hlen, fun S c1 H1 S1 st1 => ?_⟩
    walk_at "lw"
    refine ⟨c1, S, rfl, S1, fun c2 p g n H2 S2 W2 ok st2 => ?_⟩
    obtain ⟨dx2, l2, _, h2, _⟩ := id W2.ex
    walk_at "lw"
    refine g_disp fun d H3 nd s3 hd => ?_
    walk_at "lw"
    refine g_rdisp (kvs := [(kS "step", .str "open"), (kS "claim", .int 0), (kS "upload", .int 0), (kS "at", .int 0), (kS "place", .int 0)]) hd rfl (by decide) fun H4 hd4 k4 => ?_
    have e4 : mergeK [] [(kS "step", .str "open"), (kS "claim", .int 0), (kS "upload", .int 0), (kS "at", .int 0), (kS "place", .int 0)] = mkS keys5 (mv m0) := by
      decide +kernel
    rw [e4] at hd4
    have st3 : Stp (fun _ => False) c2 (Stp.paint c2 d 2) H2 H3 := L2x_sameN s3 nd
    have st4 : Stp (fun i => i = 2) (Stp.paint c2 d 2) (Stp.paint c2 d 2) H3 H4 := Stp.ch hd Stp.paint_same (fun xs z => by cases z) hd4 k4
    have W4 := (W2.frame st3 (by decide)).frame st4 (by decide)
    have S4 := (S2.frame st3 (by decide)).frame st4 (by decide)
    have D4 : ModAt (Stp.paint c2 d 2) H4 d m0 := ⟨Stp.paint_same, hd4⟩
    generalize Stp.paint c2 d 2 = c4 at W4 S4 D4
    clear st3 st4 W2 S2 st2 st1 S1 nd s3 hd hd4 k4 h2
    walk_at "lw"
    obtain ⟨dx4, l4, _, h4, _⟩ := id W4.ex
    walk_at "lw"
    refine ⟨c4, p, g, n, _, _, _, _, _, _, _, rfl, W4, ok, rfl, fun H5 s5 => ?_⟩
    walk_at "lw"
    refine ⟨c4, p, g, n, _, _, _, _, _, _, rfl, W4.same s5, ok, fun H6 s6 => ?_⟩
    walk_at "lw"
    have s6 := s5.trans s6
    have W6 := W4.same s6
    have D6 := D4.same s6
    have S6 := S4.frame (I := fun _ => False) (Stp.same s6) (by decide)
    refine ifF (by rw [decide_eq_true rfl]; rfl) ?_
    walk_at "lw"
    refine ⟨c4, S, 61, rfl, S6, by decide, by decide, fun r c7 H7 r0 r1 S7 st7 => ?_⟩
    have W7 := W6.frame st7 (by decide)
    have D7 := D6.frame st7 (by decide)
    walk_at "lw"
    refine g_for1 r0 (by omega) (fun i σ H => ∃ c m n pp v5 v6 v7 v8, σ = [some (.ref sc), some (.ref S), some (.ref p), some (.int n), some (.ref d), v5, v6, v7, v8] ∧ StateAt c H S ∧ PAt C_Pusher c H p g n (decide (m.step = .don)) m.step.ps m.cl pp m.up m.a ∧ (m.step.lay = true → pp = m.pl) ∧ ModAt c H d m ∧ WF g m) ?_ ?_ ?_
    · exact ⟨c7, m0, n, 0, _, _, _, _, rfl, S7, W7, fun _ => rfl, D7, wf_no rfl (by decide)⟩
    · rintro i σ H8 hi ⟨c8, m, n8, pp, v5, v6, v7, v8, rfl, S8, W8, hl8, D8, wf⟩
      obtain ⟨dx8, l8, _, h8, _⟩ := id W8.ex
      have hd8 := D8.hd
      walk_at "lw"
      rw [s_done]
      refine if2 (fun hdon => ?_) (fun hdon => ?_)
      · rw [decide_eq_true hdon] at h8
        walk_at "lw"
        refine ⟨c8, p, g, m, n8, pp, rfl, W8, ok, wf, hl8, fun z => absurd hdon z, fun _ => ?_⟩
        walk_at "lw"
        refine g_ktup (by show 2 ≤ 100; decide) fun t H9 _ s9 ht => ?_
        walk_at "lw"
        refine ⟨c8, p, g, m, n8, pp, t, .claim 1, rfl, W8.same s9, ok, wf, hl8, ht, okbS (by decide +kernel) (okbI okb0), trivial, ?_⟩
        rw [show nx g m (.claim 1) = none by unfold nx nx'; rw [hdon]; rfl]
        intro H10 s10
        walk_at "lw"
        exact k H10
      · rw [decide_eq_false hdon] at h8
        walk_at "lw"
        refine ifF (by rw [decide_eq_true rfl]; rfl) ?_
        walk_at "lw"
        refine ⟨c8, p, g, m, n8, pp, rfl, W8, ok, wf, hl8, fun _ t H9 s9 ht => ?_, fun z => absurd z hdon⟩
        walk_at "lw"
        refine ⟨c8, p, d, g, m, n8, _, _, _, _, _, _, rfl, W8.same s9, D8.same s9, ok, wf, hdon, fun t2 H10 s10 ht2 => ?_⟩
        refine g_rneK (s10.at ht) ht2 (rq_ok ok m) (rq_ok ok m) ?_
        walk_at "lw"
        refine ifF (by rw [decide_eq_true rfl]; rfl) ?_
        have s10 := s9.trans s10
        walk_at "lw"
        refine ⟨c8, S, p, d, g, m, n8, _, _, _, _, _, _, rfl, S8.frame (I := fun _ => False) (Stp.same s10) (by decide), W8.same s10, D8.same s10, ok, wf, hdon, fun c11 t r H11 S11 ht okr st11 => ?_⟩
        have W11 := (W8.same s10).frame st11 (by decide)
        have D11 := (D8.same s10).frame st11 (by decide)
        clear s9 s10 ht2 h8 hd8 st11
        walk_at "lw"
        refine ⟨c11, p, d, t, g, m, r, n8, _, _, _, _, _, _, rfl, W11, D11, ok, wf, ht, okr, hdon, ?_⟩
        cases e : nx g m r with
        | none =>
          intro t3 H12 D12 st12 ht3
          have W12 := W11.frame st12 (by decide)
          have S12 := S11.frame st12 (by decide)
          obtain ⟨dx12, l12, _, h12, _⟩ := id W12.ex
          refine g_gtup (SqT.of ht3) rfl ?_
          walk_at "lw"
          refine ⟨c11, p, g, m, n8, pp, t, r, rfl, W12, ok, wf, hl8, st12.tup _ _ ht, okr, trivial, ?_⟩
          rw [e]
          intro H13 s13
          walk_at "lw"
          exact ⟨c11, m, n8, pp, _, _, _, _, rfl, S12.frame (I := fun _ => False) (Stp.same s13) (by decide), W12.same s13, hl8, D12.same s13, wf⟩
        | some m' =>
          intro t3 H12 D12 st12 ht3
          have W12 := W11.frame st12 (by decide)
          have S12 := S11.frame st12 (by decide)
          obtain ⟨dx12, l12, _, h12, _⟩ := id W12.ex
          refine g_gtup (SqT.of ht3) rfl ?_
          walk_at "lw"
          refine ⟨c11, p, g, m, n8, pp, t, r, rfl, W12, ok, wf, hl8, st12.tup _ _ ht, okr, trivial, ?_⟩
          rw [e]
          intro H13 pp' W13 hl13 st13
          have D13 := D12.frame st13 (by decide)
          have S13 := S12.frame st13 (by decide)
          walk_at "lw"
          rw [s_ne]
          walk_at "lw"
          refine ifT (s_ne _) ?_
          walk_at "lw"
          refine g_rdputS D13.hd (by rw [mkS_len]; decide) fun H14 d14 k14 => ?_
          rw [put_step] at d14
          walk_at "lw"
          refine g_rdputS d14 (by rw [mkS_len]; decide) fun H15 d15 k15 => ?_
          rw [put_place] at d15
          have st15 : Stp (fun i => i = 2) c11 c11 H13 H15 := (Stp.ch D13.hd D13.cd (fun xs z => by cases z) d14 k14).trans (Stp.ch d14 D13.cd (fun xs z => by cases z) d15 k15)
          walk_at "lw"
          have en : (if (!decide (V.str m'.step.s = V.str "done")) = true then (1 : Int) else 0) = if m'.step = .don then 0 else 1 := by
            rw [s_done]
            by_cases hz : m'.step = .don
            · rw [if_pos hz, decide_eq_true hz]; rfl
            · rw [if_neg hz, decide_eq_false hz]; rfl
          rw [en]
          exact ⟨c11, m', _, pp', _, _, _, _, rfl, S13.frame st15 (by decide), W13.frame st15 (by decide), hl13, ⟨D13.cd, d15⟩, nx_wf wf e⟩
    · rintro σ H8 ⟨c8, m, n8, pp, v5, v6, v7, v8, rfl, _⟩
      walk_at "lw"
      exact k H8
end
end Lw

namespace Lw
open PySem L2
open PyProof.Rows (envOfC)
theorem all_mk {l : PySem.W.OpenLaw} {w : World} {K : PySem.W.Frag} {h : Heap} {mg : Str → Option Value} {fa C_Pusher a_KINDS f_Pusher___init__ f_Pusher_layer_address f_Pusher_image f_Pusher_bundle f_Pusher_address f_Pusher_request f_Pusher_go f_Pusher_go_layer f_Pusher_take f_Pusher_take_kept f_Pusher_take_upload f_Pusher_take_part f_Pusher_take_put f_Pusher_take_name f_address_of f_image_text f_bundle_text f__law_state f__law_take f__law_text f__law_pusher f__law_blobs f__law_target f__law_layer f__law_request f__law_place f__law_layer_step f__law_end_step f__law_next f__law_reply f_law : Addr} {od_Pusher___init__ an_Pusher___init__ : Option Addr} {sl_Pusher___init__ : Array (Option Value)} {oc_Pusher___init__ kV_Pusher___init__ dc_Pusher___init__ pm_Pusher___init__ cd_Pusher___init__ ct_Pusher___init__ : Value} {od_Pusher_layer_address an_Pusher_layer_address : Option Addr} {sl_Pusher_layer_address : Array (Option Value)} {oc_Pusher_layer_address kV_Pusher_layer_address dc_Pusher_layer_address pm_Pusher_layer_address cd_Pusher_layer_address ct_Pusher_layer_address : Value} {od_Pusher_image an_Pusher_image : Option Addr} {sl_Pusher_image : Array (Option Value)} {oc_Pusher_image kV_Pusher_image dc_Pusher_image pm_Pusher_image cd_Pusher_image ct_Pusher_image : Value} {od_Pusher_bundle an_Pusher_bundle : Option Addr} {sl_Pusher_bundle : Array (Option Value)} {oc_Pusher_bundle kV_Pusher_bundle dc_Pusher_bundle pm_Pusher_bundle cd_Pusher_bundle ct_Pusher_bundle : Value} {od_Pusher_address an_Pusher_address : Option Addr} {sl_Pusher_address : Array (Option Value)} {oc_Pusher_address kV_Pusher_address dc_Pusher_address pm_Pusher_address cd_Pusher_address ct_Pusher_address : Value} {od_Pusher_request an_Pusher_request : Option Addr} {sl_Pusher_request : Array (Option Value)} {oc_Pusher_request kV_Pusher_request dc_Pusher_request pm_Pusher_request cd_Pusher_request ct_Pusher_request : Value} {od_Pusher_go an_Pusher_go : Option Addr} {sl_Pusher_go : Array (Option Value)} {oc_Pusher_go kV_Pusher_go dc_Pusher_go pm_Pusher_go cd_Pusher_go ct_Pusher_go : Value} {od_Pusher_go_layer an_Pusher_go_layer : Option Addr} {sl_Pusher_go_layer : Array (Option Value)} {oc_Pusher_go_layer kV_Pusher_go_layer dc_Pusher_go_layer pm_Pusher_go_layer cd_Pusher_go_layer ct_Pusher_go_layer : Value} {od_Pusher_take an_Pusher_take : Option Addr} {sl_Pusher_take : Array (Option Value)} {oc_Pusher_take kV_Pusher_take dc_Pusher_take pm_Pusher_take cd_Pusher_take ct_Pusher_take : Value} {od_Pusher_take_kept an_Pusher_take_kept : Option Addr} {sl_Pusher_take_kept : Array (Option Value)} {oc_Pusher_take_kept kV_Pusher_take_kept dc_Pusher_take_kept pm_Pusher_take_kept cd_Pusher_take_kept ct_Pusher_take_kept : Value} {od_Pusher_take_upload an_Pusher_take_upload : Option Addr} {sl_Pusher_take_upload : Array (Option Value)} {oc_Pusher_take_upload kV_Pusher_take_upload dc_Pusher_take_upload pm_Pusher_take_upload cd_Pusher_take_upload ct_Pusher_take_upload : Value} {od_Pusher_take_part an_Pusher_take_part : Option Addr} {sl_Pusher_take_part : Array (Option Value)} {oc_Pusher_take_part kV_Pusher_take_part dc_Pusher_take_part pm_Pusher_take_part cd_Pusher_take_part ct_Pusher_take_part : Value} {od_Pusher_take_put an_Pusher_take_put : Option Addr} {sl_Pusher_take_put : Array (Option Value)} {oc_Pusher_take_put kV_Pusher_take_put dc_Pusher_take_put pm_Pusher_take_put cd_Pusher_take_put ct_Pusher_take_put : Value} {od_Pusher_take_name an_Pusher_take_name : Option Addr} {sl_Pusher_take_name : Array (Option Value)} {oc_Pusher_take_name kV_Pusher_take_name dc_Pusher_take_name pm_Pusher_take_name cd_Pusher_take_name ct_Pusher_take_name : Value} {od_address_of an_address_of : Option Addr} {sl_address_of : Array (Option Value)} {oc_address_of kV_address_of dc_address_of pm_address_of cd_address_of ct_address_of : Value} {od_image_text an_image_text : Option Addr} {sl_image_text : Array (Option Value)} {oc_image_text kV_image_text dc_image_text pm_image_text cd_image_text ct_image_text : Value} {od_bundle_text an_bundle_text : Option Addr} {sl_bundle_text : Array (Option Value)} {oc_bundle_text kV_bundle_text dc_bundle_text pm_bundle_text cd_bundle_text ct_bundle_text : Value} {od__law_state an__law_state : Option Addr} {sl__law_state : Array (Option Value)} {oc__law_state kV__law_state dc__law_state pm__law_state cd__law_state ct__law_state : Value} {od__law_take an__law_take : Option Addr} {sl__law_take : Array (Option Value)} {oc__law_take kV__law_take dc__law_take pm__law_take cd__law_take ct__law_take : Value} {od__law_text an__law_text : Option Addr} {sl__law_text : Array (Option Value)} {oc__law_text kV__law_text dc__law_text pm__law_text cd__law_text ct__law_text : Value} {od__law_pusher an__law_pusher : Option Addr} {sl__law_pusher : Array (Option Value)} {oc__law_pusher kV__law_pusher dc__law_pusher pm__law_pusher cd__law_pusher ct__law_pusher : Value} {od__law_blobs an__law_blobs : Option Addr} {sl__law_blobs : Array (Option Value)} {oc__law_blobs kV__law_blobs dc__law_blobs pm__law_blobs cd__law_blobs ct__law_blobs : Value} {od__law_target an__law_target : Option Addr} {sl__law_target : Array (Option Value)} {oc__law_target kV__law_target dc__law_target pm__law_target cd__law_target ct__law_target : Value} {od__law_layer an__law_layer : Option Addr} {sl__law_layer : Array (Option Value)} {oc__law_layer kV__law_layer dc__law_layer pm__law_layer cd__law_layer ct__law_layer : Value} {od__law_request an__law_request : Option Addr} {sl__law_request : Array (Option Value)} {oc__law_request kV__law_request dc__law_request pm__law_request cd__law_request ct__law_request : Value} {od__law_place an__law_place : Option Addr} {sl__law_place : Array (Option Value)} {oc__law_place kV__law_place dc__law_place pm__law_place cd__law_place ct__law_place : Value} {od__law_layer_step an__law_layer_step : Option Addr} {sl__law_layer_step : Array (Option Value)} {oc__law_layer_step kV__law_layer_step dc__law_layer_step pm__law_layer_step cd__law_layer_step ct__law_layer_step : Value} {od__law_end_step an__law_end_step : Option Addr} {sl__law_end_step : Array (Option Value)} {oc__law_end_step kV__law_end_step dc__law_end_step pm__law_end_step cd__law_end_step ct__law_end_step : Value} {od__law_next an__law_next : Option Addr} {sl__law_next : Array (Option Value)} {oc__law_next kV__law_next dc__law_next pm__law_next cd__law_next ct__law_next : Value} {od__law_reply an__law_reply : Option Addr} {sl__law_reply : Array (Option Value)} {oc__law_reply kV__law_reply dc__law_reply pm__law_reply cd__law_reply ct__law_reply : Value} {od_law an_law : Option Addr} {sl_law : Array (Option Value)} {oc_law kV_law dc_law pm_law cd_law ct_law : Value} {t_PART t_PRIME : Tok} {its_KINDS : Array Value} {n_KINDS : Nat} {sl_KINDS : Array (Option Value)} (X : K.In h) (G : h.Ns mainGlobals mg) (hfa : mg "law" = some (.ref fa))
    (a_Pusher : PySem.W.nsIn K mainGlobals "Pusher" = some (some (.ref C_Pusher)))
    (pg_Pusher : PySem.W.plainGet K C_Pusher Str.empty = true)
    (hd_Pusher : PySem.W.hasDictIn K C_Pusher = true)
    (po_Pusher : PySem.W.plainOver K C_Pusher = true)
    (sa_Pusher : PySem.W.findIn K (.ref C_Pusher) "__setattr__" = some (some (.builtin "object.__setattr__")))
    (mk_Pusher : PySem.W.makesIn K C_Pusher = true)
    (kc_Pusher : PySem.W.keepIn K (.ref C_Pusher) = true)
    (na_Pusher_layers : PySem.W.findIn K (.ref C_Pusher) "layers" = some none)
    (na_Pusher_name : PySem.W.findIn K (.ref C_Pusher) "name" = some none)
    (na_Pusher_platform : PySem.W.findIn K (.ref C_Pusher) "platform" = some none)
    (na_Pusher_number : PySem.W.findIn K (.ref C_Pusher) "number" = some none)
    (na_Pusher_done : PySem.W.findIn K (.ref C_Pusher) "done" = some none)
    (na_Pusher_step : PySem.W.findIn K (.ref C_Pusher) "step" = some none)
    (na_Pusher_claim : PySem.W.findIn K (.ref C_Pusher) "claim" = some none)
    (na_Pusher_place : PySem.W.findIn K (.ref C_Pusher) "place" = some none)
    (na_Pusher_upload : PySem.W.findIn K (.ref C_Pusher) "upload" = some none)
    (na_Pusher_at : PySem.W.findIn K (.ref C_Pusher) "at" = some none)
    (a_Pusher___init__ : PySem.W.findIn K (.ref C_Pusher) "__init__" = some (some (.ref f_Pusher___init__)))
    (i_Pusher___init__ : PySem.W.isFn K (.ref f_Pusher___init__) = true)
    (l_Pusher___init__ : K.lookup f_Pusher___init__ = some ⟨oc_Pusher___init__, od_Pusher___init__, .func (PySem.W.fnOf "__init__" "Pusher.__init__" (defArgs s_Pusher___init__) (defBody s_Pusher___init__) (defScope s_Pusher___init__) .none kV_Pusher___init__ dc_Pusher___init__ pm_Pusher___init__ an_Pusher___init__ cd_Pusher___init__ ct_Pusher___init__), sl_Pusher___init__⟩)
    (c_Pusher___init__ : PySem.W.codeIn K cd_Pusher___init__ "Pusher.__init__" = true)
    (k_Pusher___init__ : PySem.W.keepIn K (.ref f_Pusher___init__) = true)
    (a_Pusher_layer_address : PySem.W.findIn K (.ref C_Pusher) "layer_address" = some (some (.ref f_Pusher_layer_address)))
    (i_Pusher_layer_address : PySem.W.isFn K (.ref f_Pusher_layer_address) = true)
    (l_Pusher_layer_address : K.lookup f_Pusher_layer_address = some ⟨oc_Pusher_layer_address, od_Pusher_layer_address, .func (PySem.W.fnOf "layer_address" "Pusher.layer_address" (defArgs s_Pusher_layer_address) (defBody s_Pusher_layer_address) (defScope s_Pusher_layer_address) .none kV_Pusher_layer_address dc_Pusher_layer_address pm_Pusher_layer_address an_Pusher_layer_address cd_Pusher_layer_address ct_Pusher_layer_address), sl_Pusher_layer_address⟩)
    (c_Pusher_layer_address : PySem.W.codeIn K cd_Pusher_layer_address "Pusher.layer_address" = true)
    (k_Pusher_layer_address : PySem.W.keepIn K (.ref f_Pusher_layer_address) = true)
    (a_Pusher_image : PySem.W.findIn K (.ref C_Pusher) "image" = some (some (.ref f_Pusher_image)))
    (i_Pusher_image : PySem.W.isFn K (.ref f_Pusher_image) = true)
    (l_Pusher_image : K.lookup f_Pusher_image = some ⟨oc_Pusher_image, od_Pusher_image, .func (PySem.W.fnOf "image" "Pusher.image" (defArgs s_Pusher_image) (defBody s_Pusher_image) (defScope s_Pusher_image) .none kV_Pusher_image dc_Pusher_image pm_Pusher_image an_Pusher_image cd_Pusher_image ct_Pusher_image), sl_Pusher_image⟩)
    (c_Pusher_image : PySem.W.codeIn K cd_Pusher_image "Pusher.image" = true)
    (k_Pusher_image : PySem.W.keepIn K (.ref f_Pusher_image) = true)
    (a_Pusher_bundle : PySem.W.findIn K (.ref C_Pusher) "bundle" = some (some (.ref f_Pusher_bundle)))
    (i_Pusher_bundle : PySem.W.isFn K (.ref f_Pusher_bundle) = true)
    (l_Pusher_bundle : K.lookup f_Pusher_bundle = some ⟨oc_Pusher_bundle, od_Pusher_bundle, .func (PySem.W.fnOf "bundle" "Pusher.bundle" (defArgs s_Pusher_bundle) (defBody s_Pusher_bundle) (defScope s_Pusher_bundle) .none kV_Pusher_bundle dc_Pusher_bundle pm_Pusher_bundle an_Pusher_bundle cd_Pusher_bundle ct_Pusher_bundle), sl_Pusher_bundle⟩)
    (c_Pusher_bundle : PySem.W.codeIn K cd_Pusher_bundle "Pusher.bundle" = true)
    (k_Pusher_bundle : PySem.W.keepIn K (.ref f_Pusher_bundle) = true)
    (a_Pusher_address : PySem.W.findIn K (.ref C_Pusher) "address" = some (some (.ref f_Pusher_address)))
    (i_Pusher_address : PySem.W.isFn K (.ref f_Pusher_address) = true)
    (l_Pusher_address : K.lookup f_Pusher_address = some ⟨oc_Pusher_address, od_Pusher_address, .func (PySem.W.fnOf "address" "Pusher.address" (defArgs s_Pusher_address) (defBody s_Pusher_address) (defScope s_Pusher_address) .none kV_Pusher_address dc_Pusher_address pm_Pusher_address an_Pusher_address cd_Pusher_address ct_Pusher_address), sl_Pusher_address⟩)
    (c_Pusher_address : PySem.W.codeIn K cd_Pusher_address "Pusher.address" = true)
    (k_Pusher_address : PySem.W.keepIn K (.ref f_Pusher_address) = true)
    (a_Pusher_request : PySem.W.findIn K (.ref C_Pusher) "request" = some (some (.ref f_Pusher_request)))
    (i_Pusher_request : PySem.W.isFn K (.ref f_Pusher_request) = true)
    (l_Pusher_request : K.lookup f_Pusher_request = some ⟨oc_Pusher_request, od_Pusher_request, .func (PySem.W.fnOf "request" "Pusher.request" (defArgs s_Pusher_request) (defBody s_Pusher_request) (defScope s_Pusher_request) .none kV_Pusher_request dc_Pusher_request pm_Pusher_request an_Pusher_request cd_Pusher_request ct_Pusher_request), sl_Pusher_request⟩)
    (c_Pusher_request : PySem.W.codeIn K cd_Pusher_request "Pusher.request" = true)
    (k_Pusher_request : PySem.W.keepIn K (.ref f_Pusher_request) = true)
    (a_Pusher_go : PySem.W.findIn K (.ref C_Pusher) "go" = some (some (.ref f_Pusher_go)))
    (i_Pusher_go : PySem.W.isFn K (.ref f_Pusher_go) = true)
    (l_Pusher_go : K.lookup f_Pusher_go = some ⟨oc_Pusher_go, od_Pusher_go, .func (PySem.W.fnOf "go" "Pusher.go" (defArgs s_Pusher_go) (defBody s_Pusher_go) (defScope s_Pusher_go) .none kV_Pusher_go dc_Pusher_go pm_Pusher_go an_Pusher_go cd_Pusher_go ct_Pusher_go), sl_Pusher_go⟩)
    (c_Pusher_go : PySem.W.codeIn K cd_Pusher_go "Pusher.go" = true)
    (k_Pusher_go : PySem.W.keepIn K (.ref f_Pusher_go) = true)
    (a_Pusher_go_layer : PySem.W.findIn K (.ref C_Pusher) "go_layer" = some (some (.ref f_Pusher_go_layer)))
    (i_Pusher_go_layer : PySem.W.isFn K (.ref f_Pusher_go_layer) = true)
    (l_Pusher_go_layer : K.lookup f_Pusher_go_layer = some ⟨oc_Pusher_go_layer, od_Pusher_go_layer, .func (PySem.W.fnOf "go_layer" "Pusher.go_layer" (defArgs s_Pusher_go_layer) (defBody s_Pusher_go_layer) (defScope s_Pusher_go_layer) .none kV_Pusher_go_layer dc_Pusher_go_layer pm_Pusher_go_layer an_Pusher_go_layer cd_Pusher_go_layer ct_Pusher_go_layer), sl_Pusher_go_layer⟩)
    (c_Pusher_go_layer : PySem.W.codeIn K cd_Pusher_go_layer "Pusher.go_layer" = true)
    (k_Pusher_go_layer : PySem.W.keepIn K (.ref f_Pusher_go_layer) = true)
    (a_Pusher_take : PySem.W.findIn K (.ref C_Pusher) "take" = some (some (.ref f_Pusher_take)))
    (i_Pusher_take : PySem.W.isFn K (.ref f_Pusher_take) = true)
    (l_Pusher_take : K.lookup f_Pusher_take = some ⟨oc_Pusher_take, od_Pusher_take, .func (PySem.W.fnOf "take" "Pusher.take" (defArgs s_Pusher_take) (defBody s_Pusher_take) (defScope s_Pusher_take) .none kV_Pusher_take dc_Pusher_take pm_Pusher_take an_Pusher_take cd_Pusher_take ct_Pusher_take), sl_Pusher_take⟩)
    (c_Pusher_take : PySem.W.codeIn K cd_Pusher_take "Pusher.take" = true)
    (k_Pusher_take : PySem.W.keepIn K (.ref f_Pusher_take) = true)
    (a_Pusher_take_kept : PySem.W.findIn K (.ref C_Pusher) "take_kept" = some (some (.ref f_Pusher_take_kept)))
    (i_Pusher_take_kept : PySem.W.isFn K (.ref f_Pusher_take_kept) = true)
    (l_Pusher_take_kept : K.lookup f_Pusher_take_kept = some ⟨oc_Pusher_take_kept, od_Pusher_take_kept, .func (PySem.W.fnOf "take_kept" "Pusher.take_kept" (defArgs s_Pusher_take_kept) (defBody s_Pusher_take_kept) (defScope s_Pusher_take_kept) .none kV_Pusher_take_kept dc_Pusher_take_kept pm_Pusher_take_kept an_Pusher_take_kept cd_Pusher_take_kept ct_Pusher_take_kept), sl_Pusher_take_kept⟩)
    (c_Pusher_take_kept : PySem.W.codeIn K cd_Pusher_take_kept "Pusher.take_kept" = true)
    (k_Pusher_take_kept : PySem.W.keepIn K (.ref f_Pusher_take_kept) = true)
    (a_Pusher_take_upload : PySem.W.findIn K (.ref C_Pusher) "take_upload" = some (some (.ref f_Pusher_take_upload)))
    (i_Pusher_take_upload : PySem.W.isFn K (.ref f_Pusher_take_upload) = true)
    (l_Pusher_take_upload : K.lookup f_Pusher_take_upload = some ⟨oc_Pusher_take_upload, od_Pusher_take_upload, .func (PySem.W.fnOf "take_upload" "Pusher.take_upload" (defArgs s_Pusher_take_upload) (defBody s_Pusher_take_upload) (defScope s_Pusher_take_upload) .none kV_Pusher_take_upload dc_Pusher_take_upload pm_Pusher_take_upload an_Pusher_take_upload cd_Pusher_take_upload ct_Pusher_take_upload), sl_Pusher_take_upload⟩)
    (c_Pusher_take_upload : PySem.W.codeIn K cd_Pusher_take_upload "Pusher.take_upload" = true)
    (k_Pusher_take_upload : PySem.W.keepIn K (.ref f_Pusher_take_upload) = true)
    (a_Pusher_take_part : PySem.W.findIn K (.ref C_Pusher) "take_part" = some (some (.ref f_Pusher_take_part)))
    (i_Pusher_take_part : PySem.W.isFn K (.ref f_Pusher_take_part) = true)
    (l_Pusher_take_part : K.lookup f_Pusher_take_part = some ⟨oc_Pusher_take_part, od_Pusher_take_part, .func (PySem.W.fnOf "take_part" "Pusher.take_part" (defArgs s_Pusher_take_part) (defBody s_Pusher_take_part) (defScope s_Pusher_take_part) .none kV_Pusher_take_part dc_Pusher_take_part pm_Pusher_take_part an_Pusher_take_part cd_Pusher_take_part ct_Pusher_take_part), sl_Pusher_take_part⟩)
    (c_Pusher_take_part : PySem.W.codeIn K cd_Pusher_take_part "Pusher.take_part" = true)
    (k_Pusher_take_part : PySem.W.keepIn K (.ref f_Pusher_take_part) = true)
    (a_Pusher_take_put : PySem.W.findIn K (.ref C_Pusher) "take_put" = some (some (.ref f_Pusher_take_put)))
    (i_Pusher_take_put : PySem.W.isFn K (.ref f_Pusher_take_put) = true)
    (l_Pusher_take_put : K.lookup f_Pusher_take_put = some ⟨oc_Pusher_take_put, od_Pusher_take_put, .func (PySem.W.fnOf "take_put" "Pusher.take_put" (defArgs s_Pusher_take_put) (defBody s_Pusher_take_put) (defScope s_Pusher_take_put) .none kV_Pusher_take_put dc_Pusher_take_put pm_Pusher_take_put an_Pusher_take_put cd_Pusher_take_put ct_Pusher_take_put), sl_Pusher_take_put⟩)
    (c_Pusher_take_put : PySem.W.codeIn K cd_Pusher_take_put "Pusher.take_put" = true)
    (k_Pusher_take_put : PySem.W.keepIn K (.ref f_Pusher_take_put) = true)
    (a_Pusher_take_name : PySem.W.findIn K (.ref C_Pusher) "take_name" = some (some (.ref f_Pusher_take_name)))
    (i_Pusher_take_name : PySem.W.isFn K (.ref f_Pusher_take_name) = true)
    (l_Pusher_take_name : K.lookup f_Pusher_take_name = some ⟨oc_Pusher_take_name, od_Pusher_take_name, .func (PySem.W.fnOf "take_name" "Pusher.take_name" (defArgs s_Pusher_take_name) (defBody s_Pusher_take_name) (defScope s_Pusher_take_name) .none kV_Pusher_take_name dc_Pusher_take_name pm_Pusher_take_name an_Pusher_take_name cd_Pusher_take_name ct_Pusher_take_name), sl_Pusher_take_name⟩)
    (c_Pusher_take_name : PySem.W.codeIn K cd_Pusher_take_name "Pusher.take_name" = true)
    (k_Pusher_take_name : PySem.W.keepIn K (.ref f_Pusher_take_name) = true)
    (a_address_of : PySem.W.nsIn K mainGlobals "address_of" = some (some (.ref f_address_of)))
    (l_address_of : K.lookup f_address_of = some ⟨oc_address_of, od_address_of, .func (PySem.W.fnOf "address_of" "address_of" (defArgs s_address_of) (defBody s_address_of) (defScope s_address_of) .none kV_address_of dc_address_of pm_address_of an_address_of cd_address_of ct_address_of), sl_address_of⟩)
    (c_address_of : PySem.W.codeIn K cd_address_of "address_of" = true)
    (k_address_of : PySem.W.keepIn K (.ref f_address_of) = true)
    (a_image_text : PySem.W.nsIn K mainGlobals "image_text" = some (some (.ref f_image_text)))
    (l_image_text : K.lookup f_image_text = some ⟨oc_image_text, od_image_text, .func (PySem.W.fnOf "image_text" "image_text" (defArgs s_image_text) (defBody s_image_text) (defScope s_image_text) .none kV_image_text dc_image_text pm_image_text an_image_text cd_image_text ct_image_text), sl_image_text⟩)
    (c_image_text : PySem.W.codeIn K cd_image_text "image_text" = true)
    (k_image_text : PySem.W.keepIn K (.ref f_image_text) = true)
    (a_bundle_text : PySem.W.nsIn K mainGlobals "bundle_text" = some (some (.ref f_bundle_text)))
    (l_bundle_text : K.lookup f_bundle_text = some ⟨oc_bundle_text, od_bundle_text, .func (PySem.W.fnOf "bundle_text" "bundle_text" (defArgs s_bundle_text) (defBody s_bundle_text) (defScope s_bundle_text) .none kV_bundle_text dc_bundle_text pm_bundle_text an_bundle_text cd_bundle_text ct_bundle_text), sl_bundle_text⟩)
    (c_bundle_text : PySem.W.codeIn K cd_bundle_text "bundle_text" = true)
    (k_bundle_text : PySem.W.keepIn K (.ref f_bundle_text) = true)
    (a__law_state : PySem.W.nsIn K mainGlobals "_law_state" = some (some (.ref f__law_state)))
    (l__law_state : K.lookup f__law_state = some ⟨oc__law_state, od__law_state, .func (PySem.W.fnOf "_law_state" "_law_state" (defArgs s__law_state) (defBody s__law_state) (defScope s__law_state) .none kV__law_state dc__law_state pm__law_state an__law_state cd__law_state ct__law_state), sl__law_state⟩)
    (c__law_state : PySem.W.codeIn K cd__law_state "_law_state" = true)
    (k__law_state : PySem.W.keepIn K (.ref f__law_state) = true)
    (a__law_take : PySem.W.nsIn K mainGlobals "_law_take" = some (some (.ref f__law_take)))
    (l__law_take : K.lookup f__law_take = some ⟨oc__law_take, od__law_take, .func (PySem.W.fnOf "_law_take" "_law_take" (defArgs s__law_take) (defBody s__law_take) (defScope s__law_take) .none kV__law_take dc__law_take pm__law_take an__law_take cd__law_take ct__law_take), sl__law_take⟩)
    (c__law_take : PySem.W.codeIn K cd__law_take "_law_take" = true)
    (k__law_take : PySem.W.keepIn K (.ref f__law_take) = true)
    (a__law_text : PySem.W.nsIn K mainGlobals "_law_text" = some (some (.ref f__law_text)))
    (l__law_text : K.lookup f__law_text = some ⟨oc__law_text, od__law_text, .func (PySem.W.fnOf "_law_text" "_law_text" (defArgs s__law_text) (defBody s__law_text) (defScope s__law_text) .none kV__law_text dc__law_text pm__law_text an__law_text cd__law_text ct__law_text), sl__law_text⟩)
    (c__law_text : PySem.W.codeIn K cd__law_text "_law_text" = true)
    (k__law_text : PySem.W.keepIn K (.ref f__law_text) = true)
    (a__law_pusher : PySem.W.nsIn K mainGlobals "_law_pusher" = some (some (.ref f__law_pusher)))
    (l__law_pusher : K.lookup f__law_pusher = some ⟨oc__law_pusher, od__law_pusher, .func (PySem.W.fnOf "_law_pusher" "_law_pusher" (defArgs s__law_pusher) (defBody s__law_pusher) (defScope s__law_pusher) .none kV__law_pusher dc__law_pusher pm__law_pusher an__law_pusher cd__law_pusher ct__law_pusher), sl__law_pusher⟩)
    (c__law_pusher : PySem.W.codeIn K cd__law_pusher "_law_pusher" = true)
    (k__law_pusher : PySem.W.keepIn K (.ref f__law_pusher) = true)
    (a__law_blobs : PySem.W.nsIn K mainGlobals "_law_blobs" = some (some (.ref f__law_blobs)))
    (l__law_blobs : K.lookup f__law_blobs = some ⟨oc__law_blobs, od__law_blobs, .func (PySem.W.fnOf "_law_blobs" "_law_blobs" (defArgs s__law_blobs) (defBody s__law_blobs) (defScope s__law_blobs) .none kV__law_blobs dc__law_blobs pm__law_blobs an__law_blobs cd__law_blobs ct__law_blobs), sl__law_blobs⟩)
    (c__law_blobs : PySem.W.codeIn K cd__law_blobs "_law_blobs" = true)
    (k__law_blobs : PySem.W.keepIn K (.ref f__law_blobs) = true)
    (a__law_target : PySem.W.nsIn K mainGlobals "_law_target" = some (some (.ref f__law_target)))
    (l__law_target : K.lookup f__law_target = some ⟨oc__law_target, od__law_target, .func (PySem.W.fnOf "_law_target" "_law_target" (defArgs s__law_target) (defBody s__law_target) (defScope s__law_target) .none kV__law_target dc__law_target pm__law_target an__law_target cd__law_target ct__law_target), sl__law_target⟩)
    (c__law_target : PySem.W.codeIn K cd__law_target "_law_target" = true)
    (k__law_target : PySem.W.keepIn K (.ref f__law_target) = true)
    (a__law_layer : PySem.W.nsIn K mainGlobals "_law_layer" = some (some (.ref f__law_layer)))
    (l__law_layer : K.lookup f__law_layer = some ⟨oc__law_layer, od__law_layer, .func (PySem.W.fnOf "_law_layer" "_law_layer" (defArgs s__law_layer) (defBody s__law_layer) (defScope s__law_layer) .none kV__law_layer dc__law_layer pm__law_layer an__law_layer cd__law_layer ct__law_layer), sl__law_layer⟩)
    (c__law_layer : PySem.W.codeIn K cd__law_layer "_law_layer" = true)
    (k__law_layer : PySem.W.keepIn K (.ref f__law_layer) = true)
    (a__law_request : PySem.W.nsIn K mainGlobals "_law_request" = some (some (.ref f__law_request)))
    (l__law_request : K.lookup f__law_request = some ⟨oc__law_request, od__law_request, .func (PySem.W.fnOf "_law_request" "_law_request" (defArgs s__law_request) (defBody s__law_request) (defScope s__law_request) .none kV__law_request dc__law_request pm__law_request an__law_request cd__law_request ct__law_request), sl__law_request⟩)
    (c__law_request : PySem.W.codeIn K cd__law_request "_law_request" = true)
    (k__law_request : PySem.W.keepIn K (.ref f__law_request) = true)
    (a__law_place : PySem.W.nsIn K mainGlobals "_law_place" = some (some (.ref f__law_place)))
    (l__law_place : K.lookup f__law_place = some ⟨oc__law_place, od__law_place, .func (PySem.W.fnOf "_law_place" "_law_place" (defArgs s__law_place) (defBody s__law_place) (defScope s__law_place) .none kV__law_place dc__law_place pm__law_place an__law_place cd__law_place ct__law_place), sl__law_place⟩)
    (c__law_place : PySem.W.codeIn K cd__law_place "_law_place" = true)
    (k__law_place : PySem.W.keepIn K (.ref f__law_place) = true)
    (a__law_layer_step : PySem.W.nsIn K mainGlobals "_law_layer_step" = some (some (.ref f__law_layer_step)))
    (l__law_layer_step : K.lookup f__law_layer_step = some ⟨oc__law_layer_step, od__law_layer_step, .func (PySem.W.fnOf "_law_layer_step" "_law_layer_step" (defArgs s__law_layer_step) (defBody s__law_layer_step) (defScope s__law_layer_step) .none kV__law_layer_step dc__law_layer_step pm__law_layer_step an__law_layer_step cd__law_layer_step ct__law_layer_step), sl__law_layer_step⟩)
    (c__law_layer_step : PySem.W.codeIn K cd__law_layer_step "_law_layer_step" = true)
    (k__law_layer_step : PySem.W.keepIn K (.ref f__law_layer_step) = true)
    (a__law_end_step : PySem.W.nsIn K mainGlobals "_law_end_step" = some (some (.ref f__law_end_step)))
    (l__law_end_step : K.lookup f__law_end_step = some ⟨oc__law_end_step, od__law_end_step, .func (PySem.W.fnOf "_law_end_step" "_law_end_step" (defArgs s__law_end_step) (defBody s__law_end_step) (defScope s__law_end_step) .none kV__law_end_step dc__law_end_step pm__law_end_step an__law_end_step cd__law_end_step ct__law_end_step), sl__law_end_step⟩)
    (c__law_end_step : PySem.W.codeIn K cd__law_end_step "_law_end_step" = true)
    (k__law_end_step : PySem.W.keepIn K (.ref f__law_end_step) = true)
    (a__law_next : PySem.W.nsIn K mainGlobals "_law_next" = some (some (.ref f__law_next)))
    (l__law_next : K.lookup f__law_next = some ⟨oc__law_next, od__law_next, .func (PySem.W.fnOf "_law_next" "_law_next" (defArgs s__law_next) (defBody s__law_next) (defScope s__law_next) .none kV__law_next dc__law_next pm__law_next an__law_next cd__law_next ct__law_next), sl__law_next⟩)
    (c__law_next : PySem.W.codeIn K cd__law_next "_law_next" = true)
    (k__law_next : PySem.W.keepIn K (.ref f__law_next) = true)
    (a__law_reply : PySem.W.nsIn K mainGlobals "_law_reply" = some (some (.ref f__law_reply)))
    (l__law_reply : K.lookup f__law_reply = some ⟨oc__law_reply, od__law_reply, .func (PySem.W.fnOf "_law_reply" "_law_reply" (defArgs s__law_reply) (defBody s__law_reply) (defScope s__law_reply) .none kV__law_reply dc__law_reply pm__law_reply an__law_reply cd__law_reply ct__law_reply), sl__law_reply⟩)
    (c__law_reply : PySem.W.codeIn K cd__law_reply "_law_reply" = true)
    (k__law_reply : PySem.W.keepIn K (.ref f__law_reply) = true)
    (a_law : PySem.W.nsIn K mainGlobals "law" = some (some (.ref f_law)))
    (l_law : K.lookup f_law = some ⟨oc_law, od_law, .func (PySem.W.fnOf "law" "law" (defArgs s_law) (defBody s_law) (defScope s_law) .none kV_law dc_law pm_law an_law cd_law ct_law), sl_law⟩)
    (c_law : PySem.W.codeIn K cd_law "law" = true)
    (k_law : PySem.W.keepIn K (.ref f_law) = true)
    (z_abs : PySem.W.nsIn K mainGlobals "abs" = some none)
    (z_int : PySem.W.nsIn K mainGlobals "int" = some none)
    (z_len : PySem.W.nsIn K mainGlobals "len" = some none)
    (z_list : PySem.W.nsIn K mainGlobals "list" = some none)
    (z_min : PySem.W.nsIn K mainGlobals "min" = some none)
    (z_ord : PySem.W.nsIn K mainGlobals "ord" = some none)
    (z_range : PySem.W.nsIn K mainGlobals "range" = some none)
    (z_repr : PySem.W.nsIn K mainGlobals "repr" = some none)
    (v_PART : PySem.W.nsIn K mainGlobals "PART" = some (some (Value.int 4 t_PART)))
    (v_PRIME : PySem.W.nsIn K mainGlobals "PRIME" = some (some (Value.int 2305843009213693951 t_PRIME)))
    (v_KINDS : PySem.W.nsIn K mainGlobals "KINDS" = some (some (.ref a_KINDS)))
    (at_KINDS : K.lookup a_KINDS = some ⟨.type "tuple", none, .seq its_KINDS n_KINDS, sl_KINDS⟩)
    (vl_KINDS : Vals (kinds3.map V.str) its_KINDS.toList)
    (sz_KINDS : its_KINDS.size ≤ sizeLine)
    : ∃ fd : FuncData, (∀ (s : Shared) (v : Value), BindsTo s fd ⟨[v], []⟩ [("_law_script", v)]) ∧ ∀ base : Heap, K.In base → base.Ns mainGlobals mg → FnOk l.prog w K mg base CX0 8 fa fd ["_law_script"] (spLaw K) := by
  have e := hfa.symm.trans (PySem.W.mg_of X G a_law)
  cases e
  have F_Pusher___init__ := fun_mk (st := s_Pusher___init__) l_Pusher___init__ c_Pusher___init__ k_Pusher___init__
  have b_Pusher___init__ : KBn K (PySem.W.fnOf "__init__" "Pusher.__init__" (defArgs s_Pusher___init__) (defBody s_Pusher___init__) (defScope s_Pusher___init__) .none kV_Pusher___init__ dc_Pusher___init__ pm_Pusher___init__ an_Pusher___init__ cd_Pusher___init__ ct_Pusher___init__) ["self", "layers", "name", "platform", "number"] 3 ["platform", "number"] (fun us ws => us ++ ws) (fun vs zs => vs ++ zs) := ⟨fun _ us ws _ l1 l2 => match us, ws, l1, l2 with | [_, _, _], [_, _], _, _ => .of_eq rfl, fun r1 r2 => r1.append r2⟩
  have F_Pusher_layer_address := fun_mk (st := s_Pusher_layer_address) l_Pusher_layer_address c_Pusher_layer_address k_Pusher_layer_address
  have b_Pusher_layer_address := F_Pusher_layer_address.binds (ps := ["self"]) fun _ _ _ _ _ _ us hl => match us, hl with | [_], _ => rfl
  have F_Pusher_image := fun_mk (st := s_Pusher_image) l_Pusher_image c_Pusher_image k_Pusher_image
  have b_Pusher_image := F_Pusher_image.binds (ps := ["self"]) fun _ _ _ _ _ _ us hl => match us, hl with | [_], _ => rfl
  have F_Pusher_bundle := fun_mk (st := s_Pusher_bundle) l_Pusher_bundle c_Pusher_bundle k_Pusher_bundle
  have b_Pusher_bundle := F_Pusher_bundle.binds (ps := ["self"]) fun _ _ _ _ _ _ us hl => match us, hl with | [_], _ => rfl
  have F_Pusher_address := fun_mk (st := s_Pusher_address) l_Pusher_address c_Pusher_address k_Pusher_address
  have b_Pusher_address := F_Pusher_address.binds (ps := ["self"]) fun _ _ _ _ _ _ us hl => match us, hl with | [_], _ => rfl
  have F_Pusher_request := fun_mk (st := s_Pusher_request) l_Pusher_request c_Pusher_request k_Pusher_request
  have b_Pusher_request := F_Pusher_request.binds (ps := ["self"]) fun _ _ _ _ _ _ us hl => match us, hl with | [_], _ => rfl
  have F_Pusher_go := fun_mk (st := s_Pusher_go) l_Pusher_go c_Pusher_go k_Pusher_go
  have b_Pusher_go := F_Pusher_go.binds (ps := ["self", "step"]) fun _ _ _ _ _ _ us hl => match us, hl with | [_, _], _ => rfl
  have F_Pusher_go_layer := fun_mk (st := s_Pusher_go_layer) l_Pusher_go_layer c_Pusher_go_layer k_Pusher_go_layer
  have b_Pusher_go_layer := F_Pusher_go_layer.binds (ps := ["self", "place"]) fun _ _ _ _ _ _ us hl => match us, hl with | [_, _], _ => rfl
  have F_Pusher_take := fun_mk (st := s_Pusher_take) l_Pusher_take c_Pusher_take k_Pusher_take
  have b_Pusher_take := F_Pusher_take.binds (ps := ["self", "reply"]) fun _ _ _ _ _ _ us hl => match us, hl with | [_, _], _ => rfl
  have F_Pusher_take_kept := fun_mk (st := s_Pusher_take_kept) l_Pusher_take_kept c_Pusher_take_kept k_Pusher_take_kept
  have b_Pusher_take_kept := F_Pusher_take_kept.binds (ps := ["self", "reply"]) fun _ _ _ _ _ _ us hl => match us, hl with | [_, _], _ => rfl
  have F_Pusher_take_upload := fun_mk (st := s_Pusher_take_upload) l_Pusher_take_upload c_Pusher_take_upload k_Pusher_take_upload
  have b_Pusher_take_upload := F_Pusher_take_upload.binds (ps := ["self", "reply"]) fun _ _ _ _ _ _ us hl => match us, hl with | [_, _], _ => rfl
  have F_Pusher_take_part := fun_mk (st := s_Pusher_take_part) l_Pusher_take_part c_Pusher_take_part k_Pusher_take_part
  have b_Pusher_take_part := F_Pusher_take_part.binds (ps := ["self", "reply"]) fun _ _ _ _ _ _ us hl => match us, hl with | [_, _], _ => rfl
  have F_Pusher_take_put := fun_mk (st := s_Pusher_take_put) l_Pusher_take_put c_Pusher_take_put k_Pusher_take_put
  have b_Pusher_take_put := F_Pusher_take_put.binds (ps := ["self", "reply"]) fun _ _ _ _ _ _ us hl => match us, hl with | [_, _], _ => rfl
  have F_Pusher_take_name := fun_mk (st := s_Pusher_take_name) l_Pusher_take_name c_Pusher_take_name k_Pusher_take_name
  have b_Pusher_take_name := F_Pusher_take_name.binds (ps := ["self", "reply"]) fun _ _ _ _ _ _ us hl => match us, hl with | [_, _], _ => rfl
  have F_address_of := fun_mk (st := s_address_of) l_address_of c_address_of k_address_of
  have b_address_of := F_address_of.binds (ps := ["kind", "text"]) fun _ _ _ _ _ _ us hl => match us, hl with | [_, _], _ => rfl
  have F_image_text := fun_mk (st := s_image_text) l_image_text c_image_text k_image_text
  have b_image_text := F_image_text.binds (ps := ["layers"]) fun _ _ _ _ _ _ us hl => match us, hl with | [_], _ => rfl
  have F_bundle_text := fun_mk (st := s_bundle_text) l_bundle_text c_bundle_text k_bundle_text
  have b_bundle_text := F_bundle_text.binds (ps := ["entries"]) fun _ _ _ _ _ _ us hl => match us, hl with | [_], _ => rfl
  have F__law_state := fun_mk (st := s__law_state) l__law_state c__law_state k__law_state
  have b__law_state := F__law_state.binds (ps := ["_law_script"]) fun _ _ _ _ _ _ us hl => match us, hl with | [_], _ => rfl
  have F__law_take := fun_mk (st := s__law_take) l__law_take c__law_take k__law_take
  have b__law_take := F__law_take.binds (ps := ["_law_state_here", "_law_most"]) fun _ _ _ _ _ _ us hl => match us, hl with | [_, _], _ => rfl
  have F__law_text := fun_mk (st := s__law_text) l__law_text c__law_text k__law_text
  have b__law_text := F__law_text.binds (ps := ["_law_state_here", "_law_most"]) fun _ _ _ _ _ _ us hl => match us, hl with | [_, _], _ => rfl
  have F__law_pusher := fun_mk (st := s__law_pusher) l__law_pusher c__law_pusher k__law_pusher
  have b__law_pusher := F__law_pusher.binds (ps := ["_law_state_here"]) fun _ _ _ _ _ _ us hl => match us, hl with | [_], _ => rfl
  have F__law_blobs := fun_mk (st := s__law_blobs) l__law_blobs c__law_blobs k__law_blobs
  have b__law_blobs := F__law_blobs.binds (ps := ["_law_pusher_here"]) fun _ _ _ _ _ _ us hl => match us, hl with | [_], _ => rfl
  have F__law_target := fun_mk (st := s__law_target) l__law_target c__law_target k__law_target
  have b__law_target := F__law_target.binds (ps := ["_law_pusher_here"]) fun _ _ _ _ _ _ us hl => match us, hl with | [_], _ => rfl
  have F__law_layer := fun_mk (st := s__law_layer) l__law_layer c__law_layer k__law_layer
  have b__law_layer := F__law_layer.binds (ps := ["_law_pusher_here", "_law_model"]) fun _ _ _ _ _ _ us hl => match us, hl with | [_, _], _ => rfl
  have F__law_request := fun_mk (st := s__law_request) l__law_request c__law_request k__law_request
  have b__law_request := F__law_request.binds (ps := ["_law_pusher_here", "_law_model"]) fun _ _ _ _ _ _ us hl => match us, hl with | [_, _], _ => rfl
  have F__law_place := fun_mk (st := s__law_place) l__law_place c__law_place k__law_place
  have b__law_place := F__law_place.binds (ps := ["_law_pusher_here", "_law_place_here"]) fun _ _ _ _ _ _ us hl => match us, hl with | [_, _], _ => rfl
  have F__law_layer_step := fun_mk (st := s__law_layer_step) l__law_layer_step c__law_layer_step k__law_layer_step
  have b__law_layer_step := F__law_layer_step.binds (ps := ["_law_pusher_here", "_law_model", "_law_reply_here"]) fun _ _ _ _ _ _ us hl => match us, hl with | [_, _, _], _ => rfl
  have F__law_end_step := fun_mk (st := s__law_end_step) l__law_end_step c__law_end_step k__law_end_step
  have b__law_end_step := F__law_end_step.binds (ps := ["_law_pusher_here", "_law_model", "_law_reply_here"]) fun _ _ _ _ _ _ us hl => match us, hl with | [_, _, _], _ => rfl
  have F__law_next := fun_mk (st := s__law_next) l__law_next c__law_next k__law_next
  have b__law_next := F__law_next.binds (ps := ["_law_pusher_here", "_law_model", "_law_reply_here"]) fun _ _ _ _ _ _ us hl => match us, hl with | [_, _, _], _ => rfl
  have F__law_reply := fun_mk (st := s__law_reply) l__law_reply c__law_reply k__law_reply
  have b__law_reply := F__law_reply.binds (ps := ["_law_state_here", "_law_pusher_here", "_law_model"]) fun _ _ _ _ _ _ us hl => match us, hl with | [_, _, _], _ => rfl
  have F_law := fun_mk (st := s_law) l_law c_law k_law
  have T : Txt w K mg C_Pusher a_KINDS := ⟨⟨pg_Pusher, hd_Pusher, po_Pusher, sa_Pusher⟩,
    na_Pusher_layers,
    na_Pusher_name,
    na_Pusher_platform,
    na_Pusher_number,
    na_Pusher_done,
    na_Pusher_step,
    na_Pusher_claim,
    na_Pusher_place,
    na_Pusher_upload,
    na_Pusher_at,
    ⟨_, _, F_Pusher___init__, ⟨mk_Pusher, a_Pusher___init__, i_Pusher___init__, kc_Pusher⟩, PySem.W.mg_of X G a_Pusher, b_Pusher___init__⟩,
    ⟨_, _, F_Pusher_layer_address, ⟨a_Pusher_layer_address, i_Pusher_layer_address, k_Pusher_layer_address⟩, b_Pusher_layer_address⟩,
    ⟨_, _, F_Pusher_image, ⟨a_Pusher_image, i_Pusher_image, k_Pusher_image⟩, b_Pusher_image⟩,
    ⟨_, _, F_Pusher_bundle, ⟨a_Pusher_bundle, i_Pusher_bundle, k_Pusher_bundle⟩, b_Pusher_bundle⟩,
    ⟨_, _, F_Pusher_address, ⟨a_Pusher_address, i_Pusher_address, k_Pusher_address⟩, b_Pusher_address⟩,
    ⟨_, _, F_Pusher_request, ⟨a_Pusher_request, i_Pusher_request, k_Pusher_request⟩, b_Pusher_request⟩,
    ⟨_, _, F_Pusher_go, ⟨a_Pusher_go, i_Pusher_go, k_Pusher_go⟩, b_Pusher_go⟩,
    ⟨_, _, F_Pusher_go_layer, ⟨a_Pusher_go_layer, i_Pusher_go_layer, k_Pusher_go_layer⟩, b_Pusher_go_layer⟩,
    ⟨_, _, F_Pusher_take, ⟨a_Pusher_take, i_Pusher_take, k_Pusher_take⟩, b_Pusher_take⟩,
    ⟨_, _, F_Pusher_take_kept, ⟨a_Pusher_take_kept, i_Pusher_take_kept, k_Pusher_take_kept⟩, b_Pusher_take_kept⟩,
    ⟨_, _, F_Pusher_take_upload, ⟨a_Pusher_take_upload, i_Pusher_take_upload, k_Pusher_take_upload⟩, b_Pusher_take_upload⟩,
    ⟨_, _, F_Pusher_take_part, ⟨a_Pusher_take_part, i_Pusher_take_part, k_Pusher_take_part⟩, b_Pusher_take_part⟩,
    ⟨_, _, F_Pusher_take_put, ⟨a_Pusher_take_put, i_Pusher_take_put, k_Pusher_take_put⟩, b_Pusher_take_put⟩,
    ⟨_, _, F_Pusher_take_name, ⟨a_Pusher_take_name, i_Pusher_take_name, k_Pusher_take_name⟩, b_Pusher_take_name⟩,
    ⟨_, _, F_address_of, PySem.W.mg_of X G a_address_of, b_address_of⟩,
    ⟨_, _, F_image_text, PySem.W.mg_of X G a_image_text, b_image_text⟩,
    ⟨_, _, F_bundle_text, PySem.W.mg_of X G a_bundle_text, b_bundle_text⟩,
    ⟨_, _, F__law_state, PySem.W.mg_of X G a__law_state, b__law_state⟩,
    ⟨_, _, F__law_take, PySem.W.mg_of X G a__law_take, b__law_take⟩,
    ⟨_, _, F__law_text, PySem.W.mg_of X G a__law_text, b__law_text⟩,
    ⟨_, _, F__law_pusher, PySem.W.mg_of X G a__law_pusher, b__law_pusher⟩,
    ⟨_, _, F__law_blobs, PySem.W.mg_of X G a__law_blobs, b__law_blobs⟩,
    ⟨_, _, F__law_target, PySem.W.mg_of X G a__law_target, b__law_target⟩,
    ⟨_, _, F__law_layer, PySem.W.mg_of X G a__law_layer, b__law_layer⟩,
    ⟨_, _, F__law_request, PySem.W.mg_of X G a__law_request, b__law_request⟩,
    ⟨_, _, F__law_place, PySem.W.mg_of X G a__law_place, b__law_place⟩,
    ⟨_, _, F__law_layer_step, PySem.W.mg_of X G a__law_layer_step, b__law_layer_step⟩,
    ⟨_, _, F__law_end_step, PySem.W.mg_of X G a__law_end_step, b__law_end_step⟩,
    ⟨_, _, F__law_next, PySem.W.mg_of X G a__law_next, b__law_next⟩,
    ⟨_, _, F__law_reply, PySem.W.mg_of X G a__law_reply, b__law_reply⟩,
    PySem.W.mg_none_of X G z_abs,
    PySem.W.mg_none_of X G z_int,
    PySem.W.mg_none_of X G z_len,
    PySem.W.mg_none_of X G z_list,
    PySem.W.mg_none_of X G z_min,
    PySem.W.mg_none_of X G z_ord,
    PySem.W.mg_none_of X G z_range,
    PySem.W.mg_none_of X G z_repr,
    ⟨_, PySem.W.mg_of X G v_PART, ⟨_, rfl⟩⟩,
    ⟨_, PySem.W.mg_of X G v_PRIME, ⟨_, rfl⟩⟩,
    ⟨_, PySem.W.mg_of X G v_KINDS, rfl⟩,
    ⟨_, _, _, at_KINDS, rfl, rfl, rfl, sz_KINDS, vl_KINDS⟩⟩
  exact ⟨PySem.W.fnOf "law" "law" (defArgs s_law) (defBody s_law) (defScope s_law) .none kV_law dc_law pm_law an_law cd_law ct_law, fun s v => .of_eq rfl, fun base _ _ => ok_law T F_law⟩
theorem walk {l : PySem.W.OpenLaw} {q : Program} {loose : List Str} {XP : (Str → Option Value) → Heap → Prop} {YP : World → Heap → Prop} {d : DefRec} {K : Params → PySem.W.Frag} (hn : l.most = some 63) (hdf : d.params.defaults = [])
    (hY : ∀ (w : World) (h : Heap), YP w h → (K w.params).In h)
    (F : ∀ (w : World) (mg : Str → Option Value) (fa : Addr) (h : Heap), (K w.params).In h → h.Ns mainGlobals mg → mg d.name = some (.ref fa) →
      ∃ fd : FuncData, (∀ (s : Shared) (u : Value), BindsTo s fd ⟨[u], []⟩ [("_law_script", u)]) ∧ ∀ base : Heap, (K w.params).In base → base.Ns mainGlobals mg → FnOk l.prog w (K w.params) mg base CX0 8 fa fd ["_law_script"] (spLaw (K w.params))) :
    PySem.W.WalkO q loose XP YP l.row.toRowW d [] (fun f vs => PySem.call f vs) :=
  L2.walk_of (n := 63) (k := 8) (x := "_law_script") (CX := fun _ => CX0) (sp := fun w => spLaw (K w.params)) hn (by decide) hdf ⟨rfl, by decide, by decide⟩ hY F (fun _ _ a ns hl _ hS => ⟨a, ns, rfl, hS, hl, fun _ => rfl⟩) fun _ _ _ _ _ z => z
end Lw
open PySem PySem.W PyProof.Rows
set_option maxRecDepth 100000 in
set_option maxHeartbeats 0 in
theorem PySem.Challenge.cw_layerwharf_k21_push_step_by_step_holds : PySem.Challenge.rw_layerwharf_k21_push_step_by_step.Holds := by
  w_on; o_law; k_head; (case hw => w_witness2)
  k_fill
  refine Lw.walk (l := PySem.Challenge.rw_layerwharf_k21_push_step_by_step) rfl rfl (fun w h Y => PySem.W.kIn_of Y) ?F
  case F =>
    intro w mg fa h KX G hmg
    refine' Lw.all_mk KX G hmg ?a_Pusher ?pg_Pusher ?hd_Pusher ?po_Pusher ?sa_Pusher ?mk_Pusher ?kc_Pusher ?na_Pusher_layers ?na_Pusher_name ?na_Pusher_platform ?na_Pusher_number ?na_Pusher_done ?na_Pusher_step ?na_Pusher_claim ?na_Pusher_place ?na_Pusher_upload ?na_Pusher_at ?a_Pusher___init__ ?i_Pusher___init__ ?l_Pusher___init__ ?c_Pusher___init__ ?k_Pusher___init__ ?a_Pusher_layer_address ?i_Pusher_layer_address ?l_Pusher_layer_address ?c_Pusher_layer_address ?k_Pusher_layer_address ?a_Pusher_image ?i_Pusher_image ?l_Pusher_image ?c_Pusher_image ?k_Pusher_image ?a_Pusher_bundle ?i_Pusher_bundle ?l_Pusher_bundle ?c_Pusher_bundle ?k_Pusher_bundle ?a_Pusher_address ?i_Pusher_address ?l_Pusher_address ?c_Pusher_address ?k_Pusher_address ?a_Pusher_request ?i_Pusher_request ?l_Pusher_request ?c_Pusher_request ?k_Pusher_request ?a_Pusher_go ?i_Pusher_go ?l_Pusher_go ?c_Pusher_go ?k_Pusher_go ?a_Pusher_go_layer ?i_Pusher_go_layer ?l_Pusher_go_layer ?c_Pusher_go_layer ?k_Pusher_go_layer ?a_Pusher_take ?i_Pusher_take ?l_Pusher_take ?c_Pusher_take ?k_Pusher_take ?a_Pusher_take_kept ?i_Pusher_take_kept ?l_Pusher_take_kept ?c_Pusher_take_kept ?k_Pusher_take_kept ?a_Pusher_take_upload ?i_Pusher_take_upload ?l_Pusher_take_upload ?c_Pusher_take_upload ?k_Pusher_take_upload ?a_Pusher_take_part ?i_Pusher_take_part ?l_Pusher_take_part ?c_Pusher_take_part ?k_Pusher_take_part ?a_Pusher_take_put ?i_Pusher_take_put ?l_Pusher_take_put ?c_Pusher_take_put ?k_Pusher_take_put ?a_Pusher_take_name ?i_Pusher_take_name ?l_Pusher_take_name ?c_Pusher_take_name ?k_Pusher_take_name ?a_address_of ?l_address_of ?c_address_of ?k_address_of ?a_image_text ?l_image_text ?c_image_text ?k_image_text ?a_bundle_text ?l_bundle_text ?c_bundle_text ?k_bundle_text ?a__law_state ?l__law_state ?c__law_state ?k__law_state ?a__law_take ?l__law_take ?c__law_take ?k__law_take ?a__law_text ?l__law_text ?c__law_text ?k__law_text ?a__law_pusher ?l__law_pusher ?c__law_pusher ?k__law_pusher ?a__law_blobs ?l__law_blobs ?c__law_blobs ?k__law_blobs ?a__law_target ?l__law_target ?c__law_target ?k__law_target ?a__law_layer ?l__law_layer ?c__law_layer ?k__law_layer ?a__law_request ?l__law_request ?c__law_request ?k__law_request ?a__law_place ?l__law_place ?c__law_place ?k__law_place ?a__law_layer_step ?l__law_layer_step ?c__law_layer_step ?k__law_layer_step ?a__law_end_step ?l__law_end_step ?c__law_end_step ?k__law_end_step ?a__law_next ?l__law_next ?c__law_next ?k__law_next ?a__law_reply ?l__law_reply ?c__law_reply ?k__law_reply ?a_law ?l_law ?c_law ?k_law ?z_abs ?z_int ?z_len ?z_list ?z_min ?z_ord ?z_range ?z_repr ?v_PART ?v_PRIME ?v_KINDS ?at_KINDS ?vl_KINDS ?sz_KINDS
    (case a_Pusher => k_is)
    (case pg_Pusher => k_is)
    (case hd_Pusher => k_is)
    (case po_Pusher => k_is)
    (case sa_Pusher => k_is)
    (case mk_Pusher => k_is)
    (case kc_Pusher => k_is)
    (case na_Pusher_layers => k_is)
    (case na_Pusher_name => k_is)
    (case na_Pusher_platform => k_is)
    (case na_Pusher_number => k_is)
    (case na_Pusher_done => k_is)
    (case na_Pusher_step => k_is)
    (case na_Pusher_claim => k_is)
    (case na_Pusher_place => k_is)
    (case na_Pusher_upload => k_is)
    (case na_Pusher_at => k_is)
    (case a_Pusher___init__ => k_is)
    (case i_Pusher___init__ => k_is)
    (case l_Pusher___init__ => k_is)
    (case c_Pusher___init__ => k_is)
    (case k_Pusher___init__ => k_is)
    (case a_Pusher_layer_address => k_is)
    (case i_Pusher_layer_address => k_is)
    (case l_Pusher_layer_address => k_is)
    (case c_Pusher_layer_address => k_is)
    (case k_Pusher_layer_address => k_is)
    (case a_Pusher_image => k_is)
    (case i_Pusher_image => k_is)
    (case l_Pusher_image => k_is)
    (case c_Pusher_image => k_is)
    (case k_Pusher_image => k_is)
    (case a_Pusher_bundle => k_is)
    (case i_Pusher_bundle => k_is)
    (case l_Pusher_bundle => k_is)
    (case c_Pusher_bundle => k_is)
    (case k_Pusher_bundle => k_is)
    (case a_Pusher_address => k_is)
    (case i_Pusher_address => k_is)
    (case l_Pusher_address => k_is)
    (case c_Pusher_address => k_is)
    (case k_Pusher_address => k_is)
    (case a_Pusher_request => k_is)
    (case i_Pusher_request => k_is)
    (case l_Pusher_request => k_is)
    (case c_Pusher_request => k_is)
    (case k_Pusher_request => k_is)
    (case a_Pusher_go => k_is)
    (case i_Pusher_go => k_is)
    (case l_Pusher_go => k_is)
    (case c_Pusher_go => k_is)
    (case k_Pusher_go => k_is)
    (case a_Pusher_go_layer => k_is)
    (case i_Pusher_go_layer => k_is)
    (case l_Pusher_go_layer => k_is)
    (case c_Pusher_go_layer => k_is)
    (case k_Pusher_go_layer => k_is)
    (case a_Pusher_take => k_is)
    (case i_Pusher_take => k_is)
    (case l_Pusher_take => k_is)
    (case c_Pusher_take => k_is)
    (case k_Pusher_take => k_is)
    (case a_Pusher_take_kept => k_is)
    (case i_Pusher_take_kept => k_is)
    (case l_Pusher_take_kept => k_is)
    (case c_Pusher_take_kept => k_is)
    (case k_Pusher_take_kept => k_is)
    (case a_Pusher_take_upload => k_is)
    (case i_Pusher_take_upload => k_is)
    (case l_Pusher_take_upload => k_is)
    (case c_Pusher_take_upload => k_is)
    (case k_Pusher_take_upload => k_is)
    (case a_Pusher_take_part => k_is)
    (case i_Pusher_take_part => k_is)
    (case l_Pusher_take_part => k_is)
    (case c_Pusher_take_part => k_is)
    (case k_Pusher_take_part => k_is)
    (case a_Pusher_take_put => k_is)
    (case i_Pusher_take_put => k_is)
    (case l_Pusher_take_put => k_is)
    (case c_Pusher_take_put => k_is)
    (case k_Pusher_take_put => k_is)
    (case a_Pusher_take_name => k_is)
    (case i_Pusher_take_name => k_is)
    (case l_Pusher_take_name => k_is)
    (case c_Pusher_take_name => k_is)
    (case k_Pusher_take_name => k_is)
    (case a_address_of => k_is)
    (case l_address_of => k_is)
    (case c_address_of => k_is)
    (case k_address_of => k_is)
    (case a_image_text => k_is)
    (case l_image_text => k_is)
    (case c_image_text => k_is)
    (case k_image_text => k_is)
    (case a_bundle_text => k_is)
    (case l_bundle_text => k_is)
    (case c_bundle_text => k_is)
    (case k_bundle_text => k_is)
    (case a__law_state => k_is)
    (case l__law_state => k_is)
    (case c__law_state => k_is)
    (case k__law_state => k_is)
    (case a__law_take => k_is)
    (case l__law_take => k_is)
    (case c__law_take => k_is)
    (case k__law_take => k_is)
    (case a__law_text => k_is)
    (case l__law_text => k_is)
    (case c__law_text => k_is)
    (case k__law_text => k_is)
    (case a__law_pusher => k_is)
    (case l__law_pusher => k_is)
    (case c__law_pusher => k_is)
    (case k__law_pusher => k_is)
    (case a__law_blobs => k_is)
    (case l__law_blobs => k_is)
    (case c__law_blobs => k_is)
    (case k__law_blobs => k_is)
    (case a__law_target => k_is)
    (case l__law_target => k_is)
    (case c__law_target => k_is)
    (case k__law_target => k_is)
    (case a__law_layer => k_is)
    (case l__law_layer => k_is)
    (case c__law_layer => k_is)
    (case k__law_layer => k_is)
    (case a__law_request => k_is)
    (case l__law_request => k_is)
    (case c__law_request => k_is)
    (case k__law_request => k_is)
    (case a__law_place => k_is)
    (case l__law_place => k_is)
    (case c__law_place => k_is)
    (case k__law_place => k_is)
    (case a__law_layer_step => k_is)
    (case l__law_layer_step => k_is)
    (case c__law_layer_step => k_is)
    (case k__law_layer_step => k_is)
    (case a__law_end_step => k_is)
    (case l__law_end_step => k_is)
    (case c__law_end_step => k_is)
    (case k__law_end_step => k_is)
    (case a__law_next => k_is)
    (case l__law_next => k_is)
    (case c__law_next => k_is)
    (case k__law_next => k_is)
    (case a__law_reply => k_is)
    (case l__law_reply => k_is)
    (case c__law_reply => k_is)
    (case k__law_reply => k_is)
    (case a_law => k_is)
    (case l_law => k_is)
    (case c_law => k_is)
    (case k_law => k_is)
    (case z_abs => k_is)
    (case z_int => k_is)
    (case z_len => k_is)
    (case z_list => k_is)
    (case z_min => k_is)
    (case z_ord => k_is)
    (case z_range => k_is)
    (case z_repr => k_is)
    (case v_PART => k_is)
    (case v_PRIME => k_is)
    (case v_KINDS => k_is)
    (case at_KINDS => k_is)
    (case vl_KINDS => exact .cons ⟨_, rfl⟩ (.cons ⟨_, rfl⟩ (.cons ⟨_, rfl⟩ .nil)))
    (case sz_KINDS => (show 3 ≤ sizeLine); decide)
