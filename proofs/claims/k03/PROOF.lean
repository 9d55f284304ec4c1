import PyProof.Rows.All
import Wide.All
import OpenK.AllK
import Wide.FinOn
import HandS.ForMost
import HandS.TupAny
import HandS.More
import HandS.Style
import HandS.Conv
import HandS.Codes
import HandS.FStr
import HandS.IsInst
import HandS.Strs
import HandS.Replace
import HandS.Walk
import HandS.Dict
import HandS.Flow
import HandS.Iter
import HandS.MakeKwOnly
import HandS.Exc
import HandS.ExcOwn
import HandS.ExcInit
import HandS.ExcField
import HandS.ExcIs
import HandS.WordsExc
import HandS.TryOnly
import KE.KExcIs
import PyProof.Rows.StrIntSpec
import PySem.Challenge.RW_layerwharf_k03_whole_blobs
set_option Elab.async false
set_option maxRecDepth 100000
set_option maxHeartbeats 4000000
set_option linter.all false
/-! ## words of our own, for every law -/
namespace Lw
open PySem L2
open PyProof.Rows (envOfC)

/-! ### what calls what -/
structure Cal (P : Program) (w : World) (K : PySem.W.Frag) (mg : Str → Option Value) (base : Heap) (k : Nat) (x : Str) (sp : Sp) : Prop where
  ex : ∃ (f : Addr) (fd : FuncData) (ps : List Str), FnOk P w K mg base CX0 k f fd ps sp ∧ mg x = some (.ref f) ∧ PySem.W.keepIn K (.ref f) = true ∧ Binds K fd ps []
structure Met (P : Program) (w : World) (K : PySem.W.Frag) (mg : Str → Option Value) (base : Heap) (k : Nat) (C : Addr) (m : Str) (sp : Sp) : Prop where
  ex : ∃ (f : Addr) (fd : FuncData) (ps : List Str), Cls K C ∧ Meth K C m f ∧ FnOk P w K mg base CX0 k f fd ps sp ∧ Binds K fd ps []
structure Mak (P : Program) (w : World) (K : PySem.W.Frag) (mg : Str → Option Value) (base : Heap) (k : Nat) (x : Str) (C : Addr) (sp : Sp) : Prop where
  ex : ∃ (f : Addr) (fd : FuncData) (ps : List Str), Mk K C f ∧ FnOk P w K mg base CX0 k f fd ps sp ∧ mg x = some (.ref C) ∧ Binds K fd ps []
/-- a def of the module -/
structure DefAt (K : PySem.W.Frag) (mg : Str → Option Value) (x : Str) (st : Stmt) (ps : List Str) : Prop where
  ex : ∃ (f : Addr) (fd : FuncData), Fun K x x st f fd ∧ mg x = some (.ref f) ∧ Binds K fd ps []
/-- a method of a class -/
structure MetAt (K : PySem.W.Frag) (C : Addr) (m qual : Str) (st : Stmt) (ps : List Str) : Prop where
  ex : ∃ (f : Addr) (fd : FuncData), Fun K m qual st f fd ∧ Meth K C m f ∧ Binds K fd ps []
/-- a class's __init__ -/
structure IniAt (K : PySem.W.Frag) (mg : Str → Option Value) (x : Str) (C : Addr) (qual : Str) (st : Stmt) (ps : List Str) : Prop where
  ex : ∃ (f : Addr) (fd : FuncData), Fun K "__init__" qual st f fd ∧ Mk K C f ∧ mg x = some (.ref C) ∧ Binds K fd ps []
/-- .. with keyword-only parameters ks, n other ones -/
structure IniKw (K : PySem.W.Frag) (mg : Str → Option Value) (x : Str) (C : Addr) (qual : Str) (st : Stmt) (ps : List Str) (n : Nat) (ks : List Str) : Prop where
  ex : ∃ (f : Addr) (fd : FuncData), Fun K "__init__" qual st f fd ∧ Mk K C f ∧ mg x = some (.ref C) ∧ KBn K fd ps n ks (fun us ws => us ++ ws) (fun vs zs => vs ++ zs)
structure MakK (P : Program) (w : World) (K : PySem.W.Frag) (mg : Str → Option Value) (base : Heap) (k : Nat) (x : Str) (C : Addr) (n : Nat) (ks : List Str) (sp : Sp) : Prop where
  ex : ∃ (f : Addr) (fd : FuncData) (ps : List Str), Mk K C f ∧ FnOk P w K mg base CX0 k f fd ps sp ∧ mg x = some (.ref C) ∧ KBn K fd ps (n + 1) ks (fun us ws => us ++ ws) (fun vs zs => vs ++ zs)
section
variable {P : Program} {w : World} {K : PySem.W.Frag} {mg : Str → Option Value} {base : Heap}
theorem makK_mk {x qual : Str} {C : Addr} {st : Stmt} {N ps ks : List Str} {n k : Nat} {sp : Sp} (D : IniKw K mg x C qual st ps (n + 1) ks) (S : FnScope N ps (defScope st)) (len : ∀ vs H Q E, sp vs H Q E → vs.length = ps.length)
    (hbody : ∀ (f : Addr) (cdv : Value) (A : Around) (outer : List Env) (s : Shared) (H : Hp) (vs : List V) (Q : VK) (E : XK), Room k (A.deeper (envOfC qual (defScope st) s.heap.objs.size f cdv)) → sp vs H Q E →
      ∃ t, PSs (cxOf CX0 P w K mg base N qual (defScope st) f cdv A outer s H E).nox (defBody st) t ∧ t { nx := fun _ H' => Q .non H', rt := Q } (start N vs) H) : MakK P w K mg base (k + 1) x C n ks sp := by
  obtain ⟨f, fd, F, M, hm, hb⟩ := D.ex
  exact ⟨f, fd, ps, M, F.ok S len fun cdv A outer s H vs Q E hr h => hbody f cdv A outer s H vs Q E hr h, hm, hb⟩
theorem cal_mk {x : Str} {st : Stmt} {N ps : List Str} {k : Nat} {sp : Sp} (D : DefAt K mg x st ps) (S : FnScope N ps (defScope st)) (len : ∀ vs H Q E, sp vs H Q E → vs.length = ps.length)
    (hbody : ∀ (f : Addr) (cdv : Value) (A : Around) (outer : List Env) (s : Shared) (H : Hp) (vs : List V) (Q : VK) (E : XK), Room k (A.deeper (envOfC x (defScope st) s.heap.objs.size f cdv)) → sp vs H Q E →
      ∃ t, PSs (cxOf CX0 P w K mg base N x (defScope st) f cdv A outer s H E).nox (defBody st) t ∧ t { nx := fun _ H' => Q .non H', rt := Q } (start N vs) H) : Cal P w K mg base (k + 1) x sp := by
  obtain ⟨f, fd, F, hm, hb⟩ := D.ex
  exact ⟨f, fd, ps, F.ok S len fun cdv A outer s H vs Q E hr h => hbody f cdv A outer s H vs Q E hr h, hm, F.kp, hb⟩
theorem met_mk {m qual : Str} {C : Addr} {st : Stmt} {N ps : List Str} {k : Nat} {sp : Sp} (c : Cls K C) (D : MetAt K C m qual st ps) (S : FnScope N ps (defScope st)) (len : ∀ vs H Q E, sp vs H Q E → vs.length = ps.length)
    (hbody : ∀ (f : Addr) (cdv : Value) (A : Around) (outer : List Env) (s : Shared) (H : Hp) (vs : List V) (Q : VK) (E : XK), Room k (A.deeper (envOfC qual (defScope st) s.heap.objs.size f cdv)) → sp vs H Q E →
      ∃ t, PSs (cxOf CX0 P w K mg base N qual (defScope st) f cdv A outer s H E).nox (defBody st) t ∧ t { nx := fun _ H' => Q .non H', rt := Q } (start N vs) H) : Met P w K mg base (k + 1) C m sp := by
  obtain ⟨f, fd, F, hm, hb⟩ := D.ex
  exact ⟨f, fd, ps, c, hm, F.ok S len fun cdv A outer s H vs Q E hr h => hbody f cdv A outer s H vs Q E hr h, hb⟩
theorem mak_mk {x qual : Str} {C : Addr} {st : Stmt} {N ps : List Str} {k : Nat} {sp : Sp} (D : IniAt K mg x C qual st ps) (S : FnScope N ps (defScope st)) (len : ∀ vs H Q E, sp vs H Q E → vs.length = ps.length)
    (hbody : ∀ (f : Addr) (cdv : Value) (A : Around) (outer : List Env) (s : Shared) (H : Hp) (vs : List V) (Q : VK) (E : XK), Room k (A.deeper (envOfC qual (defScope st) s.heap.objs.size f cdv)) → sp vs H Q E →
      ∃ t, PSs (cxOf CX0 P w K mg base N qual (defScope st) f cdv A outer s H E).nox (defBody st) t ∧ t { nx := fun _ H' => Q .non H', rt := Q } (start N vs) H) : Mak P w K mg base (k + 1) x C sp := by
  obtain ⟨f, fd, F, M, hm, hb⟩ := D.ex
  exact ⟨f, fd, ps, M, F.ok S len fun cdv A outer s H vs Q E hr h => hbody f cdv A outer s H vs Q E hr h, hm, hb⟩
end
section
variable {X : Cx} {x m : Str} {C : Addr} {sp : Sp} {k j : Nat} {e o : Expr} {es : List Expr} {p pos apos : Pos} {ta : TE} {t : TA}
theorem pe_c (c : Cal X.prog X.w X.K X.mg X.base k x sp) (hr : Room j X.A) (hk : k ≤ j) (hg : Gl X x) (ha : PA X (e :: es) t)
    (hdb : (x == ("__debug__" : Str)) = false := by decide) (he : starEach (e :: es) X.env = (false, eval e X.env) :: starEach es X.env := by rfl) (hpl : (backTo pos (starEach es X.env)).any (·.1) = false := by rfl) :
    PE X (.Call (.Name x p) (e :: es) [] pos) (tCall sp [] E0 t) := by
  obtain ⟨f, fd, ps, F, hm, kp, b⟩ := c.ex
  exact pe_call F (hr.mono hk) hg hm kp b .nil pass0 ha hdb he hpl
theorem pe_mk (c : Mak X.prog X.w X.K X.mg X.base k x C sp) (hr : Room j X.A) (hk : k + 1 ≤ j) (hg : Gl X x) (ha : PA X (e :: es) t)
    (hdb : (x == ("__debug__" : Str)) = false := by decide) (he : starEach (e :: es) X.env = (false, eval e X.env) :: starEach es X.env := by rfl) (hpl : (backTo pos (starEach es X.env)).any (·.1) = false := by rfl) :
    PE X (.Call (.Name x p) (e :: es) [] pos) (tMake C sp [] E0 t) := by
  obtain ⟨f, fd, ps, M, F, hm, b⟩ := c.ex
  exact pe_make M F (hr.mono hk) hg hm b .nil pass0 ha hdb he hpl
theorem pe_mk0 (c : Mak X.prog X.w X.K X.mg X.base k x C sp) (hr : Room j X.A) (hk : k + 1 ≤ j) (hg : Gl X x) (hdb : (x == ("__debug__" : Str)) = false := by decide) :
    PE X (.Call (.Name x p) [] [] pos) (tMake C sp [] E0 tNil) := by
  obtain ⟨f, fd, ps, M, F, hm, b⟩ := c.ex
  exact pe_make0 M F (hr.mono hk) hg hm b .nil pass0 hdb
theorem pe_mkK {n : Nat} {ks : List Str} {kws : List Keyword} {tk : TA} (c : MakK X.prog X.w X.K X.mg X.base k x C n ks sp) (hr : Room j X.A) (hk : k + 1 ≤ j) (hg : Gl X x) (ha : PA X (e :: es) t) (hkw : PK X kws tk)
    (hall : (backToKw pos (keywordEach kws X.env)).all (·.1.isSome) = true := by rfl) (hks : (backToKw pos (keywordEach kws X.env)).filterMap (·.1) = ks := by rfl) (hdb : (x == ("__debug__" : Str)) = false := by decide)
    (he : starEach (e :: es) X.env = (false, eval e X.env) :: starEach es X.env := by rfl) (hpl : ((backTo pos (starEach (e :: es) X.env)).any (·.1) || (backToKw pos (keywordEach kws X.env)).any (·.1.isNone)) = false := by rfl) :
    PE X (.Call (.Name x p) (e :: es) kws pos) (tMakeK C n ks.length sp (fun vs zs => vs ++ zs) E0 t tk) := by
  obtain ⟨f, fd, ps, M, F, hm, b⟩ := c.ex
  exact pe_makeK M F (hr.mono hk) hg hm b pass0 ha hkw hall hks hdb he hpl
theorem pe_mt {pl : Sem Bool} (c : Met X.prog X.w X.K X.mg X.base k C m sp) (hr : Room j X.A) (hk : k ≤ j) (he : PE X o ta) (ha : PA X (e :: es) t)
    (hst : starEach (e :: es) X.env = (false, eval e X.env) :: starEach es X.env := by rfl) (hpl : (backTo pos (starEach es X.env)).any (·.1) = false := by rfl)
    (ht : eval (.Call (.Attribute o m apos) (e :: es) [] pos) X.env = (do
      let ov ← eval o X.env
      standAt apos.atName
      let (f, first) ← holding [ov] (getMethod ov m pl)
      callWith pos f first (backTo pos (starEach (e :: es) X.env)) (backToKw pos (keywordEach [] X.env))) := by rfl) :
    PE X (.Call (.Attribute o m apos) (e :: es) [] pos) (tMeth C m sp [] E0 ta t) := by
  obtain ⟨f, fd, ps, hc, hm, F, b⟩ := c.ex
  exact pe_meth (pl := pl) he hc hm F (hr.mono hk) b .nil pass0 ha hst hpl ht
theorem pe_mt0 {pl : Sem Bool} (c : Met X.prog X.w X.K X.mg X.base k C m sp) (hr : Room j X.A) (hk : k ≤ j) (he : PE X o ta)
    (ht : eval (.Call (.Attribute o m apos) [] [] pos) X.env = (do
      let ov ← eval o X.env
      standAt apos.atName
      let (f, first) ← holding [ov] (getMethod ov m pl)
      callWith pos f first (backTo pos (starEach [] X.env)) (backToKw pos (keywordEach [] X.env))) := by rfl) :
    PE X (.Call (.Attribute o m apos) [] [] pos) (tMeth C m sp [] E0 ta tNil) := by
  obtain ⟨f, fd, ps, hc, hm, F, b⟩ := c.ex
  exact pe_meth0 (pl := pl) he hc hm F (hr.mono hk) b .nil pass0 ht
theorem pe_gc {v : V} (hg : Gl X x) (h : ∃ u, X.mg x = some u ∧ RelV v u) (hd : (x == ("__debug__" : Str)) = false := by decide) : PE X (.Name x pos) (tC v) := by
  obtain ⟨u, hm, r⟩ := h
  exact pe_glob hg hm r hd
end

theorem _root_.L2.Same.new {H : Hp} {p : Addr} {o : HO} (h : H p = none) : Same H (upd H p o) := fun b u e => by rw [upd_ne (ne_of_none e h)]; exact e
theorem _root_.L2.Same.seqT {K : PySem.W.Frag} {H H' : Hp} {a : Addr} {xs : List V} (e : Same H H') (h : SqT K H a xs) : SqT K H' a xs := by
  rcases h with (h | ⟨o, h⟩) | h
  · exact .inl (.inl (e _ _ h))
  · exact .inl (.inr ⟨o, e _ _ h⟩)
  · exact .inr h
theorem _root_.L2.Same.thenNew {H H' : Hp} {p : Addr} {o : HO} (s : Same H H') (h : H' p = none) : Same H (upd H' p o) := s.trans (Same.new h)
/-- a list that a def made for itself grows -/
theorem _root_.L2.Same.grow {H H' : Hp} {p : Addr} {o : HO} (s : Same H H') (h : H p = none) : Same H (upd H' p o) := fun b u e => by
  rw [upd_ne (ne_of_none e h)]
  exact s b u e

theorem ix_tupK {X : Cx} (K : PySem.W.Frag) (h : X.K = K) : IxR X (rIxT K) := by subst h; exact ix_tup
theorem ix_listK {X : Cx} (K : PySem.W.Frag) (h : X.K = K) : IxR X (rIxL K) := by subst h; exact ix_list
/-! ### steps through a reading -/
def rStr (x : V) (A : Prop) : Prop := (∃ a, x = .str a) ∧ A
def rCatS : R2 := fun x y H Q => ∃ i j, x = .str i ∧ y = .str j ∧ i.length + j.length ≤ sizeLine ∧ Q (.str (i ++ j)) H
theorem op_cat_str {X : Cx} : OpR X (binaryOp .Add) rCatS := op_add_str
def rInt1 : List V → Hp → VK → Prop := fun xs H Q => (∃ i, xs = [.int i] ∧ Q (.int i) H) ∨ ∃ k, xs = [.bl k] ∧ Q (.int (if k then 1 else 0)) H
theorem call_int1' {X : Cx} : CallR X (.type "int") rInt1 := call_int1
def rLenQ (K : PySem.W.Frag) : List V → Hp → VK → Prop := fun xs H Q => ∃ p ys, xs = [.ref p] ∧ (SqL K H p ys ∨ SqT K H p ys) ∧ Q (.int ys.length) H
theorem call_len_seq' {X : Cx} : CallR X (.builtin "len") (rLenQ X.K) := call_len_seq
def rLenT : List V → Hp → VK → Prop := fun xs H Q => ∃ z, xs = [.str z] ∧ z.length ≤ sizeLine ∧ Q (.int z.length) H
theorem call_len_str' {X : Cx} : CallR X (.builtin "len") rLenT := call_len_str
def rLenD : List V → Hp → VK → Prop := fun xs H Q => ∃ a kvs, xs = [V.ref a] ∧ H a = some (.dK kvs) ∧ Q (.int kvs.length) H
theorem call_lenD' {X : Cx} : CallR X (.builtin "len") rLenD := call_lenD
def rReprB : List V → Hp → VK → Prop := fun xs H Q => ∃ b, xs = [.bl b] ∧ Q (.str (if b then "True" else "False")) H
theorem call_repr_bool {X : Cx} : CallR X (.builtin "repr") rReprB := by
  intro pins s σ H xs us Q I r h
  obtain ⟨b, rfl, q⟩ := h
  obtain ⟨u, rfl, rx⟩ := vals1 r
  cases rx
  exact PySem.P.repr_of_bool ⟨.str _, H, I.tok _, ⟨_, rfl⟩, q⟩
def rInSg : R2 := fun x y H Q => ∃ (c : Nat) (z : Str), x = .str (SX.S [c]) ∧ y = .str z ∧ Q (.bl (decide (c ∈ z.cps.toList))) H
def rNotInSg : R2 := fun x y H Q => ∃ (c : Nat) (z : Str), x = .str (SX.S [c]) ∧ y = .str z ∧ Q (.bl (!decide (c ∈ z.cps.toList))) H
theorem op_inSg {X : Cx} : OpR X (compareOp .In) rInSg := op_in_sign
theorem op_notInSg {X : Cx} : OpR X (compareOp .NotIn) rNotInSg := op_notIn_sign
def rOrd : List V → Hp → VK → Prop := fun xs H Q => ∃ x, xs = [.str x] ∧ x.length = 1 ∧ Q (.int (x.cps.getD 0 0 : Nat)) H
theorem call_ord' {X : Cx} : CallR X (.builtin "ord") rOrd := call_ord
def rIsN : R2 := fun x y H Q => y = .non ∧ Q (.bl (decide (x = .non))) H
def rNotN : R2 := fun x y H Q => y = .non ∧ Q (.bl (!decide (x = .non))) H
theorem op_isN' {X : Cx} : OpR X (compareOp .Is) rIsN := op_isN
theorem op_notN' {X : Cx} : OpR X (compareOp .IsNot) rNotN := op_notN
section
variable {σ : St} {H : Hp} {Q : VK} {K : PySem.W.Frag} {D : Ends} {ta tb te : TE} {tl : TA} {t u : TS} {c d : TT} {i : Nat} {v : V} {g : TG} {r : R2} {b : Bool}
theorem g_var (h : σ[i]? = some (some v)) (k : Q v H) : tVar i σ H Q := ⟨v, h, k⟩
theorem g_c (k : Q v H) : tC v σ H Q := k
theorem g_op (k : ta σ H fun x H1 => tb σ H1 fun y H2 => r x y H2 Q) : tOp r ta tb σ H Q := k
theorem g_I0 {f : Int → Int → V} {a b : Int} (k : Q (f a b) H) : rI0 f (.int a) (.int b) H Q := ⟨a, b, rfl, rfl, k⟩
theorem g_I {C : Int → Int → Prop} {f : Int → Int → V} {a b : Int} (h : C a b) (k : Q (f a b) H) : rI C f (.int a) (.int b) H Q := ⟨a, b, rfl, rfl, h, k⟩
theorem g_eq {x y : V} (h : scal x y = true) (k : Q (.bl (decide (x = y))) H) : rEq x y H Q := ⟨h, k⟩
theorem g_ne {x y : V} (h : scal x y = true) (k : Q (.bl (!decide (x = y))) H) : rNe x y H Q := ⟨h, k⟩
theorem g_nil {Q : List V → Hp → Prop} (k : Q [] H) : tNil σ H Q := k
theorem g_cons {Q : List V → Hp → Prop} (k : ta σ H fun x H1 => tl σ H1 fun xs H2 => Q (x :: xs) H2) : tCons ta tl σ H Q := k
theorem g_cb {r : List V → Hp → VK → Prop} (k : tl σ H fun vs H1 => r vs H1 Q) : tCB r tl σ H Q := k
theorem g_call {sp : Sp} {dvs : List V} {E : XK} (k : tl σ H fun vs H1 => sp (vs ++ dvs) H1 Q E) : tCall sp dvs E tl σ H Q := k
theorem g_test {Q : Bool → Hp → Prop} (k : te σ H fun x H1 => ∃ z, x = .bl z ∧ Q z H1) : tTest te σ H Q := k
theorem g_B {Q : Bool → Hp → Prop} (k : te σ H fun x H1 => ∃ z, x = .bl z ∧ Q z H1) : tB te σ H Q := k
theorem g_exb {Q : Bool → Prop} (k : Q b) : ∃ z, V.bl b = .bl z ∧ Q z := ⟨b, rfl, k⟩
theorem g_not {Q : Bool → Hp → Prop} (k : c σ H fun b H1 => Q (!b) H1) : tNot c σ H Q := k
theorem g_and {Q : Bool → Hp → Prop} (k : c σ H fun b H1 => if b = true then d σ H1 Q else Q false H1) : tAnd c d σ H Q := k
theorem g_or {Q : Bool → Hp → Prop} (k : c σ H fun b H1 => if b = true then Q true H1 else d σ H1 Q) : tOr c d σ H Q := k
/-- what follows holds of any new place with o -/
def New (o : HO) (H : Hp) (Q : Addr → Hp → Prop) : Prop := ∀ p H', H p = none → Same H H' → H' p = some o → Q p H'
theorem New.to {o : HO} {Q : Addr → Hp → Prop} (k : New o H Q) : ∀ p, H p = none → Q p (upd H p o) := fun p hp => k p _ hp (fun b u e => by rw [upd_ne (ne_of_none e hp)]; exact e) upd_same
theorem small100 {n : Nat} (h : n ≤ 100) : n ≤ sizeLine := Nat.le_trans h (by decide)
def kTup (Q : VK) (xs : List V) (H1 : Hp) : Prop := xs.length ≤ sizeLine ∧ ∀ p, H1 p = none → Q (.ref p) (upd H1 p (.tup xs))
def kLst (Q : VK) (xs : List V) (H1 : Hp) : Prop := xs.length ≤ sizeLine ∧ ∀ p, H1 p = none → Q (.ref p) (upd H1 p (.lst xs))
theorem g_tup (k : tl σ H (kTup Q)) : tTup tl σ H Q := k
theorem g_lst (k : tl σ H (kLst Q)) : tLst tl σ H Q := k
/-- behind the items of a display -/
theorem g_ktup {xs : List V} (h : xs.length ≤ 100) (k : ∀ p H', H p = none → Same H H' → H' p = some (.tup xs) → Q (.ref p) H') : kTup Q xs H := ⟨small100 h, New.to (Q := fun p H' => Q (.ref p) H') k⟩
theorem g_klst {xs : List V} (h : xs.length ≤ 100) (k : ∀ p H', H p = none → Same H H' → H' p = some (.lst xs) → Q (.ref p) H') : kLst Q xs H := ⟨small100 h, New.to (Q := fun p H' => Q (.ref p) H') k⟩
theorem g_gcons {u : TGs} {v : V} {r : List V} {Q : St → Hp → Prop} (k : g v σ H fun σ' H' => u r σ' H' Q) : gCons g u (v :: r) σ H Q := ⟨v, r, rfl, k⟩
theorem g_gnil {Q : St → Hp → Prop} (k : Q σ H) : gNil [] σ H Q := ⟨rfl, k⟩
theorem g_gtup {K : PySem.W.Frag} {a : Addr} {xs : List V} {n : Nat} {u : TGs} {Q : St → Hp → Prop} (h : SqT K H a xs) (hn : xs.length = n) (k : u xs σ H Q) : gTup K n u (.ref a) σ H Q := ⟨a, xs, rfl, h, hn, k⟩
theorem _root_.L2.Same.at {H H' : Hp} {a : Addr} {o : HO} (s : Same H H') (h : H a = some o) : H' a = some o := s _ _ h
/-- x in (..), a display of flat values -/
theorem g_kinT {K : PySem.W.Frag} {x : V} {xs : List V} {b : Bool} (hl : xs.length ≤ 100) (hx : flatV x = true) (hs : xs.all flatV = true) (hb : inV x xs = b) (k : ∀ H', Same H H' → Q (.bl b) H') : kTup (fun y H2 => rIn K false x y H2 Q) xs H :=
  g_ktup hl fun p H' _ s h => ⟨p, xs, rfl, .inr (SqT.of h), hx, hs, by rw [hb]; exact k H' s⟩
theorem g_kninT {K : PySem.W.Frag} {x : V} {xs : List V} {b : Bool} (hl : xs.length ≤ 100) (hx : flatV x = true) (hs : xs.all flatV = true) (hb : inV x xs = b) (k : ∀ H', Same H H' → Q (.bl (!b)) H') : kTup (fun y H2 => rIn K true x y H2 Q) xs H :=
  g_ktup hl fun p H' _ s h => ⟨p, xs, rfl, .inr (SqT.of h), hx, hs, by rw [hb]; exact k H' s⟩
theorem g_kinL {K : PySem.W.Frag} {x : V} {xs : List V} {b : Bool} (hl : xs.length ≤ 100) (hx : flatV x = true) (hs : xs.all flatV = true) (hb : inV x xs = b) (k : ∀ H', Same H H' → Q (.bl b) H') : kLst (fun y H2 => rIn K false x y H2 Q) xs H :=
  g_klst hl fun p H' _ s h => ⟨p, xs, rfl, .inl (SqL.of h), hx, hs, by rw [hb]; exact k H' s⟩
theorem g_kninL {K : PySem.W.Frag} {x : V} {xs : List V} {b : Bool} (hl : xs.length ≤ 100) (hx : flatV x = true) (hs : xs.all flatV = true) (hb : inV x xs = b) (k : ∀ H', Same H H' → Q (.bl (!b)) H') : kLst (fun y H2 => rIn K true x y H2 Q) xs H :=
  g_klst hl fun p H' _ s h => ⟨p, xs, rfl, .inl (SqL.of h), hx, hs, by rw [hb]; exact k H' s⟩
theorem ifT {b : Bool} {A B : Prop} (h : b = true) (k : A) : if b = true then A else B := by rw [if_pos h]; exact k
theorem ifF {b : Bool} {A B : Prop} (h : b = false) (k : B) : if b = true then A else B := by subst h; exact iteF k
theorem g_catA {a b : Addr} {xs ys : List V} (ha : H a = some (.tup xs)) (hb : H b = some (.tup ys)) (h0 : xs ≠ []) (hl : xs.length + ys.length ≤ 100) (k : ∀ p H', Same H H' → H' p = some (.tup (xs ++ ys)) → Q (.ref p) H') : rCatA K (.ref a) (.ref b) H Q :=
  ⟨a, b, xs, ys, rfl, rfl, SqT.of ha, SqT.of hb, small100 hl, fun z => absurd z h0, fun _ z => k a H (Same.refl H) (by subst z; rw [List.append_nil]; exact ha), fun _ _ p hp => k p _ (fun b u e => by rw [upd_ne (ne_of_none e hp)]; exact e) upd_same⟩
theorem g_slA {a : Addr} {xs : List V} {lo hi : Option Int} (ha : H a = some (.tup xs)) (k : ∀ p H', Same H H' → H' p = some (.tup (cutV xs lo hi)) → Q (.ref p) H') : rSlA K (.ref a) lo hi H Q := by
  refine ⟨a, xs, rfl, SqT.of ha, fun z => k a H (Same.refl H) ?_, fun _ p hp => k p _ (fun b u e => by rw [upd_ne (ne_of_none e hp)]; exact e) upd_same⟩
  have e : cutV xs lo hi = xs := by
    unfold cutV
    rw [z.1, z.2, List.drop_zero, Nat.sub_zero, List.take_length]
  rw [e]; exact ha
theorem g_rslS {x : Str} {lo hi : Option Int} (h : x.length ≤ sizeLine) (k : Q (.str (Txt.slice x lo hi)) H) : C8.rSlX (.str x) lo hi H Q := ⟨x, rfl, h, k⟩
theorem g_ifx (k : c σ H fun b H1 => if b = true then ta σ H1 Q else tb σ H1 Q) : tIf c ta tb σ H Q := k
/-- a field read -/
def rFld (K : PySem.W.Frag) (f : Str) (x : V) (H : Hp) (Q : VK) : Prop := ∃ a C dx fs v, x = .ref a ∧ H a = some (.ins C dx fs) ∧ Cls K C ∧ NoAttr K C f ∧ fs.lookup f = some v ∧ Q v H
theorem g_fld {f : Str} (k : ta σ H fun x H1 => rFld K f x H1 Q) : tFld K ta f σ H Q := k
theorem g_rfld {f : Str} {a C dx : Addr} {fs : List (Str × V)} (h : H a = some (.ins C dx fs)) (hc : Cls K C) (hn : NoAttr K C f) (hl : fs.lookup f = some v) (k : Q v H) : rFld K f (.ref a) H Q := ⟨a, C, dx, fs, v, rfl, h, hc, hn, hl, k⟩
/-- a method called -/
def rMeth (C : Addr) (m : Str) (sp : Sp) (x : V) (tl : TA) (σ : St) (H : Hp) (Q : VK) : Prop := ∃ a dx fs, x = .ref a ∧ H a = some (.ins C dx fs) ∧ fs.lookup m = none ∧ tl σ H fun vs H2 => sp (x :: (vs ++ [])) H2 Q E0
def rSFld (K : PySem.W.Frag) (f : Str) (y x : V) (H : Hp) (Q : Hp → Prop) : Prop := ∃ a C dx fs, x = .ref a ∧ H a = some (.ins C dx fs) ∧ Cls K C ∧ NoAttr K C f ∧ fs.length < 1000 ∧ Q (upd H a (.ins C dx (putF f y fs)))
theorem g_sfld {f : Str} (k : tb σ H fun y H1 => ta σ H1 fun x H2 => rSFld K f y x H2 fun H3 => D.nx σ H3) : sFld K ta tb f D σ H := k
theorem g_rsfld {f : Str} {y : V} {a C dx : Addr} {fs : List (Str × V)} {Q : Hp → Prop} (h : H a = some (.ins C dx fs)) (hc : Cls K C) (hn : NoAttr K C f) (hl : fs.length < 1000) (k : ∀ H', H' a = some (.ins C dx (putF f y fs)) → (∀ b, b ≠ a → H' b = H b) → Q H') : rSFld K f y (.ref a) H Q :=
  ⟨a, C, dx, fs, rfl, h, hc, hn, hl, k _ upd_same fun b hb => upd_ne hb⟩
theorem g_meth {C : Addr} {m : Str} {sp : Sp} (k : ta σ H fun x H1 => rMeth C m sp x tl σ H1 Q) : tMeth C m sp [] E0 ta tl σ H Q := k
theorem g_rmeth {C a dx : Addr} {m : Str} {sp : Sp} {fs : List (Str × V)} (h : H a = some (.ins C dx fs)) (hl : fs.lookup m = none) (k : tl σ H fun vs H2 => sp (.ref a :: (vs ++ [])) H2 Q E0) : rMeth C m sp (.ref a) tl σ H Q := ⟨a, dx, fs, rfl, h, hl, k⟩
def rMake (C : Addr) (sp : Sp) (vs : List V) (H1 : Hp) (Q : VK) : Prop := ∀ x dx, H1 x = none → H1 dx = none → dx ≠ x → sp (.ref x :: (vs ++ [])) (upd (upd H1 dx (.own x)) x (.ins C dx [])) (fun v H2 => v = .non ∧ Q (.ref x) H2) E0
theorem g_make {C : Addr} {sp : Sp} (k : tl σ H fun vs H1 => rMake C sp vs H1 Q) : tMake C sp [] E0 tl σ H Q := k
/-- a list that is changed in its place -/
theorem g_append {l : Addr} {xs : List V} {y : V} (h : H l = some (.lst xs)) (hz : xs.length < 100000) (k : ∀ H', H' l = some (.lst (xs ++ [y])) → (∀ b, b ≠ l → H' b = H b) → Q .non H') : rAppend (.ref l) [y] H Q :=
  ⟨l, xs, y, rfl, rfl, h, Nat.lt_of_lt_of_le hz (by decide), k _ upd_same fun b hb => upd_ne hb⟩
theorem g_tyL {p : Addr} {xs : List V} {A : Prop} (h : H p = some (.lst xs)) (k : A) : tyV K "list" (.ref p) H ∧ A := ⟨.inl ⟨rfl, _, SqL.of h⟩, k⟩
theorem g_tyS {x : Str} {A : Prop} (k : A) : tyV K "str" (.str x) H ∧ A := ⟨rfl, k⟩
theorem g_tyA {p : Addr} {o : Obj} {A : Prop} (h : K.lookup p = some o) (h1 : o.cls = .type "tuple") (h2 : o.dict = none) (k : A) : tyV K "tuple" (.ref p) H ∧ A := ⟨Or.inr (Or.inl ⟨rfl, o, h, h1, h2⟩), k⟩
theorem g_popAt {l : Addr} {xs : List V} {i : Nat} {y : V} (h : H l = some (.lst xs)) (hi : xs[i]? = some y) (hz : xs.length < 100000) (k : ∀ H', H' l = some (.lst (xs.eraseIdx i)) → (∀ b, b ≠ l → H' b = H b) → Q y H') : rPopAt (.ref l) [.int (i : Int)] H Q := by
  have hl := (List.getElem?_eq_some_iff.mp hi).1
  refine ⟨l, xs, (i : Int), i, y, rfl, rfl, h, by omega, by omega, ?_, hi, k _ upd_same fun b hb => upd_ne hb⟩
  exact (ixN_seq (n := xs.length) (i := (i : Int)) (j := i) (by unfold ixN; rw [if_pos (by omega), if_pos (by omega), Int.toNat_natCast])).1
theorem g_rix {p : Addr} {xs : List V} {j : Int} (h : SqL K H p xs) (ha : atI xs j = some v) (k : Q v H) : rIxL K (.ref p) (.int j) H Q := ⟨p, xs, j, v, rfl, rfl, h, ha, k⟩
theorem g_rixT {p : Addr} {xs : List V} {j : Int} (h : SqT K H p xs) (ha : atI xs j = some v) (k : Q v H) : rIxT K (.ref p) (.int j) H Q := ⟨p, xs, j, v, rfl, rfl, h, ha, k⟩
theorem g_sl {r : V → Option Int → Option Int → Hp → VK → Prop} {tl th : TO} (k : te σ H fun x H1 => tl σ H1 fun l H2 => th σ H2 fun u H3 => r x l u H3 Q) : tSl r te tl th σ H Q := k
theorem g_nopart {Q : Option Int → Hp → Prop} (k : Q none H) : tNoPart σ H Q := k
def rPart (x : V) (H : Hp) (Q : Option Int → Hp → Prop) : Prop := ∃ i, x = .int i ∧ Q (some i) H
theorem g_part {Q : Option Int → Hp → Prop} (k : te σ H fun x H1 => rPart x H1 Q) : tPart te σ H Q := k
theorem g_rpart {Q : Option Int → Hp → Prop} {a : Int} (k : Q (some a) H) : rPart (.int a) H Q := ⟨a, rfl, k⟩
theorem g_m1 {r : V → List V → Hp → VK → Prop} {to : TE} (k : to σ H fun x H1 => rStr x (te σ H1 fun y H2 => r x [y] H2 Q)) : tM1 r to te σ H Q := k
theorem g_m0 {r : V → List V → Hp → VK → Prop} {to : TE} (k : to σ H fun x H1 => rStr x (r x [] H1 Q)) : tM0 r to σ H Q := k
theorem g_rstr {x : Str} {A : Prop} (k : A) : rStr (.str x) A := ⟨⟨x, rfl⟩, k⟩
theorem g_bm0 {T : String} {r : V → List V → Hp → VK → Prop} {to : TE} (k : to σ H fun x H1 => tyV K T x H1 ∧ r x [] H1 Q) : tBM0 K T r to σ H Q := k
theorem g_bm {T : String} {r : V → List V → Hp → VK → Prop} {to : TE} {t : TA} (k : to σ H fun x H1 => tyV K T x H1 ∧ t σ H1 fun xs H2 => r x xs H2 Q) : tBM K T r to t σ H Q := k
theorem g_isB {a b : Bool} (k : Q (.bl (decide (a = b))) H) : rIsB (.bl a) (.bl b) H Q := ⟨a, b, rfl, rfl, k⟩
theorem g_notB {a b : Bool} (k : Q (.bl (!decide (a = b))) H) : rNotB (.bl a) (.bl b) H Q := ⟨a, b, rfl, rfl, k⟩
theorem g_andV (k : ta σ H fun x H1 => ∃ c, x = .bl c ∧ if c = true then tb σ H1 Q else Q (.bl false) H1) : tAndV ta tb σ H Q := k
theorem g_orV (k : ta σ H fun x H1 => ∃ c, x = .bl c ∧ if c = true then Q (.bl true) H1 else tb σ H1 Q) : tOrV ta tb σ H Q := k
theorem g_notV (k : ta σ H fun x H1 => ∃ c, x = .bl c ∧ Q (.bl (!c)) H1) : tNotV ta σ H Q := k
theorem g_isN {x : V} (k : Q (.bl (decide (x = .non))) H) : rIsN x .non H Q := ⟨rfl, k⟩
theorem g_notN {x : V} (k : Q (.bl (!decide (x = .non))) H) : rNotN x .non H Q := ⟨rfl, k⟩
theorem g_cat_str {a b : Str} (h : a.length + b.length ≤ sizeLine) (k : Q (.str (a ++ b)) H) : rCatS (.str a) (.str b) H Q := ⟨a, b, rfl, rfl, h, k⟩
theorem g_int1 {a : Int} (k : Q (.int a) H) : rInt1 [.int a] H Q := .inl ⟨a, rfl, k⟩
theorem g_int1b {b : Bool} (k : Q (.int (if b then 1 else 0)) H) : rInt1 [.bl b] H Q := .inr ⟨b, rfl, k⟩
theorem g_reprB {b : Bool} (k : Q (.str (if b then "True" else "False")) H) : rReprB [.bl b] H Q := ⟨b, rfl, k⟩
theorem g_cat {a b : Addr} {xs ys : List V} (ha : H a = some (.lst xs)) (hb : H b = some (.lst ys)) (hl : xs.length + ys.length ≤ 100000) (k : ∀ p H', H p = none → Same H H' → H' p = some (.lst (xs ++ ys)) → Q (.ref p) H') : rCat (.ref a) (.ref b) H Q :=
  ⟨a, b, xs, ys, rfl, rfl, ha, hb, Nat.le_trans hl (by decide), New.to (Q := fun p H' => Q (.ref p) H') k⟩
theorem g_slL {a : Addr} {xs : List V} {lo hi : Option Int} (h : SqL K H a xs) (k : ∀ p H', H p = none → Same H H' → H' p = some (.lst (cutV xs lo hi)) → Q (.ref p) H') : rSlL K (.ref a) lo hi H Q :=
  ⟨a, xs, rfl, h, New.to (Q := fun p H' => Q (.ref p) H') k⟩
theorem g_inSg {ch : Nat} {z : Str} (k : Q (.bl (decide (ch ∈ z.cps.toList))) H) : rInSg (.str (SX.S [ch])) (.str z) H Q := ⟨ch, z, rfl, rfl, k⟩
theorem g_notInSg {ch : Nat} {z : Str} (k : Q (.bl (!decide (ch ∈ z.cps.toList))) H) : rNotInSg (.str (SX.S [ch])) (.str z) H Q := ⟨ch, z, rfl, rfl, k⟩
theorem g_ord {ch : Nat} (k : Q (.int (ch : Int)) H) : rOrd [.str (SX.S [ch])] H Q := ⟨_, rfl, rfl, k⟩
theorem g_lenL {p : Addr} {ys : List V} (h : SqL K H p ys) (k : Q (.int ys.length) H) : rLenQ K [.ref p] H Q := ⟨p, ys, rfl, .inl h, k⟩
theorem g_lenU {p : Addr} {ys : List V} (h : SqT K H p ys) (k : Q (.int ys.length) H) : rLenQ K [.ref p] H Q := ⟨p, ys, rfl, .inr h, k⟩
theorem g_lenT {z : Str} (h : z.length ≤ sizeLine) (k : Q (.int z.length) H) : rLenT [.str z] H Q := ⟨z, rfl, h, k⟩
theorem g_lenD {a : Addr} {kvs : List (Key × V)} (h : H a = some (.dK kvs)) (k : Q (.int kvs.length) H) : rLenD [.ref a] H Q := ⟨a, kvs, rfl, h, k⟩
theorem g_setL {p : Addr} {xs : List V} {j : Int} {n : Nat} {Q : Hp → Prop} (h : H p = some (.lst xs)) (hj : ixN xs.length j = some n) (k : Q (upd H p (.lst (xs.set n v)))) : rSetL (.ref p) (.int j) v H Q := ⟨p, xs, j, n, rfl, rfl, h, hj, k⟩
theorem g_sub {ti : TE} {t : TSet} {Q : St → Hp → Prop} (k : te σ H fun o H1 => ti σ H1 fun i H2 => t o i v H2 fun H3 => Q σ H3) : gSub te ti t v σ H Q := k
theorem g_dget2 {tx : TE} (k : ta σ H fun x H1 => ∃ a, x = .ref a ∧ IsD H1 a ∧ tb σ H1 fun y H2 => tx σ H2 fun z H3 => ∃ o, DGet H3 a y o ∧ Q (o.getD z) H3) : tDGet2 ta tb tx σ H Q := k
theorem g_orD {b1 b2 : Bool} {Q : Bool → Hp → Prop} (h1 : ∀ Q : Bool → Hp → Prop, Q b1 H → c σ H Q) (h2 : ∀ Q : Bool → Hp → Prop, Q b2 H → d σ H Q) (k : Q (b1 || b2) H) : tOr c d σ H Q := by
  refine h1 _ ?_
  cases b1
  · exact h2 _ k
  · exact k
theorem g_andD {b1 b2 : Bool} {Q : Bool → Hp → Prop} (h1 : ∀ Q : Bool → Hp → Prop, Q b1 H → c σ H Q) (h2 : ∀ Q : Bool → Hp → Prop, Q b2 H → d σ H Q) (k : Q (b1 && b2) H) : tAnd c d σ H Q := by
  refine h1 _ ?_
  cases b1
  · exact k
  · exact h2 _ k
theorem g_rixS {x : Str} {j : Int} {ch : Nat} (h : x.length ≤ sizeLine) (ha : atI x.cps.toList j = some ch) (k : Q (.str (SX.S [ch])) H) : rIxS (.str x) (.int j) H Q := ⟨x, j, ch, rfl, rfl, h, ha, k⟩
/-- for .. in range(r) -/
def kFor1 (g : TG) (tb : TS) (D : Ends) (σ : St) (vs : List V) (H : Hp) : Prop := ∃ j : Int, vs = [.int j] ∧ -(2 ^ 62) ≤ j ∧ j < 2 ^ 62 ∧ ∃ W : Nat → Nat → St → Hp → Prop, (∃ m, W 0 m σ H) ∧ ∀ i m σ H, W i m σ H →
  ((Itr 0 j.toNat).stop i H ∧ D.nx σ H) ∨ ((Itr 0 j.toNat).go i H ∧ ∃ N : St → Hp → Prop, (∀ σ' H', N σ' H' → ∃ m', m' < m ∧ W (i + 1) m' σ' H') ∧ ∀ x H', (Itr 0 j.toNat).yld i H x H' → g x σ H' fun σ2 H2 => tb { D with nx := N, ct := N, bk := D.nx } σ2 H2)
theorem g_forR {tb : TS} (k : tl σ H (kFor1 g tb D σ)) : tFor (iRng1 tl) g tb D σ H := k
theorem g_for1 {tb : TS} {r : Int} (h0 : 0 ≤ r) (h1 : r ≤ 100000) (Pv : Nat → St → Hp → Prop) (hi : Pv 0 σ H) (hs : ∀ (i : Nat) σ H, i < r.toNat → Pv i σ H → g (.int (i : Int)) σ H fun σ2 H2 => tb { D with nx := Pv (i + 1), ct := Pv (i + 1), bk := D.nx } σ2 H2)
    (hd : ∀ σ H, Pv r.toNat σ H → D.nx σ H) : kFor1 g tb D σ [.int r] H :=
  ⟨r, rfl, by omega, by omega, for_range (lo := 0) (n := r.toNat) Pv hi (fun i σ H hi h => by rw [Int.zero_add]; exact hs i σ H hi h) hd⟩
/-! walks -/
def kFor (g : TG) (tb : TS) (D : Ends) (σ : St) (J : It) (H : Hp) : Prop := ∃ W : Nat → Nat → St → Hp → Prop, (∃ m, W 0 m σ H) ∧ ∀ i m σ H, W i m σ H →
  (J.stop i H ∧ D.nx σ H) ∨ (J.go i H ∧ ∃ N : St → Hp → Prop, (∀ σ' H', N σ' H' → ∃ m', m' < m ∧ W (i + 1) m' σ' H') ∧ ∀ x H', J.yld i H x H' → g x σ H' fun σ2 H2 => tb { D with nx := N, ct := N, bk := D.nx } σ2 H2)
theorem g_for {wi : TI} {tb : TS} (k : wi σ H (kFor g tb D σ)) : tFor wi g tb D σ H := k
def rItS (v : V) (H : Hp) (R : It → Hp → Prop) : Prop := ∃ x, v = .str x ∧ R (Its x) H
theorem g_iStr {R : It → Hp → Prop} (k : te σ H fun v H1 => rItS v H1 R) : iStr te σ H R := k
theorem g_ritS {x : Str} {R : It → Hp → Prop} (k : R (Its x) H) : rItS (.str x) H R := ⟨x, rfl, k⟩
def rItL (K : PySem.W.Frag) (v : V) (H : Hp) (R : It → Hp → Prop) : Prop := ∃ a, v = .ref a ∧ (∃ xs, SqL K H a xs) ∧ R (Itl K a) H
theorem g_iList {R : It → Hp → Prop} (k : te σ H fun v H1 => rItL K v H1 R) : iList K te σ H R := k
theorem g_ritL {a : Addr} {xs : List V} {R : It → Hp → Prop} (h : SqL K H a xs) (k : R (Itl K a) H) : rItL K (.ref a) H R := ⟨a, rfl, ⟨xs, h⟩, k⟩
def rItU (K : PySem.W.Frag) (v : V) (H : Hp) (R : It → Hp → Prop) : Prop := ∃ a, v = .ref a ∧ (∃ xs, SqT K H a xs) ∧ R (Itt K a) H
theorem g_iTup {R : It → Hp → Prop} (k : te σ H fun v H1 => rItU K v H1 R) : iTup K te σ H R := k
theorem g_ritU {a : Addr} {xs : List V} {R : It → Hp → Prop} (h : SqT K H a xs) (k : R (Itt K a) H) : rItU K (.ref a) H R := ⟨a, rfl, ⟨xs, h⟩, k⟩
def rItR (vs : List V) (H : Hp) (R : It → Hp → Prop) : Prop := ∃ j : Int, vs = [.int j] ∧ -(2 ^ 62) ≤ j ∧ j < 2 ^ 62 ∧ R (Itr 0 j.toNat) H
theorem g_iRng {R : It → Hp → Prop} (k : tl σ H fun vs H1 => rItR vs H1 R) : iRng1 tl σ H R := k
theorem g_ritR {r : Int} {R : It → Hp → Prop} (h0 : 0 ≤ r) (h1 : r ≤ 100000) (k : R (Itr 0 r.toNat) H) : rItR [.int r] H R := ⟨r, rfl, by omega, by omega, k⟩
/-- the signs of a text, each a text -/
def sgs (l : List Nat) : List V := l.map fun c => V.str (SX.S [c])
theorem walk_sgs {l : List Nat} : Walk (Its (SX.S l)) (sgs l).length (fun _ => True) (YAt (sgs l)) := by
  have e : (sgs l).length = (SX.S l).cps.size := by unfold sgs; simp
  rw [e]
  refine walk_str.mono (fun _ h => h) fun i H x H' hi _ h => ?_
  obtain ⟨h1, c, h2, h3⟩ := h
  refine ⟨h1, ?_⟩
  have h4 : l[i]? = some c := by simpa using h2
  unfold sgs
  rw [List.getElem?_map, h4, h3]
  rfl
theorem sgs_at {l : List Nat} {i : Nat} {x : V} (h : (sgs l)[i]? = some x) : ∃ c, l[i]? = some c ∧ V.str (SX.S [c]) = x := by
  unfold sgs at h
  rw [List.getElem?_map] at h
  cases e : l[i]? with
  | none => rw [e] at h; cases h
  | some c => rw [e] at h; exact ⟨c, rfl, Option.some.inj h⟩
theorem map_at {α : Type} {F : α → V} {l : List α} {i : Nat} {x : V} (h : (l.map F)[i]? = some x) : ∃ c, l[i]? = some c ∧ F c = x := by
  rw [List.getElem?_map] at h
  cases e : l[i]? with
  | none => rw [e] at h; cases h
  | some c => rw [e] at h; exact ⟨c, rfl, Option.some.inj h⟩
theorem sgs_len {l : List Nat} : (sgs l).length = l.length := by unfold sgs; rw [List.length_map]
theorem walk_rng {n : Nat} : Walk (Itr 0 n) ((List.range n).map fun (i : Nat) => V.int (i : Int)).length (fun _ => True) (YAt ((List.range n).map fun (i : Nat) => V.int (i : Int))) := by
  rw [List.length_map, List.length_range]
  refine walk_range.mono (fun _ h => h) fun i H x H' hi _ h => ?_
  obtain ⟨h1, h2⟩ := h
  refine ⟨h1, ?_⟩
  rw [List.getElem?_map, List.getElem?_range hi, h2]
  show some (V.int (i : Int)) = some (V.int (0 + (i : Int)))
  rw [Int.zero_add]
/-- a for over xs -/
theorem for_at {J : It} {xs : List V} {G : Hp → Prop} {tb : TS} (w : Walk J xs.length G (YAt xs)) (Pv : Nat → St → Hp → Prop) (h0 : Pv 0 σ H) (hG : ∀ i σ H, Pv i σ H → G H)
    (hs : ∀ i x σ H, xs[i]? = some x → Pv i σ H → g x σ H fun σ2 H2 => tb { D with nx := Pv (i + 1), ct := Pv (i + 1), bk := D.nx } σ2 H2) (hd : ∀ σ H, Pv xs.length σ H → D.nx σ H) : kFor g tb D σ J H :=
  for_it w Pv h0 (fun i σ H _ h => hG i σ H h) (fun i x σ H H' _ h y => by obtain ⟨e, hx⟩ := y; subst e; exact hs i x σ H' hx h) hd
/-- a comprehension -/
def kLc (g : TG) (tt : TT) (te : TE) (vs : List Nat) (σ : St) (Q : VK) (J : It) (H1 : Hp) : Prop := ∀ D, H1 D = none → ∃ W : Nat → Nat → Hp → Prop, (∃ m, W 0 m (upd H1 D (.lst []))) ∧ ∀ i m H, W i m H →
  (J.stop i H ∧ Q (.ref D) H) ∨ (J.go i H ∧ ∃ Nx : Hp → Prop, (∀ H', Nx H' → ∃ m', m' < m ∧ W (i + 1) m' H') ∧ ∀ x H', J.yld i H x H' → g x (wipe σ vs) H' fun σ2 H2 => wipe σ2 vs = wipe σ vs ∧ tt σ2 H2 fun b H3 =>
    if b = true then te σ2 H3 fun y H4 => ∃ acc, H4 D = some (.lst acc) ∧ acc.length < sizeLine ∧ Nx (upd H4 D (.lst (acc ++ [y]))) else Nx H3)
theorem g_lc {wi : TI} {tt : TT} {vs : List Nat} (k : wi σ H (kLc g tt te vs σ Q)) : tLc wi g tt te vs σ H Q := k
theorem take_ok {α : Type} {xs : List α} {i : Nat} {x : α} (h : xs[i]? = some x) : xs.take (i + 1) = xs.take i ++ [x] := by
  rw [List.take_add_one, h]
  rfl
/-- .. whose items hang on the item alone: xs filtered and mapped; the heap may grow meanwhile -/
theorem lc_map {J : It} {xs : List V} {G : Hp → Prop} {tt : TT} {vs : List Nat} (w : Walk J xs.length G (YAt xs)) (hG : ∀ H', Same H H' → G H') (hz : xs.length ≤ 100000) (p : V → Bool) (f : V → V)
    (hg : ∀ x ∈ xs, ∀ H' (R : St → Hp → Prop), Same H H' → (∀ σ2, wipe σ2 vs = wipe σ vs → (∀ H'' (R : Bool → Hp → Prop), Same H H'' → R (p x) H'' → tt σ2 H'' R) →
      (p x = true → ∀ H'' (R : VK), Same H H'' → (∀ H3, Same H'' H3 → R (f x) H3) → te σ2 H'' R) → R σ2 H') → g x (wipe σ vs) H' R)
    (k : ∀ q H', H q = none → Same H H' → H' q = some (.lst ((xs.filter p).map f)) → Q (.ref q) H') : kLc g tt te vs σ Q J H := by
  intro D hD
  refine lc_it w (fun i H2 => Same H H2 ∧ H2 D = some (.lst (((xs.take i).filter p).map f))) ⟨Same.new hD, upd_same⟩ (fun i H2 _ h => hG H2 h.1) (fun i x H2 H2' hi h y => ?_) (fun H2 h => ?_)
  · obtain ⟨e, hx⟩ := y
    subst e
    refine hg x (List.mem_of_getElem? hx) _ _ h.1 fun σ2 hw ht he => ⟨hw, ?_⟩
    refine ht _ _ h.1 ?_
    have hl : (((xs.take i).filter p).map f).length < sizeLine := by
      rw [List.length_map]
      have h1 := List.length_filter_le p (xs.take i)
      have h2 := List.length_take_le i xs
      exact Nat.lt_of_lt_of_le (show _ < 200000 by omega) (by decide)
    cases hp : p x with
    | true =>
      refine iteT ?_
      refine he hp _ _ h.1 fun H3 s3 => ⟨_, s3 _ _ h.2, hl, (h.1.trans s3).grow hD, ?_⟩
      rw [upd_same, take_ok hx, List.filter_append, List.map_append]
      simp [hp]
    | false =>
      refine iteF ?_
      refine ⟨h.1, ?_⟩
      rw [take_ok hx, List.filter_append]
      simpa [hp] using h.2
  · rw [List.take_length] at h
    exact k D H2 hD h.1 h.2
/-- .. whose items are laid anew: R x y H tells what y is, and hangs on tuples alone -/
theorem lc_new {J : It} {xs : List V} {G : Hp → Prop} {vs : List Nat} (R : V → V → Hp → Prop) (mono : ∀ x y H1 H2, (∀ b ys, H1 b = some (.tup ys) → H2 b = some (.tup ys)) → R x y H1 → R x y H2) (w : Walk J xs.length G (YAt xs)) (hG : ∀ H', Same H H' → G H') (hz : xs.length ≤ 100000)
    (hg : ∀ x ∈ xs, ∀ H' (Rk : St → Hp → Prop), Same H H' → (∀ σ2, wipe σ2 vs = wipe σ vs → (∀ H'' (R' : VK), Same H H'' → (∀ y H3, Same H'' H3 → R x y H3 → R' y H3) → te σ2 H'' R') → Rk σ2 H') → g x (wipe σ vs) H' Rk)
    (k : ∀ (q : Addr) (ys : List V) (H' : Hp), H q = none → Same H H' → ys.length = xs.length → (∀ (i : Nat) (x y : V), xs[i]? = some x → ys[i]? = some y → R x y H') → H' q = some (.lst ys) → Q (.ref q) H') : kLc g tYes te vs σ Q J H := by
  intro D hD
  refine lc_it w (fun i H2 => Same H H2 ∧ ∃ ys : List V, ys.length = i ∧ (∀ (j : Nat) (x y : V), xs[j]? = some x → ys[j]? = some y → R x y H2) ∧ H2 D = some (.lst ys)) ⟨Same.new hD, [], rfl, (fun j x y _ h => (by cases h)), upd_same⟩ (fun i H2 _ h => hG H2 h.1) (fun i x H2 H2' hi h y => ?_) (fun H2 h => ?_)
  · obtain ⟨e, hx⟩ := y
    subst e
    obtain ⟨s1, ys, h1, h2, h3⟩ := h
    refine hg x (List.mem_of_getElem? hx) _ _ s1 fun σ2 hw he => ⟨hw, ?_⟩
    show te σ2 H2' _
    refine he _ _ s1 fun y H3 s3 r3 => ⟨_, s3 _ _ h3, ?_, (s1.trans s3).grow hD, ys ++ [y], by rw [List.length_append, h1]; rfl, fun j x' y' hx' hy' => ?_, upd_same⟩
    · rw [h1]
      exact Nat.lt_of_lt_of_le (show i < 200000 by omega) (by decide)
    · have tk : ∀ b zs, H3 b = some (.tup zs) → (upd H3 D (.lst (ys ++ [y]))) b = some (.tup zs) := fun b zs e => by
        rw [upd_ne (ne_of e (s3 _ _ h3) (by intro z; cases z))]; exact e
      by_cases hj : j < ys.length
      · rw [List.getElem?_append_left hj] at hy'
        exact mono _ _ _ _ (fun b zs e => tk b zs (s3 _ _ e)) (h2 j x' y' hx' hy')
      · rw [List.getElem?_append_right (by omega)] at hy'
        cases hz : j - ys.length with
        | zero =>
          rw [hz] at hy'
          cases hy'
          have : j = i := by omega
          subst this
          rw [hx] at hx'
          cases hx'
          exact mono _ _ _ _ tk r3
        | succ n => rw [hz] at hy'; cases hy'
  · obtain ⟨s1, ys, h1, h2, h3⟩ := h
    exact k D ys H2 hD s1 h1 h2 h3
theorem g_cut {t u : TS} (Mid : St → Hp → Prop) (h1 : t { D with nx := Mid } σ H) (h2 : ∀ σ' H', Mid σ' H' → u D σ' H') : C8.tCut t u D σ H := ⟨Mid, h1, h2⟩
/-! statements -/
theorem g_seq (k : t { D with nx := u D } σ H) : tSeq t u D σ H := k
theorem g_asg (k : te σ H fun x H1 => g x σ H1 D.nx) : tAsg te g D σ H := k
theorem g_name {Q : St → Hp → Prop} (k : Q (σ.set i (some v)) H) : gName i v σ H Q := k
theorem g_ret (k : te σ H D.rt) : tRet te D σ H := k
theorem g_drop (k : te σ H fun _ H1 => D.nx σ H1) : tDrop te D σ H := k
theorem g_next (k : D.nx σ H) : tNext D σ H := k
theorem g_ifs (k : c σ H fun b H1 => if b = true then t D σ H1 else u D σ H1) : tIfS c t u D σ H := k
theorem g_pnx {nx bk ct : St → Hp → Prop} {rt : VK} (k : nx σ H) : Ends.nx ⟨nx, rt, bk, ct⟩ σ H := k
theorem g_prt {nx bk ct : St → Hp → Prop} {rt : VK} (k : rt v H) : Ends.rt ⟨nx, rt, bk, ct⟩ v H := k
theorem g_pbk {nx bk ct : St → Hp → Prop} {rt : VK} (k : bk σ H) : Ends.bk ⟨nx, rt, bk, ct⟩ σ H := k
theorem g_pct {nx bk ct : St → Hp → Prop} {rt : VK} (k : ct σ H) : Ends.ct ⟨nx, rt, bk, ct⟩ σ H := k
/-! ways -/
theorem ifp {p A B : Prop} [Decidable p] (h : p) (k : A) : if decide p = true then A else B := by rw [if_pos (decide_eq_true h)]; exact k
theorem ifn {p A B : Prop} [Decidable p] (h : ¬ p) (k : B) : if decide p = true then A else B := by rw [if_neg (by simp [h])]; exact k
theorem if2 {p A B : Prop} [Decidable p] (h1 : p → A) (h2 : ¬ p → B) : if decide p = true then A else B := by
  by_cases h : p
  · exact ifp h (h1 h)
  · exact ifn h (h2 h)
theorem ifnp {p A B : Prop} [Decidable p] (h : p) (k : B) : if (!decide p) = true then A else B := by rw [if_neg (by simp [h])]; exact k
theorem ifnn {p A B : Prop} [Decidable p] (h : ¬ p) (k : A) : if (!decide p) = true then A else B := by rw [if_pos (by simp [h])]; exact k
theorem ifn2 {p A B : Prop} [Decidable p] (h1 : p → B) (h2 : ¬ p → A) : if (!decide p) = true then A else B := by
  by_cases h : p
  · exact ifnp h (h1 h)
  · exact ifnn h (h2 h)
theorem ifb {b : Bool} {A B : Prop} (h1 : b = true → A) (h2 : b = false → B) : if b = true then A else B := by
  cases b
  · exact iteF (h2 rfl)
  · exact iteT (h1 rfl)
theorem int_eq {a b : Int} : (V.int a = V.int b) ↔ a = b := ⟨fun h => V.int.inj h, fun h => by rw [h]⟩
theorem str_eq {a b : Str} : (V.str a = V.str b) ↔ a = b := ⟨fun h => V.str.inj h, fun h => by rw [h]⟩
theorem bl_eq {a b : Bool} : (V.bl a = V.bl b) ↔ a = b := ⟨fun h => V.bl.inj h, fun h => by rw [h]⟩
end
/-! one step of a reading: the keys are ours -/

/-! ### steps of the heap: whose objects changed (c tells each object's owner) -/
structure Stp (I : Nat → Prop) (c c' : Addr → Nat) (H H' : Hp) : Prop where
  keep : ∀ b o, H b = some o → ¬ I (c b) → H' b = some o
  col : ∀ b o, H b = some o → c' b = c b
  tup : ∀ b xs, H b = some (.tup xs) → H' b = some (.tup xs)
  fre : ∀ b, H' b = none → H b = none
namespace Stp
variable {I J : Nat → Prop} {c c' c'' : Addr → Nat} {H H' H'' : Hp}
theorem refl : Stp I c c H H := ⟨fun _ _ h _ => h, fun _ _ _ => rfl, fun _ _ h => h, fun _ h => h⟩
theorem some' (s : Stp I c c' H H') {b : Addr} {o : HO} (h : H b = some o) : ∃ o', H' b = some o' := by
  cases e : H' b with
  | none => rw [s.fre b e] at h; cases h
  | some o' => exact ⟨o', rfl⟩
theorem trans (a : Stp I c c' H H') (b : Stp I c' c'' H' H'') : Stp I c c'' H H'' := by
  refine ⟨fun x o h n => b.keep x o (a.keep x o h n) (by rw [a.col x o h]; exact n), fun x o h => ?_, fun x xs h => b.tup x xs (a.tup x xs h), fun x h => a.fre x (b.fre x h)⟩
  obtain ⟨o', h'⟩ := a.some' h
  rw [b.col x o' h', a.col x o h]
theorem mono (a : Stp I c c' H H') (h : ∀ i, I i → J i) : Stp J c c' H H' := ⟨fun x o e n => a.keep x o e fun z => n (h _ z), a.col, a.tup, a.fre⟩
theorem same (h : Same H H') : Stp I c c H H' := ⟨fun x o e _ => h x o e, fun _ _ _ => rfl, fun x xs e => h x _ e, fun _ e => h.free e⟩
theorem own {b : Addr} {o o' : HO} (h : H b = some o) (hi : I (c b)) (ht : ∀ xs, o ≠ .tup xs) : Stp I c c H (upd H b o') := by
  refine ⟨fun x u e n => ?_, fun _ _ _ => rfl, fun x xs e => ?_, fun x e => ?_⟩
  · rw [upd_ne (fun z => n (by rw [z]; exact hi))]; exact e
  · rw [upd_ne (fun z => ht xs (by subst z; rw [h] at e; exact Option.some.inj e))]; exact e
  · by_cases z : x = b
    · subst z; rw [upd_same] at e; cases e
    · rw [upd_ne z] at e; exact e
/-- one own object changed -/
theorem ch {b : Addr} {o o' : HO} (h : H b = some o) (hi : I (c b)) (ht : ∀ xs, o ≠ .tup xs) (h' : H' b = some o') (k : ∀ x, x ≠ b → H' x = H x) : Stp I c c H H' := by
  refine ⟨fun x u e n => ?_, fun _ _ _ => rfl, fun x xs e => ?_, fun x e => ?_⟩
  · rw [k x (fun z => n (by rw [z]; exact hi))]; exact e
  · rw [k x (fun z => ht xs (by subst z; rw [h] at e; exact Option.some.inj e))]; exact e
  · by_cases z : x = b
    · subst z; rw [h'] at e; cases e
    · rw [k x z] at e; exact e
theorem sameC (h : Same H H') (hc : ∀ b o, H b = some o → c' b = c b) : Stp I c c' H H' := ⟨fun x o e _ => h x o e, hc, fun x xs e => h x _ e, fun _ e => h.free e⟩
theorem new {p : Addr} {o : HO} (h : H p = none) : Stp I c c H (upd H p o) := same fun b u e => by rw [upd_ne (ne_of_none e h)]; exact e
/-- a new object gets its owner -/
def paint (c : Addr → Nat) (p : Addr) (i : Nat) : Addr → Nat := fun b => if b = p then i else c b
theorem paint_same {p : Addr} {i : Nat} : paint c p i p = i := by unfold paint; rw [if_pos rfl]
theorem paint_ne {p b : Addr} {i : Nat} (h : b ≠ p) : paint c p i b = c b := by unfold paint; rw [if_neg h]
theorem newc {p : Addr} {o : HO} {i : Nat} (h : H p = none) : Stp I c (paint c p i) H (upd H p o) :=
  ⟨fun b u e _ => by rw [upd_ne (ne_of_none e h)]; exact e, fun b u e => paint_ne (ne_of_none e h), fun b xs e => by rw [upd_ne (ne_of_none e h)]; exact e, fun b e => by
    by_cases z : b = p
    · subst z; rw [upd_same] at e; cases e
    · rw [upd_ne z] at e; exact e⟩
end Stp
end Lw
namespace Lw
open PySem L2
open PyProof.Rows (envOfC)
theorem lk_eq {k : Str} {v : V} {l : List (Str × V)} : List.lookup k ((k, v) :: l) = some v := by simp [List.lookup]
theorem lk_ne {k k' : Str} {v : V} {l : List (Str × V)} (h : (k == k') = false) : List.lookup k ((k', v) :: l) = l.lookup k := by simp [List.lookup, h]
theorem lk_no {m : Str} : ∀ {l : List (Str × V)}, (l.map (·.1)).all (fun f => !(m == f)) = true → l.lookup m = none
  | [], _ => rfl
  | (k, v) :: l, h => by
    have h : (!(m == k) && (l.map (·.1)).all (fun f => !(m == f))) = true := h
    rw [Bool.and_eq_true, Bool.not_eq_true'] at h
    rw [lk_ne h.1]
    exact lk_no h.2
theorem putF_le {f : Str} {y : V} : ∀ {fs : List (Str × V)}, (putF f y fs).length ≤ fs.length + 1
  | [] => Nat.le_refl _
  | (k, v) :: r => by
    show (if k = f then _ else _ : List (Str × V)).length ≤ _
    split
    · exact Nat.le_succ _
    · exact Nat.succ_le_succ putF_le
theorem pf_eq {k : Str} {y v : V} {l : List (Str × V)} : putF k y ((k, v) :: l) = (k, y) :: l := by
  show (if k = k then _ else _) = _
  rw [if_pos rfl]
theorem pf_ne {k k' : Str} {y v : V} {l : List (Str × V)} (h : ¬ k' = k) : putF k y ((k', v) :: l) = (k', v) :: putF k y l := by
  show (if k' = k then _ else _) = _
  rw [if_neg h]
theorem empty_S : ("" : Str) = SX.S [] := by decide +kernel
theorem join_empty (l : List Nat) : Txt.join ("" : Str) (l.map fun c => SX.S [c]) = SX.S l := by
  have e : (l.map fun c => SX.S [c]) = (l.map fun c => [c]).map SX.S := by rw [List.map_map]; rfl
  rw [empty_S, e, SX.join_S]
  have h : ∀ l : List Nat, TL.joinL [] (l.map fun c => [c]) = l := by
    intro l
    induction l with
    | nil => rfl
    | cons a r ih =>
      cases r with
      | nil => rfl
      | cons b r => 
        show [a] ++ ([] ++ TL.joinL [] ((b :: r).map fun c => [c])) = a :: b :: r
        rw [ih]
        rfl
  rw [h]
theorem sum_ones (l : List Nat) : ((l.map fun c => SX.S [c]).map (·.length)).sum = l.length := by
  induction l with
  | nil => rfl
  | cons a r ih =>
    rw [List.map_cons, List.map_cons, List.sum_cons, ih, SX.S_len, List.length_cons]
    simp only [List.length_cons, List.length_nil]
    omega
theorem join_flat (l : List (List Nat)) : Txt.join ("" : Str) (l.map SX.S) = SX.S l.flatten := by
  rw [empty_S, SX.join_S]
  have h : ∀ l : List (List Nat), TL.joinL [] l = l.flatten := by
    intro l
    induction l with
    | nil => rfl
    | cons a r ih =>
      cases r with
      | nil => show a = a ++ []; rw [List.append_nil]
      | cons b r =>
        show a ++ ([] ++ TL.joinL [] (b :: r)) = _
        rw [ih]
        rfl
  rw [h]
theorem sum_flat (l : List (List Nat)) : ((l.map SX.S).map (·.length)).sum = l.flatten.length := by
  rw [SX.lens, List.length_flatten]
theorem L2x_sameN {I : Nat → Prop} {c : Addr → Nat} {H H' : Hp} {p : Addr} {i : Nat} (s : Same H H') (n : H p = none) : Stp I c (Stp.paint c p i) H H' := Stp.sameC s fun b o e => Stp.paint_ne (ne_of_none e n)
end Lw
local macro_rules | `(tactic| walk_at "lw side") => `(tactic| first | assumption | decide | omega | exact Or.inr ⟨by decide, by decide⟩ | exact Or.inl ⟨by decide, by decide⟩ | exact ⟨by decide, by decide⟩ | exact ⟨by omega, by omega⟩)
local macro_rules | `(tactic| walk_at "lw ne") => `(tactic| first | assumption | exact Ne.symm (by assumption) | exact L2.ne_of_none (by assumption) (by assumption) | exact Ne.symm (L2.ne_of_none (by assumption) (by assumption)))
local macro_rules | `(tactic| walk_at "lw hp") => `(tactic| first | assumption | exact L2.upd_same | (refine Eq.trans (L2.upd_ne (by walk_at "lw ne")) ?_; walk_at "lw hp"))
local macro_rules | `(tactic| walk_at "lw sq") => `(tactic| first | assumption | exact L2.SqL.of (by walk_at "lw hp") | exact L2.SqT.of (by walk_at "lw hp"))
local macro_rules | `(tactic| walk_at "lw go") => `(tactic| first
  | (with_reducible refine Lw.g_seq ?_)
  | ((with_reducible refine' Lw.g_var ?h1 ?k1); (case h1 => rfl))
  | (with_reducible refine Lw.g_c ?_)
  | (with_reducible refine Lw.g_op ?_)
  | (with_reducible refine Lw.g_I0 ?_)
  | ((with_reducible refine' Lw.g_I ?h1 ?k1); (case h1 => walk_at "lw side"))
  | ((with_reducible refine' Lw.g_eq ?h1 ?k1); (case h1 => rfl))
  | ((with_reducible refine' Lw.g_ne ?h1 ?k1); (case h1 => rfl))
  | (with_reducible refine Lw.g_nil ?_)
  | (with_reducible refine Lw.g_cons ?_)
  | (with_reducible refine Lw.g_cb ?_)
  | (with_reducible refine Lw.g_call ?_)
  | (with_reducible refine Lw.g_test ?_)
  | (with_reducible refine Lw.g_B ?_)
  | (with_reducible refine Lw.g_exb ?_)
  | (with_reducible refine Lw.g_not ?_)
  | (with_reducible refine Lw.g_and ?_)
  | (with_reducible refine Lw.g_or ?_)
  | (with_reducible refine Lw.g_tup ?_)
  | (with_reducible refine Lw.g_lst ?_)
  | (with_reducible refine Lw.g_ifx ?_)
  | (with_reducible refine Lw.g_fld ?_)
  | (with_reducible refine Lw.g_asg ?_)
  | (with_reducible refine Lw.g_name ?_)
  | (with_reducible refine Lw.g_ret ?_)
  | (with_reducible refine Lw.g_drop ?_)
  | (with_reducible refine Lw.g_next ?_)
  | (with_reducible refine Lw.g_ifs ?_)
  | (with_reducible refine Lw.g_pnx ?_)
  | (with_reducible refine Lw.g_prt ?_)
  | (with_reducible refine Lw.g_pbk ?_)
  | (with_reducible refine Lw.g_pct ?_)
  | (with_reducible refine Lw.g_sl ?_)
  | (with_reducible refine Lw.g_nopart ?_)
  | (with_reducible refine Lw.g_part ?_)
  | (with_reducible refine Lw.g_rpart ?_)
  | (with_reducible refine Lw.g_m1 ?_)
  | (with_reducible refine Lw.g_m0 ?_)
  | (with_reducible refine Lw.g_rstr ?_)
  | (with_reducible refine Lw.g_bm0 ?_)
  | (with_reducible refine Lw.g_bm ?_)
  | (with_reducible refine Lw.g_isN ?_)
  | (with_reducible refine Lw.g_isB ?_)
  | (with_reducible refine Lw.g_notB ?_)
  | (with_reducible refine Lw.g_andV ?_)
  | (with_reducible refine Lw.g_orV ?_)
  | (with_reducible refine Lw.g_notV ?_)
  | (with_reducible refine Lw.g_notN ?_)
  | (with_reducible refine L2.iteT ?_)
  | (with_reducible refine L2.iteF ?_)
  | (with_reducible refine Lw.g_int1 ?_)
  | (with_reducible refine Lw.g_int1b ?_)
  | (with_reducible refine Lw.g_sub ?_)
  | (with_reducible refine Lw.g_forR ?_)
  | (with_reducible refine Lw.g_for ?_)
  | (with_reducible refine Lw.g_lc ?_)
  | (with_reducible refine Lw.g_iStr ?_)
  | (with_reducible refine Lw.g_ritS ?_)
  | (with_reducible refine Lw.g_tyS ?_)
  | (with_reducible refine Lw.g_iList ?_)
  | (with_reducible refine Lw.g_iTup ?_)
  | (with_reducible refine Lw.g_iRng ?_)
  | (with_reducible refine Lw.g_inSg ?_)
  | (with_reducible refine Lw.g_notInSg ?_)
  | (with_reducible refine Lw.g_ord ?_)
  | (with_reducible refine Lw.g_reprB ?_)
  | (with_reducible refine Lw.g_sfld ?_)
  | (with_reducible refine Lw.g_meth ?_)
  | (with_reducible refine Lw.g_make ?_)
  | (with_reducible refine Lw.g_dget ?_)
  | (with_reducible refine Lw.g_din ?_)
  | (with_reducible refine Lw.g_dnotin ?_)
  | (with_reducible refine Lw.g_dput ?_)
  | (with_reducible refine Lw.g_ddel ?_)
  | (with_reducible refine Lw.g_dpop1 ?_)
  | (with_reducible refine Lw.g_dget1 ?_)
  | (with_reducible refine Lw.g_iKeys ?_)
  | (with_reducible refine Lw.g_fldaug ?_)
  | ((with_reducible refine' Lw.g_lenL ?h1 ?k1); (case h1 => walk_at "lw sq"))
  | ((with_reducible refine' Lw.g_lenD ?h1 ?k1); (case h1 => walk_at "lw hp")))
local macro_rules | `(tactic| walk_at "lw") => `(tactic| repeat walk_at "lw go")
local macro_rules | `(tactic| walk_at "lw hp") => `(tactic| first | assumption | exact L2.upd_same | exact L2.Same.at (by assumption) (by walk_at "lw hp") | (refine Eq.trans (L2.upd_ne (by walk_at "lw ne")) ?_; walk_at "lw hp"))
local macro_rules | `(tactic| walk_at "lw go") => `(tactic| first
  | ((with_reducible refine Lw.g_kinT (b := true) (by decide) rfl rfl (by decide +kernel) ?_); intro _ _)
  | ((with_reducible refine Lw.g_kinT (b := false) (by decide) rfl rfl (by decide +kernel) ?_); intro _ _)
  | ((with_reducible refine Lw.g_kninT (b := true) (by decide) rfl rfl (by decide +kernel) ?_); intro _ _)
  | ((with_reducible refine Lw.g_kninT (b := false) (by decide) rfl rfl (by decide +kernel) ?_); intro _ _)
  | ((with_reducible refine Lw.g_kinL (b := true) (by decide) rfl rfl (by decide +kernel) ?_); intro _ _)
  | ((with_reducible refine Lw.g_kinL (b := false) (by decide) rfl rfl (by decide +kernel) ?_); intro _ _)
  | ((with_reducible refine Lw.g_kninL (b := true) (by decide) rfl rfl (by decide +kernel) ?_); intro _ _)
  | ((with_reducible refine Lw.g_kninL (b := false) (by decide) rfl rfl (by decide +kernel) ?_); intro _ _)
  | (with_reducible refine Lw.g_pairs1 ?_)
  | (with_reducible refine Lw.g_pairs0 ?_)
  | (with_reducible refine Lw.g_gcons ?_)
  | (with_reducible refine Lw.g_gnil ?_)
  | (with_reducible refine Lw.ifT (by decide +kernel) ?_)
  | (with_reducible refine Lw.ifF (by decide +kernel) ?_))
local macro_rules | `(tactic| walk_at "lw same") => `(tactic| first | assumption | exact L2.Same.refl _ | (refine L2.Same.trans ?_ (by assumption); walk_at "lw same"))
local macro_rules | `(tactic| walk_at "lw go") => `(tactic| first
  | ((with_reducible refine' Lw.g_rfld (f := "blobs") ?h1 ?h2 ?h3 Lw.f_Store_blobs ?k1); (case h1 => walk_at "lw hp"); (case h2 => exact Lw.Txt.cl_Store (by assumption)); (case h3 => exact Lw.Txt.na_Store_blobs (by assumption)))
  | ((with_reducible refine' Lw.g_rmeth ?h1 (Lw.f_Store_no (by decide +kernel)) ?k1); (case h1 => walk_at "lw hp")))
local macro_rules | `(tactic| walk_at "lw go") => `(tactic| first
  | (with_reducible refine Lw.g_callS ?_)
  | (with_reducible refine Lw.g_raise ?_)
  | (with_reducible refine Lw.g_tryAs ?_)
  | (with_reducible refine Lw.g_xf ?_))

/-! ## dicts: the steps -/
namespace Lw
open PySem L2 PySem.Spec
open PyProof.Rows (envOfC sortedS risingS)
/-- the key behind a value -/
def kI (i : Int) : Key := .inl i
def kS (x : Str) : Key := .inr x
section
variable {σ : L2.St} {H : Hp} {Q : VK} {K : PySem.W.Frag} {D : Ends} {ta tb te tx : TE} {tl : TA} {t u : TS} {i : Nat} {v : V} {g : TG}
def rDGet (x y : V) (H : Hp) (Q : VK) : Prop := ∃ a v, x = .ref a ∧ DGet H a y (some v) ∧ Q v H
theorem g_dget (k : ta σ H fun x H1 => tb σ H1 fun y H2 => rDGet x y H2 Q) : tDGet ta tb σ H Q := k
theorem g_rdgetI {a : Addr} {kvs : List (Key × V)} {j : Int} (h : Rd H a (.dK kvs)) (hv : valV kvs (kI j) = some v) (k : Q v H) : rDGet (.ref a) (.int j) H Q := ⟨a, v, rfl, .inl ⟨kvs, kI j, h, rfl, hv.symm⟩, k⟩
theorem g_rdgetS {a : Addr} {kvs : List (Key × V)} {z : Str} (h : Rd H a (.dK kvs)) (hv : valV kvs (kS z) = some v) (k : Q v H) : rDGet (.ref a) (.str z) H Q := ⟨a, v, rfl, .inl ⟨kvs, kS z, h, rfl, hv.symm⟩, k⟩
def rDIn (y x : V) (H : Hp) (Q : VK) : Prop := ∃ a o, x = .ref a ∧ DGet H a y o ∧ Q (.bl o.isSome) H
theorem g_din (k : ta σ H fun y H1 => tb σ H1 fun x H2 => rDIn y x H2 Q) : tDIn ta tb σ H Q := k
theorem g_rdinI {a : Addr} {kvs : List (Key × V)} {j : Int} (h : Rd H a (.dK kvs)) (k : Q (.bl (valV kvs (kI j)).isSome) H) : rDIn (.int j) (.ref a) H Q := ⟨a, _, rfl, .inl ⟨kvs, kI j, h, rfl, rfl⟩, k⟩
theorem g_rdinS {a : Addr} {kvs : List (Key × V)} {z : Str} (h : Rd H a (.dK kvs)) (k : Q (.bl (valV kvs (kS z)).isSome) H) : rDIn (.str z) (.ref a) H Q := ⟨a, _, rfl, .inl ⟨kvs, kS z, h, rfl, rfl⟩, k⟩
def rDNotIn (y x : V) (H : Hp) (Q : VK) : Prop := ∃ a o, x = .ref a ∧ DGet H a y o ∧ Q (.bl (!o.isSome)) H
theorem g_dnotin (k : ta σ H fun y H1 => tb σ H1 fun x H2 => rDNotIn y x H2 Q) : tDNotIn ta tb σ H Q := k
theorem g_rdnotinI {a : Addr} {kvs : List (Key × V)} {j : Int} (h : Rd H a (.dK kvs)) (k : Q (.bl (!(valV kvs (kI j)).isSome)) H) : rDNotIn (.int j) (.ref a) H Q := ⟨a, _, rfl, .inl ⟨kvs, kI j, h, rfl, rfl⟩, k⟩
theorem g_rdnotinS {a : Addr} {kvs : List (Key × V)} {z : Str} (h : Rd H a (.dK kvs)) (k : Q (.bl (!(valV kvs (kS z)).isSome)) H) : rDNotIn (.str z) (.ref a) H Q := ⟨a, _, rfl, .inl ⟨kvs, kS z, h, rfl, rfl⟩, k⟩
def rDPut (x y v : V) (H : Hp) (R : Hp → Prop) : Prop := ∃ a H', x = .ref a ∧ DPut H a y v H' ∧ R H'
theorem g_dput (k : te σ H fun v H1 => ta σ H1 fun x H2 => tb σ H2 fun y H3 => rDPut x y v H3 fun H4 => D.nx σ H4) : sDPut ta tb te D σ H := k
theorem g_rdputI {a : Addr} {kvs : List (Key × V)} {j : Int} {R : Hp → Prop} (h : H a = some (.dK kvs)) (hl : kvs.length < 100000) (k : ∀ H', H' a = some (.dK (putK kvs (kI j) v)) → (∀ b, b ≠ a → H' b = H b) → R H') : rDPut (.ref a) (.int j) v H R :=
  ⟨a, _, rfl, .inl ⟨kvs, kI j, h, rfl, Nat.lt_of_lt_of_le hl (by decide), rfl⟩, k _ upd_same fun b hb => upd_ne hb⟩
theorem g_rdputS {a : Addr} {kvs : List (Key × V)} {z : Str} {R : Hp → Prop} (h : H a = some (.dK kvs)) (hl : kvs.length < 100000) (k : ∀ H', H' a = some (.dK (putK kvs (kS z) v)) → (∀ b, b ≠ a → H' b = H b) → R H') : rDPut (.ref a) (.str z) v H R :=
  ⟨a, _, rfl, .inl ⟨kvs, kS z, h, rfl, Nat.lt_of_lt_of_le hl (by decide), rfl⟩, k _ upd_same fun b hb => upd_ne hb⟩
def rDDel (x y : V) (H : Hp) (R : Hp → Prop) : Prop := ∃ a kvs k, x = .ref a ∧ H a = some (.dK kvs) ∧ y = kV k ∧ (valV kvs k).isSome = true ∧ R (upd H a (.dK (dropK kvs k)))
theorem g_ddel (k : ta σ H fun x H1 => tb σ H1 fun y H2 => rDDel x y H2 fun H3 => D.nx σ H3) : sDDel ta tb D σ H := k
theorem g_rddelI {a : Addr} {kvs : List (Key × V)} {j : Int} {R : Hp → Prop} (h : H a = some (.dK kvs)) (hs : (valV kvs (kI j)).isSome = true) (k : ∀ H', H' a = some (.dK (dropK kvs (kI j))) → (∀ b, b ≠ a → H' b = H b) → R H') : rDDel (.ref a) (.int j) H R :=
  ⟨a, kvs, kI j, rfl, h, rfl, hs, k _ upd_same fun b hb => upd_ne hb⟩
theorem g_rddelS {a : Addr} {kvs : List (Key × V)} {z : Str} {R : Hp → Prop} (h : H a = some (.dK kvs)) (hs : (valV kvs (kS z)).isSome = true) (k : ∀ H', H' a = some (.dK (dropK kvs (kS z))) → (∀ b, b ≠ a → H' b = H b) → R H') : rDDel (.ref a) (.str z) H R :=
  ⟨a, kvs, kS z, rfl, h, rfl, hs, k _ upd_same fun b hb => upd_ne hb⟩
def rIsD (x : V) (H : Hp) (A : Addr → Prop) : Prop := ∃ a, x = .ref a ∧ IsD H a ∧ A a
theorem g_risd {a : Addr} {kvs : List (Key × V)} {A : Addr → Prop} (h : Rd H a (.dK kvs)) (k : A a) : rIsD (.ref a) H A := ⟨a, rfl, .inl ⟨kvs, h⟩, k⟩
def rDPop (a : Addr) (y : V) (H : Hp) (Q : VK) : Prop := ∃ kvs k v, H a = some (.dK kvs) ∧ y = kV k ∧ valV kvs k = some v ∧ Q v (upd H a (.dK (dropK kvs k)))
theorem g_dpop1 (k : ta σ H fun x H1 => rIsD x H1 fun a => tb σ H1 fun y H2 => rDPop a y H2 Q) : tDPop1 ta tb σ H Q := k
theorem g_rdpopI {a : Addr} {kvs : List (Key × V)} {j : Int} (h : H a = some (.dK kvs)) (hv : valV kvs (kI j) = some v) (k : ∀ H', H' a = some (.dK (dropK kvs (kI j))) → (∀ b, b ≠ a → H' b = H b) → Q v H') : rDPop a (.int j) H Q :=
  ⟨kvs, kI j, v, h, rfl, hv, k _ upd_same fun b hb => upd_ne hb⟩
theorem g_rdpopS {a : Addr} {kvs : List (Key × V)} {z : Str} (h : H a = some (.dK kvs)) (hv : valV kvs (kS z) = some v) (k : ∀ H', H' a = some (.dK (dropK kvs (kS z))) → (∀ b, b ≠ a → H' b = H b) → Q v H') : rDPop a (.str z) H Q :=
  ⟨kvs, kS z, v, h, rfl, hv, k _ upd_same fun b hb => upd_ne hb⟩
def rDGet1 (a : Addr) (y : V) (H : Hp) (Q : VK) : Prop := ∃ o, DGet H a y o ∧ Q (o.getD .non) H
theorem g_dget1 (k : ta σ H fun x H1 => rIsD x H1 fun a => tb σ H1 fun y H2 => rDGet1 a y H2 Q) : tDGet1 ta tb σ H Q := k
theorem g_rdget1I {a : Addr} {kvs : List (Key × V)} {j : Int} (h : Rd H a (.dK kvs)) (k : Q ((valV kvs (kI j)).getD .non) H) : rDGet1 a (.int j) H Q := ⟨_, .inl ⟨kvs, kI j, h, rfl, rfl⟩, k⟩
theorem g_rdget1S {a : Addr} {kvs : List (Key × V)} {z : Str} (h : Rd H a (.dK kvs)) (k : Q ((valV kvs (kS z)).getD .non) H) : rDGet1 a (.str z) H Q := ⟨_, .inl ⟨kvs, kS z, h, rfl, rfl⟩, k⟩
theorem g_dnew (k : ∀ p H', H p = none → Same H H' → H' p = some (.dK []) → Q (.ref p) H') : tDNewK σ H Q := New.to (Q := fun p H' => Q (.ref p) H') k
/-- {k: v, ..} -/
def rDisp (p : Addr) (ps : List (V × V)) (H2 : Hp) (Q : VK) : Prop := H2 p = some (.dK []) ∧ ∃ kvs : List (Key × V), ps = kvs.map (fun kv => (kV kv.1, kv.2)) ∧ kvs.length ≤ 15 ∧ Q (.ref p) (upd H2 p (.dK (mergeK [] kvs)))
theorem g_disp {trs : List (TE × TE)} (k : ∀ p H', H p = none → Same H H' → H' p = some (.dK []) → tPairs trs σ H' fun ps H2 => rDisp p ps H2 Q) : tDisp trs σ H Q := fun p hp => k p _ hp (Same.new hp) upd_same
theorem g_pairs0 {Q : List (V × V) → Hp → Prop} (k : Q [] H) : tPairs [] σ H Q := k
theorem g_pairs1 {trs : List (TE × TE)} {Q : List (V × V) → Hp → Prop} (k : ta σ H fun x H1 => tb σ H1 fun y H2 => tPairs trs σ H2 fun ps H3 => Q ((x, y) :: ps) H3) : tPairs ((ta, tb) :: trs) σ H Q := k
theorem g_rdisp {p : Addr} {ps : List (V × V)} {kvs : List (Key × V)} (h : H p = some (.dK [])) (e : ps = kvs.map (fun kv => (kV kv.1, kv.2))) (hl : kvs.length ≤ 15) (k : ∀ H', H' p = some (.dK (mergeK [] kvs)) → (∀ b, b ≠ p → H' b = H b) → Q (.ref p) H') : rDisp p ps H Q := ⟨h, kvs, e, hl, k _ upd_same fun b hb => upd_ne hb⟩
/-- a loop over a dict's keys -/
theorem g_lock {d : Addr} {kvs : List (Key × V)} (h : H d = some (.dK kvs)) (k : ∀ od H', H' d = some (.frz od (.dK kvs)) → (∀ b, b ≠ d → H' b = H b) →
    t ⟨fun σ' H' => H' d = some (.frz od (.dK kvs)) ∧ D.nx σ' (upd H' d (.dK kvs)), fun v H' => H' d = some (.frz od (.dK kvs)) ∧ D.rt v (upd H' d (.dK kvs)), fun σ' H' => H' d = some (.frz od (.dK kvs)) ∧ D.bk σ' (upd H' d (.dK kvs)), fun σ' H' => H' d = some (.frz od (.dK kvs)) ∧ D.ct σ' (upd H' d (.dK kvs))⟩ σ H') : tLock t D σ H :=
  ⟨d, _, h, trivial, fun od => k od _ upd_same fun b hb => upd_ne hb⟩
def rItK (x : V) (H : Hp) (R : It → Hp → Prop) : Prop := ∃ d o, x = .ref d ∧ ((∃ kvs, H d = some (.frz o (.dK kvs)) ∧ R (Itk d o kvs) H) ∨ ∃ kvs, H d = some (.frz o (.dT kvs)) ∧ R (Itkt d o kvs) H)
theorem g_iKeys {R : It → Hp → Prop} (k : te σ H fun v H1 => rItK v H1 R) : iKeys te σ H R := k
theorem g_ritK {d : Addr} {o : Obj} {kvs : List (Key × V)} {R : It → Hp → Prop} (h : H d = some (.frz o (.dK kvs))) (k : R (Itk d o kvs) H) : rItK (.ref d) H R := ⟨d, o, rfl, .inl ⟨kvs, h, k⟩⟩
theorem walk_ks {d : Addr} {o : Obj} {kvs : List (Key × V)} : Walk (Itk d o kvs) (kvs.map fun kv => kV kv.1).length (fun H => H d = some (.frz o (.dK kvs))) (YAt (kvs.map fun kv => kV kv.1)) := by
  rw [List.length_map]
  refine walk_keys.mono (fun _ h => h) fun i H x H' hi _ h => ?_
  obtain ⟨h1, k, v, h2, h3⟩ := h
  refine ⟨h1, ?_⟩
  rw [List.getElem?_map, h2, h3]
  rfl
def rFldAug (K : PySem.W.Frag) (f : Str) (x : V) (tv : TE) (rd : V → V → Hp → VK → Prop) (D : Ends) (σ : L2.St) (H1 : Hp) : Prop := ∃ a C dx fs v, x = .ref a ∧ H1 a = some (.ins C dx fs) ∧ Cls K C ∧ NoAttr K C f ∧ fs.lookup f = some v ∧
  tv σ H1 fun y H2 => rd v y H2 fun z H3 => ∃ dx' fs', H3 a = some (.ins C dx' fs') ∧ fs'.length < 1000 ∧ D.nx σ (upd H3 a (.ins C dx' (putF f z fs')))
theorem g_fldaug {rd : V → V → Hp → VK → Prop} {f : Str} (k : ta σ H fun x H1 => rFldAug K f x te rd D σ H1) : sFldAug K ta te rd f D σ H := k
/-- self.f += an int -/
theorem g_rfldaugI {f : Str} {a C dx : Addr} {fs : List (Str × V)} {m j : Int} (h : H a = some (.ins C dx fs)) (hc : Cls K C) (hn : NoAttr K C f) (hl : fs.lookup f = some (.int m)) (hz : fs.length < 1000)
    (hv : ∀ R : VK, R (.int j) H → te σ H R) (k : ∀ H', H' a = some (.ins C dx (putF f (.int (m + j)) fs)) → (∀ b, b ≠ a → H' b = H b) → D.nx σ H') : rFldAug K f (.ref a) te rAdd D σ H :=
  ⟨a, C, dx, fs, _, rfl, h, hc, hn, hl, hv _ ⟨m, j, rfl, rfl, dx, fs, h, hz, k _ upd_same fun b hb => upd_ne hb⟩⟩
end
/-! ### dicts whose keys stand in a list, their values a function -/
section
variable {α : Type} {F : α → Key} {G : α → V}
theorem valV_cons {p : Key × V} {r : List (Key × V)} {k : Key} : valV (p :: r) k = if p.1 = k then some p.2 else valV r k := by
  by_cases h : p.1 = k
  · rw [if_pos h, valV_pos h]
  · rw [if_neg h, valV_neg h]
/-- a dict of the keys ks with the values A -/
def mkD (ks : List Int) (A : Int → V) : List (Key × V) := ks.map fun i => (kI i, A i)
theorem mkD_len {ks : List Int} {A : Int → V} : (mkD ks A).length = ks.length := List.length_map _
theorem valV_mkD {ks : List Int} {A : Int → V} {i : Int} : valV (mkD ks A) (kI i) = if i ∈ ks then some (A i) else none := by
  induction ks with
  | nil => rfl
  | cons j r ih =>
    show valV ((kI j, A j) :: mkD r A) (kI i) = _
    rw [valV_cons, ih]
    by_cases h : j = i
    · subst h
      simp [kI]
    · have h2 : ¬ (kI j = kI i) := fun z => h (Sum.inl.inj z)
      have h3 : ¬ (i = j) := fun z => h z.symm
      simp [h2, h3]
theorem mkD_congr {ks : List Int} {A B : Int → V} (h : ∀ i ∈ ks, A i = B i) : mkD ks A = mkD ks B := List.map_congr_left fun i hi => by rw [h i hi]
theorem putK_mkD_new {ks : List Int} {A : Int → V} {i : Int} {v : V} (h : i ∉ ks) : putK (mkD ks A) (kI i) v = mkD (ks ++ [i]) (fun j => if j = i then v else A j) := by
  unfold putK
  rw [valV_any, valV_mkD, if_neg h]
  have e : mkD ks (fun j => if j = i then v else A j) = mkD ks A := mkD_congr fun j hj => if_neg fun z => h (by rw [← z]; exact hj)
  show (if none.isSome = true then _ else _) = _
  rw [if_neg (by decide)]
  show mkD ks A ++ [(kI i, v)] = (ks ++ [i]).map _
  rw [List.map_append, ← e]
  show _ = _ ++ [(kI i, if i = i then v else A i)]
  rw [if_pos rfl]
  rfl
theorem putK_mkD_old {ks : List Int} {A : Int → V} {i : Int} {v : V} (h : i ∈ ks) : putK (mkD ks A) (kI i) v = mkD ks (fun j => if j = i then v else A j) := by
  unfold putK
  rw [valV_any, valV_mkD, if_pos h]
  show (if (some (A i)).isSome = true then _ else _) = _
  rw [if_pos (show (some (A i)).isSome = true from rfl)]
  unfold mkD
  rw [List.map_map]
  refine List.map_congr_left fun j _ => ?_
  show (if kI j = kI i then (kI j, v) else (kI j, A j)) = (kI j, if j = i then v else A j)
  by_cases hj : j = i
  · rw [if_pos (by rw [hj]), if_pos hj]
  · rw [if_neg (show ¬ kI j = kI i from fun z => hj (Sum.inl.inj z)), if_neg hj]
theorem dropK_mkD {ks : List Int} {A : Int → V} {i : Int} : dropK (mkD ks A) (kI i) = mkD (ks.filter fun j => decide (j ≠ i)) A := by
  unfold dropK mkD
  rw [List.filter_map]
  congr 1
  refine List.filter_congr fun j _ => ?_
  show decide (kI j ≠ kI i) = decide (j ≠ i)
  rw [decide_eq_decide]
  exact ⟨fun h z => h (by rw [z]), fun h z => h (Sum.inl.inj z)⟩
theorem mkD_keys {ks : List Int} {A : Int → V} : (mkD ks A).map (·.1) = ks.map Sum.inl := by
  unfold mkD
  rw [List.map_map]
  rfl
theorem mkD_kV {ks : List Int} {A : Int → V} : ((mkD ks A).map fun kv => kV kv.1) = ks.map V.int := by
  unfold mkD
  rw [List.map_map]
  rfl
/-- .. of texts -/
def mkS (ks : List Str) (A : Str → V) : List (Key × V) := ks.map fun i => (kS i, A i)
theorem mkS_len {ks : List Str} {A : Str → V} : (mkS ks A).length = ks.length := List.length_map _
theorem valV_mkS {ks : List Str} {A : Str → V} {i : Str} : valV (mkS ks A) (kS i) = if i ∈ ks then some (A i) else none := by
  induction ks with
  | nil => rfl
  | cons j r ih =>
    show valV ((kS j, A j) :: mkS r A) (kS i) = _
    rw [valV_cons, ih]
    by_cases h : j = i
    · subst h
      simp [kS]
    · have h2 : ¬ (kS j = kS i) := fun z => h (Sum.inr.inj z)
      have h3 : ¬ (i = j) := fun z => h z.symm
      simp [h2, h3]
theorem mkS_congr {ks : List Str} {A B : Str → V} (h : ∀ i ∈ ks, A i = B i) : mkS ks A = mkS ks B := List.map_congr_left fun i hi => by rw [h i hi]
theorem putK_mkS_new {ks : List Str} {A : Str → V} {i : Str} {v : V} (h : i ∉ ks) : putK (mkS ks A) (kS i) v = mkS (ks ++ [i]) (fun j => if j = i then v else A j) := by
  unfold putK
  rw [valV_any, valV_mkS, if_neg h]
  have e : mkS ks (fun j => if j = i then v else A j) = mkS ks A := mkS_congr fun j hj => if_neg fun z => h (by rw [← z]; exact hj)
  show (if none.isSome = true then _ else _) = _
  rw [if_neg (by decide)]
  show mkS ks A ++ [(kS i, v)] = (ks ++ [i]).map _
  rw [List.map_append, ← e]
  show _ = _ ++ [(kS i, if i = i then v else A i)]
  rw [if_pos rfl]
  rfl
theorem putK_mkS_old {ks : List Str} {A : Str → V} {i : Str} {v : V} (h : i ∈ ks) : putK (mkS ks A) (kS i) v = mkS ks (fun j => if j = i then v else A j) := by
  unfold putK
  rw [valV_any, valV_mkS, if_pos h]
  show (if (some (A i)).isSome = true then _ else _) = _
  rw [if_pos (show (some (A i)).isSome = true from rfl)]
  unfold mkS
  rw [List.map_map]
  refine List.map_congr_left fun j _ => ?_
  show (if kS j = kS i then (kS j, v) else (kS j, A j)) = (kS j, if j = i then v else A j)
  by_cases hj : j = i
  · rw [if_pos (by rw [hj]), if_pos hj]
  · rw [if_neg (show ¬ kS j = kS i from fun z => hj (Sum.inr.inj z)), if_neg hj]
theorem dropK_mkS {ks : List Str} {A : Str → V} {i : Str} : dropK (mkS ks A) (kS i) = mkS (ks.filter fun j => decide (j ≠ i)) A := by
  unfold dropK mkS
  rw [List.filter_map]
  congr 1
  refine List.filter_congr fun j _ => ?_
  show decide (kS j ≠ kS i) = decide (j ≠ i)
  rw [decide_eq_decide]
  exact ⟨fun h z => h (by rw [z]), fun h z => h (Sum.inr.inj z)⟩
theorem mkS_keys {ks : List Str} {A : Str → V} : (mkS ks A).map (·.1) = ks.map Sum.inr := by
  unfold mkS
  rw [List.map_map]
  rfl
theorem mkS_kV {ks : List Str} {A : Str → V} : ((mkS ks A).map fun kv => kV kv.1) = ks.map V.str := by
  unfold mkS
  rw [List.map_map]
  rfl
end
/-! ### sorted lists that hold the same are the same -/
theorem int_sorted_eq {a b : List Int} (h : a.Perm b) (ha : a.Pairwise (· ≤ ·)) (hb : b.Pairwise (· ≤ ·)) : a = b :=
  List.Perm.eq_of_pairwise (le := (· ≤ ·)) (fun x y _ _ h1 h2 => Int.le_antisymm h1 h2) ha hb h
theorem sortedS_pw : ∀ (l : List Str), sortedS l = true → l.Pairwise (fun a b => a.cps.toList ≤ b.cps.toList)
  | [], _ => .nil
  | [x], _ => .cons (fun y hy => nomatch hy) .nil
  | x :: y :: r, h => by
    have h1 : (!ltCps y.cps.toList x.cps.toList && risingS y r) = true := h
    rw [Bool.and_eq_true, Bool.not_eq_true', PyProof.Rows.ltCps_eq, decide_eq_false_iff_not, List.not_lt] at h1
    have ih := sortedS_pw (y :: r) h1.2
    refine .cons (fun z hz => ?_) ih
    rcases List.mem_cons.mp hz with e | hz
    · subst e; exact h1.1
    · exact List.le_trans h1.1 (List.rel_of_pairwise_cons ih hz)
theorem str_ext {a b : Str} (h : a.cps.toList = b.cps.toList) : a = b := by
  cases a; cases b
  simp only [Str.mk.injEq]
  exact Array.toList_inj.mp h
theorem str_sorted_eq {a b : List Str} (h : a.Perm b) (ha : sortedS a = true) (hb : sortedS b = true) : a = b :=
  List.Perm.eq_of_pairwise (le := fun a b => a.cps.toList ≤ b.cps.toList) (fun x y _ _ h1 h2 => str_ext (List.le_antisymm h1 h2)) (sortedS_pw a ha) (sortedS_pw b hb) h
theorem nodup_few {α : Type} [DecidableEq α] : ∀ {l D : List α}, l.Nodup → (∀ x ∈ l, x ∈ D) → l.length ≤ D.length
  | [], _, _, _ => Nat.zero_le _
  | x :: l, D, hn, h => by
    obtain ⟨h1, h2⟩ := List.nodup_cons.mp hn
    have hx := h x List.mem_cons_self
    have ih := nodup_few (l := l) (D := D.erase x) h2 fun y hy => (List.mem_erase_of_ne (fun z => h1 (by rw [← z]; exact hy))).mpr (h y (List.mem_cons_of_mem _ hy))
    rw [List.length_erase_of_mem hx] at ih
    have : 0 < D.length := List.length_pos_of_mem hx
    rw [List.length_cons]
    omega
theorem nodup_take {α : Type} {l : List α} {i : Nat} {x : α} (h : l.Nodup) (e : l[i]? = some x) : x ∉ l.take i := by
  obtain ⟨hl, hx⟩ := List.getElem?_eq_some_iff.mp e
  have h2 : l.take i ++ x :: l.drop (i + 1) = l := by
    rw [← hx, ← List.drop_eq_getElem_cons hl, List.take_append_drop]
  rw [← h2, List.nodup_append] at h
  exact fun z => h.2.2 x z x List.mem_cons_self rfl
theorem perm_same {α : Type} [DecidableEq α] {a b : List α} (ha : a.Nodup) (hb : b.Nodup) (h : ∀ x, x ∈ a ↔ x ∈ b) : a.Perm b := (List.perm_ext_iff_of_nodup ha hb).mpr h
end Lw
local macro_rules | `(tactic| walk_at "lw side") => `(tactic| first | assumption | decide | omega | exact Or.inr ⟨by decide, by decide⟩ | exact Or.inl ⟨by decide, by decide⟩ | exact ⟨by decide, by decide⟩ | exact ⟨by omega, by omega⟩)
local macro_rules | `(tactic| walk_at "lw ne") => `(tactic| first | assumption | exact Ne.symm (by assumption) | exact L2.ne_of_none (by assumption) (by assumption) | exact Ne.symm (L2.ne_of_none (by assumption) (by assumption)))
local macro_rules | `(tactic| walk_at "lw hp") => `(tactic| first | assumption | exact L2.upd_same | (refine Eq.trans (L2.upd_ne (by walk_at "lw ne")) ?_; walk_at "lw hp"))
local macro_rules | `(tactic| walk_at "lw sq") => `(tactic| first | assumption | exact L2.SqL.of (by walk_at "lw hp") | exact L2.SqT.of (by walk_at "lw hp"))
local macro_rules | `(tactic| walk_at "lw go") => `(tactic| first
  | (with_reducible refine Lw.g_seq ?_)
  | ((with_reducible refine' Lw.g_var ?h1 ?k1); (case h1 => rfl))
  | (with_reducible refine Lw.g_c ?_)
  | (with_reducible refine Lw.g_op ?_)
  | (with_reducible refine Lw.g_I0 ?_)
  | ((with_reducible refine' Lw.g_I ?h1 ?k1); (case h1 => walk_at "lw side"))
  | ((with_reducible refine' Lw.g_eq ?h1 ?k1); (case h1 => rfl))
  | ((with_reducible refine' Lw.g_ne ?h1 ?k1); (case h1 => rfl))
  | (with_reducible refine Lw.g_nil ?_)
  | (with_reducible refine Lw.g_cons ?_)
  | (with_reducible refine Lw.g_cb ?_)
  | (with_reducible refine Lw.g_call ?_)
  | (with_reducible refine Lw.g_test ?_)
  | (with_reducible refine Lw.g_B ?_)
  | (with_reducible refine Lw.g_exb ?_)
  | (with_reducible refine Lw.g_not ?_)
  | (with_reducible refine Lw.g_and ?_)
  | (with_reducible refine Lw.g_or ?_)
  | (with_reducible refine Lw.g_tup ?_)
  | (with_reducible refine Lw.g_lst ?_)
  | (with_reducible refine Lw.g_ifx ?_)
  | (with_reducible refine Lw.g_fld ?_)
  | (with_reducible refine Lw.g_asg ?_)
  | (with_reducible refine Lw.g_name ?_)
  | (with_reducible refine Lw.g_ret ?_)
  | (with_reducible refine Lw.g_drop ?_)
  | (with_reducible refine Lw.g_next ?_)
  | (with_reducible refine Lw.g_ifs ?_)
  | (with_reducible refine Lw.g_pnx ?_)
  | (with_reducible refine Lw.g_prt ?_)
  | (with_reducible refine Lw.g_pbk ?_)
  | (with_reducible refine Lw.g_pct ?_)
  | (with_reducible refine Lw.g_sl ?_)
  | (with_reducible refine Lw.g_nopart ?_)
  | (with_reducible refine Lw.g_part ?_)
  | (with_reducible refine Lw.g_rpart ?_)
  | (with_reducible refine Lw.g_m1 ?_)
  | (with_reducible refine Lw.g_m0 ?_)
  | (with_reducible refine Lw.g_rstr ?_)
  | (with_reducible refine Lw.g_bm0 ?_)
  | (with_reducible refine Lw.g_bm ?_)
  | (with_reducible refine Lw.g_isN ?_)
  | (with_reducible refine Lw.g_isB ?_)
  | (with_reducible refine Lw.g_notB ?_)
  | (with_reducible refine Lw.g_andV ?_)
  | (with_reducible refine Lw.g_orV ?_)
  | (with_reducible refine Lw.g_notV ?_)
  | (with_reducible refine Lw.g_notN ?_)
  | (with_reducible refine L2.iteT ?_)
  | (with_reducible refine L2.iteF ?_)
  | (with_reducible refine Lw.g_int1 ?_)
  | (with_reducible refine Lw.g_int1b ?_)
  | (with_reducible refine Lw.g_sub ?_)
  | (with_reducible refine Lw.g_forR ?_)
  | (with_reducible refine Lw.g_for ?_)
  | (with_reducible refine Lw.g_lc ?_)
  | (with_reducible refine Lw.g_iStr ?_)
  | (with_reducible refine Lw.g_ritS ?_)
  | (with_reducible refine Lw.g_tyS ?_)
  | (with_reducible refine Lw.g_iList ?_)
  | (with_reducible refine Lw.g_iTup ?_)
  | (with_reducible refine Lw.g_iRng ?_)
  | (with_reducible refine Lw.g_inSg ?_)
  | (with_reducible refine Lw.g_notInSg ?_)
  | (with_reducible refine Lw.g_ord ?_)
  | (with_reducible refine Lw.g_reprB ?_)
  | (with_reducible refine Lw.g_sfld ?_)
  | (with_reducible refine Lw.g_meth ?_)
  | (with_reducible refine Lw.g_make ?_)
  | (with_reducible refine Lw.g_dget ?_)
  | (with_reducible refine Lw.g_din ?_)
  | (with_reducible refine Lw.g_dnotin ?_)
  | (with_reducible refine Lw.g_dput ?_)
  | (with_reducible refine Lw.g_ddel ?_)
  | (with_reducible refine Lw.g_dpop1 ?_)
  | (with_reducible refine Lw.g_dget1 ?_)
  | (with_reducible refine Lw.g_iKeys ?_)
  | (with_reducible refine Lw.g_fldaug ?_)
  | ((with_reducible refine' Lw.g_lenL ?h1 ?k1); (case h1 => walk_at "lw sq"))
  | ((with_reducible refine' Lw.g_lenD ?h1 ?k1); (case h1 => walk_at "lw hp")))
local macro_rules | `(tactic| walk_at "lw") => `(tactic| repeat walk_at "lw go")
local macro_rules | `(tactic| walk_at "lw hp") => `(tactic| first | assumption | exact L2.upd_same | exact L2.Same.at (by assumption) (by walk_at "lw hp") | (refine Eq.trans (L2.upd_ne (by walk_at "lw ne")) ?_; walk_at "lw hp"))
local macro_rules | `(tactic| walk_at "lw go") => `(tactic| first
  | ((with_reducible refine Lw.g_kinT (b := true) (by decide) rfl rfl (by decide +kernel) ?_); intro _ _)
  | ((with_reducible refine Lw.g_kinT (b := false) (by decide) rfl rfl (by decide +kernel) ?_); intro _ _)
  | ((with_reducible refine Lw.g_kninT (b := true) (by decide) rfl rfl (by decide +kernel) ?_); intro _ _)
  | ((with_reducible refine Lw.g_kninT (b := false) (by decide) rfl rfl (by decide +kernel) ?_); intro _ _)
  | ((with_reducible refine Lw.g_kinL (b := true) (by decide) rfl rfl (by decide +kernel) ?_); intro _ _)
  | ((with_reducible refine Lw.g_kinL (b := false) (by decide) rfl rfl (by decide +kernel) ?_); intro _ _)
  | ((with_reducible refine Lw.g_kninL (b := true) (by decide) rfl rfl (by decide +kernel) ?_); intro _ _)
  | ((with_reducible refine Lw.g_kninL (b := false) (by decide) rfl rfl (by decide +kernel) ?_); intro _ _)
  | (with_reducible refine Lw.g_pairs1 ?_)
  | (with_reducible refine Lw.g_pairs0 ?_)
  | (with_reducible refine Lw.g_gcons ?_)
  | (with_reducible refine Lw.g_gnil ?_)
  | (with_reducible refine Lw.ifT (by decide +kernel) ?_)
  | (with_reducible refine Lw.ifF (by decide +kernel) ?_))
local macro_rules | `(tactic| walk_at "lw same") => `(tactic| first | assumption | exact L2.Same.refl _ | (refine L2.Same.trans ?_ (by assumption); walk_at "lw same"))
local macro_rules | `(tactic| walk_at "lw go") => `(tactic| first
  | ((with_reducible refine' Lw.g_rfld (f := "blobs") ?h1 ?h2 ?h3 Lw.f_Store_blobs ?k1); (case h1 => walk_at "lw hp"); (case h2 => exact Lw.Txt.cl_Store (by assumption)); (case h3 => exact Lw.Txt.na_Store_blobs (by assumption)))
  | ((with_reducible refine' Lw.g_rmeth ?h1 (Lw.f_Store_no (by decide +kernel)) ?k1); (case h1 => walk_at "lw hp")))
local macro_rules | `(tactic| walk_at "lw go") => `(tactic| first
  | (with_reducible refine Lw.g_callS ?_)
  | (with_reducible refine Lw.g_raise ?_)
  | (with_reducible refine Lw.g_tryAs ?_)
  | (with_reducible refine Lw.g_xf ?_))

/-! ## errors of the program's own -/
namespace Lw
open PySem L2
open PyProof.Rows (envOfC)
/-- a def that may raise -/
structure CalX (P : Program) (w : World) (K : PySem.W.Frag) (mg : Str → Option Value) (base : Heap) (k : Nat) (x : Str) (sp : Sp) : Prop where
  ex : ∃ (f : Addr) (fd : FuncData) (ps : List Str), FnOk P w K mg base (L2.CX P w) k f fd ps sp ∧ mg x = some (.ref f) ∧ PySem.W.keepIn K (.ref f) = true ∧ Binds K fd ps []
/-- an error's class that is called -/
structure Exo (P : Program) (w : World) (K : PySem.W.Frag) (mg : Str → Option Value) (base : Heap) (k : Nat) (x : Str) (C : Addr) (sp : Sp) : Prop where
  ex : ∃ (f : Addr) (fd : FuncData) (ps : List Str), OexC K C ∧ PySem.W.findIn K (.ref C) "__init__" = some (some (.ref f)) ∧ PySem.W.typeIn K (.ref f) = some (.type "function") ∧ FnOk P w K mg base CX0 k f fd ps sp ∧ mg x = some (.ref C) ∧ Binds K fd ps []
/-- its __init__ -/
structure ExiAt (K : PySem.W.Frag) (mg : Str → Option Value) (x : Str) (C : Addr) (qual : Str) (st : Stmt) (ps : List Str) : Prop where
  ex : ∃ (f : Addr) (fd : FuncData), Fun K "__init__" qual st f fd ∧ PySem.W.findIn K (.ref C) "__init__" = some (some (.ref f)) ∧ PySem.W.typeIn K (.ref f) = some (.type "function") ∧ mg x = some (.ref C) ∧ Binds K fd ps []
/-- isinstance of such an error asks these -/
structure XiC (K : PySem.W.Frag) (D : Addr) : Prop where
  a1 : PySem.W.isClsIn K D = true
  a2 : PySem.W.findIn K (.ref D) "__getattribute__" = some (some (.builtin "BaseException.__getattribute__"))
  a3 : PySem.W.findIn K (.ref D) "__getattr__" = some none
  a4 : PySem.W.subIn K (.ref D) (.type "BaseException") = some true
  a5 : PySem.W.findIn K (.ref D) "__class__" = some (some (.builtin "object.__class__"))
  a6 : PySem.W.specialIn K (.builtin "object.__class__") "__get__" = some (some (.builtin "getset_descriptor.__get__"))
  a7 : PySem.W.takesIn K (.builtin "object.__class__") = some true
  a8 : PySem.W.mroIn K D (.type "object") = some true
theorem exm_self {K : PySem.W.Frag} {S : Addr} (k1 : PySem.W.subIn K (.ref S) (.type "BaseException") = some true) (k2 : PySem.W.isClsIn K S = true) (k3 : PySem.W.typeIn K (.ref S) = some (.type "type")) (k4 : PySem.W.subIn K (.ref S) (.ref S) = some true) :
    PySem.W.exmOne K (.ref S) (.ref S) = some true := by
  have k2' : (PySem.W.clsIn K S).isSome = true := k2
  have f1 : (PySem.W.subIn K (.ref S) (.type "BaseException") == some true) = true := by rw [k1]; rfl
  have f2 : ((PySem.W.clsIn K S).isSome && PySem.W.typeIn K (.ref S) == some (.type "type")) = true := by rw [k2', k3]; rfl
  unfold PySem.W.exmOne
  first
    | (simp only [f1, f2, if_true]; exact k4)
    | (show (if _ then (if _ then _ else none) else none) = some true; rw [if_pos f1, if_pos f2]; exact k4)
section
variable {P : Program} {w : World} {K : PySem.W.Frag} {mg : Str → Option Value} {base : Heap}
theorem calX_mk {x : Str} {st : Stmt} {N ps : List Str} {k : Nat} {sp : Sp} (D : DefAt K mg x st ps) (S : FnScope N ps (defScope st)) (len : ∀ vs H Q E, sp vs H Q E → vs.length = ps.length)
    (hbody : ∀ (f : Addr) (cdv : Value) (A : Around) (outer : List Env) (s : Shared) (H : Hp) (vs : List V) (Q : VK) (E : XK), Room k (A.deeper (envOfC x (defScope st) s.heap.objs.size f cdv)) → sp vs H Q E →
      ∃ t, PSs (cxOf (L2.CX P w) P w K mg base N x (defScope st) f cdv A outer s H E) (defBody st) t ∧ t { nx := fun _ H' => Q .non H', rt := Q } (start N vs) H) : CalX P w K mg base (k + 1) x sp := by
  obtain ⟨f, fd, F, hm, hb⟩ := D.ex
  exact ⟨f, fd, ps, F.okX S len fun cdv A outer s H vs Q E hr h => hbody f cdv A outer s H vs Q E hr h, hm, F.kp, hb⟩
theorem exo_mk {x qual : Str} {C : Addr} {st : Stmt} {N ps : List Str} {k : Nat} {sp : Sp} (O : OexC K C) (D : ExiAt K mg x C qual st ps) (S : FnScope N ps (defScope st)) (len : ∀ vs H Q E, sp vs H Q E → vs.length = ps.length)
    (hbody : ∀ (f : Addr) (cdv : Value) (A : Around) (outer : List Env) (s : Shared) (H : Hp) (vs : List V) (Q : VK) (E : XK), Room k (A.deeper (envOfC qual (defScope st) s.heap.objs.size f cdv)) → sp vs H Q E →
      ∃ t, PSs (cxOf CX0 P w K mg base N qual (defScope st) f cdv A outer s H E).nox (defBody st) t ∧ t { nx := fun _ H' => Q .non H', rt := Q } (start N vs) H) : Exo P w K mg base (k + 1) x C sp := by
  obtain ⟨f, fd, F, iC, tI, hm, hb⟩ := D.ex
  exact ⟨f, fd, ps, O, iC, tI, F.ok S len fun cdv A outer s H vs Q E hr h => hbody f cdv A outer s H vs Q E hr h, hm, hb⟩
end
section
variable {X : Cx} {x : Str} {C : Addr} {sp : Sp} {k j : Nat} {e : Expr} {es : List Expr} {p pos : Pos} {t : TA} {W : WX}
theorem pe_cX (c : CalX X.prog X.w X.K X.mg X.base k x sp) (tk : Takes X W) (hr : Room j X.A) (hk : k ≤ j) (hg : Gl X x) (ha : PA X (e :: es) t)
    (hdb : (x == ("__debug__" : Str)) = false := by decide) (he : starEach (e :: es) X.env = (false, eval e X.env) :: starEach es X.env := by rfl) (hpl : (backTo pos (starEach es X.env)).any (·.1) = false := by rfl) :
    PE X (.Call (.Name x p) (e :: es) [] pos) (tCallS sp (WE W) t) := by
  obtain ⟨f, fd, ps, F, hm, kp, b⟩ := c.ex
  exact pe_callS F (hr.mono hk) hg hm kp b (fun σ => passAt tk σ) ha hdb he hpl
theorem pmk_x (c : Exo X.prog X.w X.K X.mg X.base k x C sp) (hr : Room j X.A) (hk : k + 1 ≤ j) (hg : Gl X x) (ha : PA X (e :: es) t)
    (hdb : (x == ("__debug__" : Str)) = false := by decide) (he : starEach (e :: es) X.env = (false, eval e X.env) :: starEach es X.env := by rfl) (hpl : (backTo pos (starEach es X.env)).any (·.1) = false := by rfl) :
    PMk X (.Call (.Name x p) (e :: es) [] pos) (tMkO C sp [] t) := by
  obtain ⟨f, fd, ps, O, iC, tI, F, hm, b⟩ := c.ex
  exact pmk_oex O iC tI F (hr.mono hk) b .nil pass0 hg hm ha hdb he hpl
def tRaise (m : L2.St → Hp → XK → Prop) (W : WX) : TS := fun _ σ H => m σ H fun cls d H' => W cls d σ H'
theorem ps_rs {m : L2.St → Hp → XK → Prop} (hc : X.calm = true) (tk : Takes X W) (he : PMk X e m) : PS X (.Raise (some e) none pos) (tRaise m W) := ps_raise hc tk he
/-- .. except C as n -/
def tTryAs (K : PySem.W.Frag) (c : Value) (i : Nat) (tb : WX → TS) (ts : Addr → Value → Option Addr → TS) (Wout : WX) : TS := fun D σ H => tb (wAs K c i ts Wout D) D σ H
theorem ps_tryAs {n : Str} {c : Value} {i : Nat} {body suite : List Stmt} {b₀ : Stmt} {np pos' : Pos} {tb : WX → TS} {ts : Addr → Value → Option Addr → TS} {Wout : WX}
    (hs : X.stack = X.env :: X.outer) (hf : X.env.frame = some X.env.locals) (hN : X.N.Nodup) (hi : X.N[i]? = some n) (hln : X.env.kindOf n = some .local) (hc : Names X x c) (tk : Takes X Wout)
    (hb : ∀ (W : WX) (pn : List (Addr × Obj)) (xe : Value → Shared → Prop), Takes (X.tr pn xe) W → PassesOwn (model X.prog X.w) X.A X.env xe → PSs (X.tr pn xe) body (tb W))
    (hsu : ∀ (a : Addr) (oe : Obj) (cls : Value) (d : Option Addr) (pn : List (Addr × Obj)), Zc cls d oe → (∃ vs, oe.data = .fields vs) → PSs (X.suite a ((a, oe) :: pn)) (b₀ :: suite) (ts a cls d)) :
    PS X (.Try body [.ExceptHandler (some (.Name x np)) (some n) (b₀ :: suite) pos'] [] [] pos) (tTryAs X.K c i tb ts Wout) := ps_try_as hs hf hN hi hln hc tk hb hsu
def rIsE2 (K : PySem.W.Frag) (D a : Addr) (cls : Value) (d : Option Addr) : List V → Hp → VK → Prop := fun xs H Q => ∃ (c : V) (cv : Value) (b : Bool) (dd : Addr) (fs : List (Str × V)), xs = [.ref a, c] ∧ cls = .ref D ∧ d = some dd ∧ H dd = some (.xd fs) ∧ (∀ u, RelV c u → u = cv) ∧ PySem.W.kitOne K (.ref D) cv = some b ∧ Q (.bl b) H
theorem call_isE2 {a D : Addr} {oe : Obj} {cls : Value} {d : Option Addr} {pn : List (Addr × Obj)} (Y : XiC X.K D) (hz : Zc cls d oe) (hf : ∃ vs, oe.data = .fields vs) : CallR (X.suite a ((a, oe) :: pn)) (.builtin "isinstance") (rIsE2 X.K D a cls d) := by
  intro pins s σ H xs us Q I r h
  obtain ⟨c, cv, b, dd, fs, rfl, rfl, rfl, hdd, hcv, e, q⟩ := h
  obtain ⟨u, v, rfl, r1, r2⟩ := vals2 r
  cases r1
  have ev := hcv _ r2
  subst ev
  obtain ⟨ha, _⟩ := I.pin (a, oe) (List.mem_append_left _ List.mem_cons_self)
  obtain ⟨vs, hd⟩ := hf
  have hx : ObjOk X.prog X.w H s.heap dd (.xd fs) := I.hok dd _ hdd
  obtain ⟨mA, hns, hr⟩ := hx
  obtain ⟨od, ho, hl⟩ := lookIn_ns hns
  have J : PySem.W.InstAt s.heap a oe D (some od) := ⟨ha, hz.1, by unfold PySem.W.notCls; rw [hd] <;> rfl, by rw [hz.2]; exact ho⟩
  exact PySem.W.kia_one (PySem.W.kitx_exc (od := some od) Y.a1 Y.a2 Y.a3 Y.a4 Y.a5 Y.a6 Y.a7 Y.a8) I.kIn J e (fun z => nomatch z) fun tk => ⟨.bl b, H, I.kept (t' := tk) fun _ _ z => z, rfl, q⟩
end
/-- self.f = y, the only field -/
def spXInit (C : Addr) (f : Str) : Sp := fun vs H Q _ => ∃ (a : Addr) (v : V), vs = [.ref a, v] ∧ H a = some (exo a C none) ∧ ∀ dx, H dx = none → dx ≠ a → Q .non (upd (upd H dx (exd dx [(f, v)])) a (exo a C (some dx)))
section
variable {σ : L2.St} {H : Hp} {Q : VK} {K : PySem.W.Frag} {D : Ends} {ta te to : TE} {tl : TA} {v : V} {W : WX}
def rMkO (C : Addr) (sp : Sp) (vs : List V) (H1 : Hp) (Q : XK) : Prop := vs.length ≤ 1000 ∧ ∀ a, H1 a = none → sp (.ref a :: (vs ++ [])) (upd H1 a (exo a C none))
  (fun v H2 => v = .non ∧ ∃ (d : Addr) (fs : List (Str × V)), H2 a = some (exo a C (some d)) ∧ H2 d = some (exd d fs) ∧ H1 d = none ∧ Q (.ref C) (some d) (upd (del H2 a) d (.xd fs))) (fun _ _ _ => False)
theorem g_raise {C : Addr} {sp : Sp} (k : tl σ H fun vs H1 => rMkO C sp vs H1 fun cls d H' => W cls d σ H') : tRaise (tMkO C sp [] tl) W D σ H := k
theorem g_rmkO {C : Addr} {f : Str} {Q : XK} (k : ∀ d H', H d = none → Same H H' → H' d = some (.xd [(f, v)]) → Q (.ref C) (some d) H') : rMkO C (spXInit C f) [v] H Q := by
  refine ⟨(by show 1 ≤ 1000; decide), fun a na => ⟨a, v, rfl, upd_same, fun dx ndx nex => ⟨rfl, dx, [(f, v)], upd_same, ?_, ?_, ?_⟩⟩⟩
  · rw [upd_ne nex, upd_same]
  · rw [upd_ne nex] at ndx; exact ndx
  · rw [upd_ne nex] at ndx
    refine k dx _ ndx (fun b o e => ?_) upd_same
    have h1 := ne_of_none e ndx
    have h2 := ne_of_none e na
    rw [upd_ne h1, del_ne h2, upd_ne h2, upd_ne h1, upd_ne h2]
    exact e
theorem g_tryAs {c : Value} {i : Nat} {tb : WX → TS} {ts : Addr → Value → Option Addr → TS} {Wout : WX} (k : tb (wAs K c i ts Wout D) D σ H) : tTryAs K c i tb ts Wout D σ H := k
theorem g_caught {C : Addr} {i : Nat} {ts : Addr → Value → Option Addr → TS} {Wout : WX} {d : Option Addr} (te : PySem.W.exmOne K (.ref C) (.ref C) = some true)
    (k : ∀ a, H a = none → ts a (.ref C) d { nx := fun σ' H' => D.nx (σ'.set i none) H', rt := D.rt, bk := fun σ' H' => D.bk (σ'.set i none) H', ct := fun σ' H' => D.ct (σ'.set i none) H' } (σ.set i (some (.ref a))) H) : wAs K (.ref C) i ts Wout D (.ref C) d σ H :=
  ⟨true, te, fun _ a ha => k a ha, fun q => Bool.noConfusion q⟩
theorem g_callS {sp : Sp} {E : L2.St → XK} (k : tl σ H fun vs H1 => sp vs H1 Q (E σ)) : tCallS sp E tl σ H Q := k
def rXf (a : Addr) (cls : Value) (d : Option Addr) (C : Addr) (f : Str) (x : V) (H1 : Hp) (Q : VK) : Prop := x = .ref a ∧ cls = .ref C ∧ ∃ (dd : Addr) (fs : List (Str × V)) (v : V), d = some dd ∧ H1 dd = some (.xd fs) ∧ fs.lookup f = some v ∧ Q v H1
theorem g_xf {a C : Addr} {cls : Value} {d : Option Addr} {f : Str} (k : te σ H fun x H1 => rXf a cls d C f x H1 Q) : tXf a cls d C f te σ H Q := k
theorem g_rxf {a C dd : Addr} {f : Str} (h : H dd = some (.xd [(f, v)])) (k : Q v H) : rXf a (.ref C) (some dd) C f (.ref a) H Q := ⟨rfl, rfl, dd, _, v, rfl, h, lk_eq, k⟩
end
end Lw

/-! ## a number as sixteen hexadecimal signs -/
namespace Lw
open PySem L2
/-- the signs of n in the base 16, with zeros in front, sixteen at least -/
def hexT (n : Nat) : Str := ⟨(List.replicate (16 - ((Nat.toDigits 16 n).map Char.toNat).length) 48 ++ (Nat.toDigits 16 n).map Char.toNat).toArray⟩
def spec16 : Str := "016x"
def fs16 : Builtin.Float.FormatSpec := { fill := 48, align := 61, width := some 16, type := some 120 }
section
open Builtin Builtin.Float
theorem spec_reads : parseFormatSpec spec16.cps.toList "int" 62 = .ok fs16 := by
  first | rfl | decide +kernel | kernel_rfl
theorem digs_ne (n : Nat) : ((Nat.toDigits 16 n).map Char.toNat).isEmpty = false := by
  have h := PyProof.Rows.tDigits_len_ge 16 n
  cases e : Nat.toDigits 16 n with
  | nil => rw [e] at h; simp at h
  | cons a b => rfl
theorem field16 (n : Nat) : PyProof.Rows.intField' fs16 false [] ((Nat.toDigits 16 n).map Char.toNat) [] 4 = hexT n :=
  PyProof.Rows.intField'_zero_nonneg fs16 _ 4 rfl rfl (digs_ne n) rfl rfl
theorem hex_len {n : Nat} (h : n < 2 ^ 64) : (hexT n).length ≤ 100000 := by
  have h1 := PyProof.Rows.tDigits_len_le 16 n
  have h2 : (Nat.toDigits 16 n).length ≤ 16 := by
    have e := (Nat.length_toDigits_le_iff (b := 16) (n := n) (k := 16) (by decide) (by decide)).mpr (by simpa using h)
    exact e
  unfold hexT Str.length
  simp only [List.size_toArray, List.length_append, List.length_replicate, List.length_map]
  omega
section
variable {prog : Program} {w : World} {A : Around} {E : Value → Shared → Prop} {s : Shared}
set_option maxRecDepth 100000 in
theorem format_hex {n : Nat} {t : Tok} {Q : Value → Shared → Prop} (hn : n < 2 ^ 64) (h : Q (.str (hexT n) (s.toks + 1)) { s with toks := s.toks + 1 + 1 }) :
    wpAny (model prog w) A (formatField (.int (n : Int) t) spec16) Q E s := by
  show wpAny _ _ (holding [.int (n : Int) t] (pyFormat (.int (n : Int) t) spec16)) Q E s
  refine wpAny_holding ?_
  unfold pyFormat
  refine wpAny_bind (wpAny_mkStr ?_ (by decide +kernel))
  refine wpAny_bind (m := callSpecial? (.int (n : Int) t) (Str.ofString "__format__") [.str spec16 s.toks]) (wpAny_callSpecial?_slot (name := Str.ofString "__format__") (typeIs_int _ (n : Int) t) PyProof.Rows.slot_int_format ?_)
  refine wpAny_call (codeAny_call_builtin PyProof.Rows.slot_int_format.plain PyProof.Rows.entry_int_format (PyProof.Rows.slot_int_format.check _ _ _ _ _ _ _ _ (typeIs_int _ (n : Int) t) (PyProof.Rows.args_int_format _ _) ?_))
  have e1 : (spec16.length == 0) = false := by decide +kernel
  have e2 : ((spec16.cps.toList.drop 1).any (· ≥ 128) || (spec16.cps.getD 0 0 ≥ 128 && !([60, 62, 61, 94] : List Nat).contains (spec16.cps.getD 1 0))) = false := by decide +kernel
  unfold Builtin.«int.__format__»
  simp only [selfAndOne, noKeywords, Int.intOfSelf, asInt?, asStr?, List.isEmpty_nil, if_true, pure_bind, bind_pure, bind_assoc, e1, e2, Bool.false_eq_true, if_false,
    show (Value.str spec16 s.toks == Value.none) = false from rfl]
  refine wpAny_bind (wpAny_typeNameOf (T := "str") (typeIs_str _ _ _) (by decide) fun _ => ?_)
  refine wpAny_bind (PyProof.Rows.wpAny_typeNameOfCut_int ?_)
  simp only [spec_reads]
  rw [if_pos (by decide)]
  obtain ⟨f, hf, hty, hpr, hz, hal, hw, hgr, hsg⟩ : ∃ f, f = fs16 ∧ f.type = some 120 ∧ f.precision = none ∧ f.noNeg0 = false ∧ f.alt = false ∧ f.width.getD 0 ≤ 100000 ∧ f.grouping = none ∧ f.sign = none := ⟨fs16, rfl, rfl, rfl, rfl, rfl, by decide, rfl, rfl⟩
  have ef := field16 n
  have hl : (hexT n).length ≤ sizeLine := Nat.le_trans (hex_len hn) (by decide)
  rw [← hf] at ef ⊢
  simp only [hty, Option.getD_some]
  show wpAny _ _ (if _ then _ else _) _ _ _
  rw [if_neg (by simp [hpr])]
  show wpAny _ _ (if _ then _ else _) _ _ _
  rw [if_neg (by simp [hz])]
  show wpAny _ _ (if _ then _ else _) _ _ _
  rw [if_neg (by decide)]
  have hw' : ¬ (f.width.getD 0 > 100000) := by omega
  have eneg : decide ((n : Int) < 0) = false := decide_eq_false (by omega)
  simp only [show ((120 : Nat) == 98) = false from rfl, show ((120 : Nat) == 111) = false from rfl, show ((120 : Nat) == 120) = true from rfl, show ((120 : Nat) == 88) = false from rfl, show ((16 : Nat) == 10) = false from rfl, Bool.false_eq_true, if_false, if_true, hw', hal, eneg, Int.natAbs_natCast]
  show wpAny _ _ (retStr _) _ _ _
  unfold retStr
  rw [← ef] at hl h
  have em : (Nat.toDigits 16 n).map Char.toNat = (Nat.toDigits 16 n).map (fun c => c.toNat) := rfl
  rw [em] at hl h
  refine wpAny_bind (wpAny_mkStr (wpAny_pure ?_) ?hs2)
  case hs2 =>
    conv => lhs; arg 1; whnf
    simp only [PyProof.Rows.intField', hgr, hsg, Bool.false_eq_true, if_false] at hl ⊢
    exact hl
  dsimp only
  refine wpAny_bind (wpAny_isInstance (typeIs_str _ _ _) isSubtype_str_str (wpAny_pure ?_))
  conv => arg 1; arg 1; whnf
  simp only [PyProof.Rows.intField', hgr, hsg, Bool.false_eq_true, if_false] at h ⊢
  exact h
end
end
section
variable {X : Cx}
/-- {e:016x} -/
def rHex (x : V) (H : Hp) (Q : VK) : Prop := ∃ n : Nat, x = .int (n : Int) ∧ n < 2 ^ 64 ∧ Q (.str (hexT n)) H
def tHex (te : TE) : TE := fun σ H Q => te σ H fun x H1 => rHex x H1 Q
theorem g_hex {te : TE} {σ : L2.St} {H : Hp} {Q : VK} (k : te σ H fun x H1 => rHex x H1 Q) : tHex te σ H Q := k
theorem pe_hex {e spec : Expr} {te : TE} {pos : Pos} (he : PE X e te) (hs : PE X spec (tC (.str spec16))) : PE X (.FormattedValue e (-1) (some spec) pos) (tHex te) := by
  refine ⟨fun pins s σ H Q I h => ?_⟩
  refine wpAny_FormattedValue_spec (thn (he.run pins s σ H _ I h) fun v s1 hv => ?_)
  obtain ⟨x, H1, I1, r1, n, rfl, hn, q⟩ := hv
  obtain ⟨t, rfl⟩ := r1
  refine thn (hs.run pins s1 σ H1 (fun y H2 => y = .str spec16 ∧ Q (.str (hexT n)) H2) I1 ⟨rfl, q⟩) fun u s2 hu => ?_
  obtain ⟨y, H2, I2, r2, rfl, q2⟩ := hu
  obtain ⟨t2, rfl⟩ := r2
  exact ⟨spec16, t2, rfl, format_hex hn ⟨.str (hexT n), H2, I2.tok _, ⟨_, rfl⟩, q2⟩⟩
end
end Lw

namespace Lw
open PySem L2
def kinds3 : List Str := ["layer", "image", "bundle"]
end Lw
namespace Lw
open PySem L2
open PyProof.Rows (envOfC)
def top (i : Nat) : Stmt := PySem.Challenge.pw_layerwharf_k03_whole_blobs.main.body.getD i (.Pass ⟨0, 0, 0, 0⟩)
abbrev s_address_of : Stmt := top 4
abbrev n_address_of : List Str := ["kind", "text", "value", "character"]
theorem sc_address_of : FnScope n_address_of ["kind", "text"] (defScope s_address_of) := ⟨rfl, rfl, rfl, by decide +kernel, rfl, by decide +kernel, by decide +kernel⟩
abbrev s_is_address : Stmt := top 5
abbrev n_is_address : List Str := ["text", "character"]
theorem sc_is_address : FnScope n_is_address ["text"] (defScope s_is_address) := ⟨rfl, rfl, rfl, by decide +kernel, rfl, by decide +kernel, by decide +kernel⟩
abbrev s_Malformed___init__ : Stmt := inClass (top 8) 0
abbrev n_Malformed___init__ : List Str := ["self", "line"]
theorem sc_Malformed___init__ : FnScope n_Malformed___init__ ["self", "line"] (defScope s_Malformed___init__) := ⟨rfl, rfl, rfl, by decide +kernel, rfl, by decide +kernel, by decide +kernel⟩
abbrev s_image_text : Stmt := top 12
abbrev n_image_text : List Str := ["layers", "address"]
theorem sc_image_text : FnScope n_image_text ["layers"] (defScope s_image_text) := ⟨rfl, rfl, rfl, by decide +kernel, rfl, by decide +kernel, by decide +kernel⟩
abbrev s_bundle_text : Stmt := top 13
abbrev n_bundle_text : List Str := ["entries", "platform", "address"]
theorem sc_bundle_text : FnScope n_bundle_text ["entries"] (defScope s_bundle_text) := ⟨rfl, rfl, rfl, by decide +kernel, rfl, by decide +kernel, by decide +kernel⟩
abbrev s_lines_of : Stmt := top 14
abbrev n_lines_of : List Str := ["text", "head", "lines"]
theorem sc_lines_of : FnScope n_lines_of ["text", "head"] (defScope s_lines_of) := ⟨rfl, rfl, rfl, by decide +kernel, rfl, by decide +kernel, by decide +kernel⟩
abbrev s_read_image : Stmt := top 15
abbrev n_read_image : List Str := ["text", "lines", "index"]
theorem sc_read_image : FnScope n_read_image ["text"] (defScope s_read_image) := ⟨rfl, rfl, rfl, by decide +kernel, rfl, by decide +kernel, by decide +kernel⟩
abbrev s_is_platform : Stmt := top 16
abbrev n_is_platform : List Str := ["word", "character"]
theorem sc_is_platform : FnScope n_is_platform ["word"] (defScope s_is_platform) := ⟨rfl, rfl, rfl, by decide +kernel, rfl, by decide +kernel, by decide +kernel⟩
abbrev s_read_bundle : Stmt := top 17
abbrev n_read_bundle : List Str := ["text", "lines", "entries", "seen", "index", "words"]
theorem sc_read_bundle : FnScope n_read_bundle ["text"] (defScope s_read_bundle) := ⟨rfl, rfl, rfl, by decide +kernel, rfl, by decide +kernel, by decide +kernel⟩
abbrev s_references : Stmt := top 18
abbrev n_references : List Str := ["kind", "text", "platform", "address"]
theorem sc_references : FnScope n_references ["kind", "text"] (defScope s_references) := ⟨rfl, rfl, rfl, by decide +kernel, rfl, by decide +kernel, by decide +kernel⟩
abbrev s_Store___init__ : Stmt := inClass (top 21) 0
abbrev n_Store___init__ : List Str := ["self"]
theorem sc_Store___init__ : FnScope n_Store___init__ ["self"] (defScope s_Store___init__) := ⟨rfl, rfl, rfl, by decide +kernel, rfl, by decide +kernel, by decide +kernel⟩
abbrev s_Store_keep : Stmt := inClass (top 21) 1
abbrev n_Store_keep : List Str := ["self", "kind", "text", "address"]
theorem sc_Store_keep : FnScope n_Store_keep ["self", "kind", "text"] (defScope s_Store_keep) := ⟨rfl, rfl, rfl, by decide +kernel, rfl, by decide +kernel, by decide +kernel⟩
abbrev s_Store_blob : Stmt := inClass (top 21) 2
abbrev n_Store_blob : List Str := ["self", "address"]
theorem sc_Store_blob : FnScope n_Store_blob ["self", "address"] (defScope s_Store_blob) := ⟨rfl, rfl, rfl, by decide +kernel, rfl, by decide +kernel, by decide +kernel⟩
abbrev s_Store_remove_blob : Stmt := inClass (top 21) 3
abbrev n_Store_remove_blob : List Str := ["self", "address"]
theorem sc_Store_remove_blob : FnScope n_Store_remove_blob ["self", "address"] (defScope s_Store_remove_blob) := ⟨rfl, rfl, rfl, by decide +kernel, rfl, by decide +kernel, by decide +kernel⟩
abbrev s_Store_addresses : Stmt := inClass (top 21) 4
abbrev n_Store_addresses : List Str := ["self"]
theorem sc_Store_addresses : FnScope n_Store_addresses ["self"] (defScope s_Store_addresses) := ⟨rfl, rfl, rfl, by decide +kernel, rfl, by decide +kernel, by decide +kernel⟩
abbrev s_Store_below : Stmt := inClass (top 21) 5
abbrev n_Store_below : List Str := ["self", "address", "kind", "text"]
theorem sc_Store_below : FnScope n_Store_below ["self", "address"] (defScope s_Store_below) := ⟨rfl, rfl, rfl, by decide +kernel, rfl, by decide +kernel, by decide +kernel⟩
abbrev s_Store_is_whole : Stmt := inClass (top 21) 6
abbrev n_Store_is_whole : List Str := ["self", "address", "kind", "other"]
theorem sc_Store_is_whole : FnScope n_Store_is_whole ["self", "address"] (defScope s_Store_is_whole) := ⟨rfl, rfl, rfl, by decide +kernel, rfl, by decide +kernel, by decide +kernel⟩
abbrev s_Store_closure : Stmt := inClass (top 21) 7
abbrev n_Store_closure : List Str := ["self", "address", "found", "other", "inner"]
theorem sc_Store_closure : FnScope n_Store_closure ["self", "address"] (defScope s_Store_closure) := ⟨rfl, rfl, rfl, by decide +kernel, rfl, by decide +kernel, by decide +kernel⟩
abbrev s__law_state : Stmt := top 23
abbrev n__law_state : List Str := ["_law_script", "_law_cells", "_law_cell"]
theorem sc__law_state : FnScope n__law_state ["_law_script"] (defScope s__law_state) := ⟨rfl, rfl, rfl, by decide +kernel, rfl, by decide +kernel, by decide +kernel⟩
abbrev s__law_take : Stmt := top 24
abbrev n__law_take : List Str := ["_law_state_here", "_law_most", "_law_cells", "_law_at", "_law_cell", "_law_mixed"]
theorem sc__law_take : FnScope n__law_take ["_law_state_here", "_law_most"] (defScope s__law_take) := ⟨rfl, rfl, rfl, by decide +kernel, rfl, by decide +kernel, by decide +kernel⟩
abbrev s__law_text : Stmt := top 26
abbrev n__law_text : List Str := ["_law_state_here", "_law_most", "_law_k"]
theorem sc__law_text : FnScope n__law_text ["_law_state_here", "_law_most"] (defScope s__law_text) := ⟨rfl, rfl, rfl, by decide +kernel, rfl, by decide +kernel, by decide +kernel⟩
abbrev s__law_pick : Stmt := top 27
abbrev n__law_pick : List Str := ["_law_state_here", "_law_known"]
theorem sc__law_pick : FnScope n__law_pick ["_law_state_here", "_law_known"] (defScope s__law_pick) := ⟨rfl, rfl, rfl, by decide +kernel, rfl, by decide +kernel, by decide +kernel⟩
abbrev s__law_fill : Stmt := top 28
abbrev n__law_fill : List Str := ["_law_state_here", "_law_store", "_law_blobs", "_law_order", "_law_k", "_law_layers", "_law_refs_here", "_law_known", "_law_names", "_law_kind", "_law_text_here", "_law_address", "_law_pair", "_law_j", "_law_name"]
theorem sc__law_fill : FnScope n__law_fill ["_law_state_here", "_law_store", "_law_blobs"] (defScope s__law_fill) := ⟨rfl, rfl, rfl, by decide +kernel, rfl, by decide +kernel, by decide +kernel⟩
abbrev s__law_refs : Stmt := top 29
abbrev n__law_refs : List Str := ["_law_blobs", "_law_address", "_law_kind", "_law_text_here", "_law_lines", "_law_line"]
theorem sc__law_refs : FnScope n__law_refs ["_law_blobs", "_law_address"] (defScope s__law_refs) := ⟨rfl, rfl, rfl, by decide +kernel, rfl, by decide +kernel, by decide +kernel⟩
abbrev s__law_whole : Stmt := top 30
abbrev n__law_whole : List Str := ["_law_blobs", "_law_address", "_law_due", "_law_other"]
theorem sc__law_whole : FnScope n__law_whole ["_law_blobs", "_law_address"] (defScope s__law_whole) := ⟨rfl, rfl, rfl, by decide +kernel, rfl, by decide +kernel, by decide +kernel⟩
abbrev s__law_closure : Stmt := top 31
abbrev n__law_closure : List Str := ["_law_blobs", "_law_address", "_law_found", "_law_other", "_law_inner"]
theorem sc__law_closure : FnScope n__law_closure ["_law_blobs", "_law_address"] (defScope s__law_closure) := ⟨rfl, rfl, rfl, by decide +kernel, rfl, by decide +kernel, by decide +kernel⟩
abbrev s_law : Stmt := top 32
abbrev n_law : List Str := ["_law_script", "_law_state_here", "_law_store", "_law_blobs", "_law_everything", "_law_k", "_law_address", "_law_told"]
theorem sc_law : FnScope n_law ["_law_script"] (defScope s_law) := ⟨rfl, rfl, rfl, by decide +kernel, rfl, by decide +kernel, by decide +kernel⟩
/-- the fields of Store -/
def f_Store (x_blobs : V) : List (Str × V) := [("blobs", x_blobs)]
theorem f_Store_blobs {x_blobs : V} : (f_Store x_blobs).lookup ("blobs" : Str) = some x_blobs := lk_eq
theorem f_Store_put_blobs {x_blobs y : V} : putF "blobs" y (f_Store x_blobs) = f_Store y := pf_eq
theorem f_Store_no {x_blobs : V} {m : Str} (h : (["blobs"] : List Str).all (fun f => !(m == f)) = true) : (f_Store x_blobs).lookup m = none := lk_no h
theorem f_Store_len {x_blobs : V} : (f_Store x_blobs).length < 1000 := (by decide : 1 < 1000)
theorem f_Store_mk {x_blobs : V} : putF "blobs" x_blobs ([]) = f_Store x_blobs := by
  unfold f_Store; simp only [putF]; first | rfl | (repeat' (first | rfl | rw [if_neg (by decide +kernel)]))
structure Txt (w : World) (K : PySem.W.Frag) (mg : Str → Option Value) (C_Store : Addr) (C_Refused : Addr) (C_Malformed : Addr) (a_KINDS : Addr) (a_BELOW : Addr) : Prop where
  cl_Store : Cls K C_Store
  na_Store_blobs : NoAttr K C_Store "blobs"
  i_Store : IniAt K mg "Store" C_Store "Store.__init__" s_Store___init__ ["self"]
  m_Store_keep : MetAt K C_Store "keep" "Store.keep" s_Store_keep ["self", "kind", "text"]
  m_Store_blob : MetAt K C_Store "blob" "Store.blob" s_Store_blob ["self", "address"]
  m_Store_remove_blob : MetAt K C_Store "remove_blob" "Store.remove_blob" s_Store_remove_blob ["self", "address"]
  m_Store_addresses : MetAt K C_Store "addresses" "Store.addresses" s_Store_addresses ["self"]
  m_Store_below : MetAt K C_Store "below" "Store.below" s_Store_below ["self", "address"]
  m_Store_is_whole : MetAt K C_Store "is_whole" "Store.is_whole" s_Store_is_whole ["self", "address"]
  m_Store_closure : MetAt K C_Store "closure" "Store.closure" s_Store_closure ["self", "address"]
  gx_Refused : mg "Refused" = some (.ref C_Refused)
  gx_Malformed : mg "Malformed" = some (.ref C_Malformed)
  ox_Malformed : OexC K C_Malformed
  xf_Malformed : XfC K C_Malformed
  xi_Malformed : XiC K C_Malformed
  te_Malformed : PySem.W.exmOne K (.ref C_Malformed) (.ref C_Malformed) = some true
  na_Malformed_line : PySem.W.findIn K (.ref C_Malformed) "line" = some none
  i_Malformed : ExiAt K mg "Malformed" C_Malformed "Malformed.__init__" s_Malformed___init__ ["self", "line"]
  d_address_of : DefAt K mg "address_of" s_address_of ["kind", "text"]
  d_is_address : DefAt K mg "is_address" s_is_address ["text"]
  d_image_text : DefAt K mg "image_text" s_image_text ["layers"]
  d_bundle_text : DefAt K mg "bundle_text" s_bundle_text ["entries"]
  d_lines_of : DefAt K mg "lines_of" s_lines_of ["text", "head"]
  d_read_image : DefAt K mg "read_image" s_read_image ["text"]
  d_is_platform : DefAt K mg "is_platform" s_is_platform ["word"]
  d_read_bundle : DefAt K mg "read_bundle" s_read_bundle ["text"]
  d_references : DefAt K mg "references" s_references ["kind", "text"]
  d__law_state : DefAt K mg "_law_state" s__law_state ["_law_script"]
  d__law_take : DefAt K mg "_law_take" s__law_take ["_law_state_here", "_law_most"]
  d__law_text : DefAt K mg "_law_text" s__law_text ["_law_state_here", "_law_most"]
  d__law_pick : DefAt K mg "_law_pick" s__law_pick ["_law_state_here", "_law_known"]
  d__law_fill : DefAt K mg "_law_fill" s__law_fill ["_law_state_here", "_law_store", "_law_blobs"]
  d__law_refs : DefAt K mg "_law_refs" s__law_refs ["_law_blobs", "_law_address"]
  d__law_whole : DefAt K mg "_law_whole" s__law_whole ["_law_blobs", "_law_address"]
  d__law_closure : DefAt K mg "_law_closure" s__law_closure ["_law_blobs", "_law_address"]
  n_abs : mg "abs" = none
  n_int : mg "int" = none
  n_len : mg "len" = none
  n_list : mg "list" = none
  n_ord : mg "ord" = none
  n_range : mg "range" = none
  n_repr : mg "repr" = none
  n_sorted : mg "sorted" = none
  n_str : mg "str" = none
  g_DIGITS : ∃ u, mg "DIGITS" = some u ∧ RelV (.str "0123456789abcdef") u
  g_LETTERS : ∃ u, mg "LETTERS" = some u ∧ RelV (.str "abcdefghijklmnopqrstuvwxyz") u
  g_MAX_LINES : ∃ u, mg "MAX_LINES" = some u ∧ RelV (.int 50) u
  g_PRIME : ∃ u, mg "PRIME" = some u ∧ RelV (.int 2305843009213693951) u
  g_KINDS : ∃ u, mg "KINDS" = some u ∧ RelV (.ref a_KINDS) u
  at_KINDS : ∃ o its n, K.lookup a_KINDS = some o ∧ o.cls = .type "tuple" ∧ o.dict = none ∧ o.data = .seq its n ∧ its.size ≤ sizeLine ∧ Vals (kinds3.map V.str) its.toList
  g_BELOW : ∃ u, mg "BELOW" = some u ∧ RelV (.ref a_BELOW) u
  k_BELOW_image : KDct K w a_BELOW "image" (.str "layer")
  k_BELOW_bundle : KDct K w a_BELOW "bundle" (.str "image")
end Lw
local macro_rules | `(tactic| walk_at "lw side") => `(tactic| first | assumption | decide | omega | exact Or.inr ⟨by decide, by decide⟩ | exact Or.inl ⟨by decide, by decide⟩ | exact ⟨by decide, by decide⟩ | exact ⟨by omega, by omega⟩)
local macro_rules | `(tactic| walk_at "lw ne") => `(tactic| first | assumption | exact Ne.symm (by assumption) | exact L2.ne_of_none (by assumption) (by assumption) | exact Ne.symm (L2.ne_of_none (by assumption) (by assumption)))
local macro_rules | `(tactic| walk_at "lw hp") => `(tactic| first | assumption | exact L2.upd_same | (refine Eq.trans (L2.upd_ne (by walk_at "lw ne")) ?_; walk_at "lw hp"))
local macro_rules | `(tactic| walk_at "lw sq") => `(tactic| first | assumption | exact L2.SqL.of (by walk_at "lw hp") | exact L2.SqT.of (by walk_at "lw hp"))
local macro_rules | `(tactic| walk_at "lw go") => `(tactic| first
  | (with_reducible refine Lw.g_seq ?_)
  | ((with_reducible refine' Lw.g_var ?h1 ?k1); (case h1 => rfl))
  | (with_reducible refine Lw.g_c ?_)
  | (with_reducible refine Lw.g_op ?_)
  | (with_reducible refine Lw.g_I0 ?_)
  | ((with_reducible refine' Lw.g_I ?h1 ?k1); (case h1 => walk_at "lw side"))
  | ((with_reducible refine' Lw.g_eq ?h1 ?k1); (case h1 => rfl))
  | ((with_reducible refine' Lw.g_ne ?h1 ?k1); (case h1 => rfl))
  | (with_reducible refine Lw.g_nil ?_)
  | (with_reducible refine Lw.g_cons ?_)
  | (with_reducible refine Lw.g_cb ?_)
  | (with_reducible refine Lw.g_call ?_)
  | (with_reducible refine Lw.g_test ?_)
  | (with_reducible refine Lw.g_B ?_)
  | (with_reducible refine Lw.g_exb ?_)
  | (with_reducible refine Lw.g_not ?_)
  | (with_reducible refine Lw.g_and ?_)
  | (with_reducible refine Lw.g_or ?_)
  | (with_reducible refine Lw.g_tup ?_)
  | (with_reducible refine Lw.g_lst ?_)
  | (with_reducible refine Lw.g_ifx ?_)
  | (with_reducible refine Lw.g_fld ?_)
  | (with_reducible refine Lw.g_asg ?_)
  | (with_reducible refine Lw.g_name ?_)
  | (with_reducible refine Lw.g_ret ?_)
  | (with_reducible refine Lw.g_drop ?_)
  | (with_reducible refine Lw.g_next ?_)
  | (with_reducible refine Lw.g_ifs ?_)
  | (with_reducible refine Lw.g_pnx ?_)
  | (with_reducible refine Lw.g_prt ?_)
  | (with_reducible refine Lw.g_pbk ?_)
  | (with_reducible refine Lw.g_pct ?_)
  | (with_reducible refine Lw.g_sl ?_)
  | (with_reducible refine Lw.g_nopart ?_)
  | (with_reducible refine Lw.g_part ?_)
  | (with_reducible refine Lw.g_rpart ?_)
  | (with_reducible refine Lw.g_m1 ?_)
  | (with_reducible refine Lw.g_m0 ?_)
  | (with_reducible refine Lw.g_rstr ?_)
  | (with_reducible refine Lw.g_bm0 ?_)
  | (with_reducible refine Lw.g_bm ?_)
  | (with_reducible refine Lw.g_isN ?_)
  | (with_reducible refine Lw.g_isB ?_)
  | (with_reducible refine Lw.g_notB ?_)
  | (with_reducible refine Lw.g_andV ?_)
  | (with_reducible refine Lw.g_orV ?_)
  | (with_reducible refine Lw.g_notV ?_)
  | (with_reducible refine Lw.g_notN ?_)
  | (with_reducible refine L2.iteT ?_)
  | (with_reducible refine L2.iteF ?_)
  | (with_reducible refine Lw.g_int1 ?_)
  | (with_reducible refine Lw.g_int1b ?_)
  | (with_reducible refine Lw.g_sub ?_)
  | (with_reducible refine Lw.g_forR ?_)
  | (with_reducible refine Lw.g_for ?_)
  | (with_reducible refine Lw.g_lc ?_)
  | (with_reducible refine Lw.g_iStr ?_)
  | (with_reducible refine Lw.g_ritS ?_)
  | (with_reducible refine Lw.g_tyS ?_)
  | (with_reducible refine Lw.g_iList ?_)
  | (with_reducible refine Lw.g_iTup ?_)
  | (with_reducible refine Lw.g_iRng ?_)
  | (with_reducible refine Lw.g_inSg ?_)
  | (with_reducible refine Lw.g_notInSg ?_)
  | (with_reducible refine Lw.g_ord ?_)
  | (with_reducible refine Lw.g_reprB ?_)
  | (with_reducible refine Lw.g_sfld ?_)
  | (with_reducible refine Lw.g_meth ?_)
  | (with_reducible refine Lw.g_make ?_)
  | (with_reducible refine Lw.g_dget ?_)
  | (with_reducible refine Lw.g_din ?_)
  | (with_reducible refine Lw.g_dnotin ?_)
  | (with_reducible refine Lw.g_dput ?_)
  | (with_reducible refine Lw.g_ddel ?_)
  | (with_reducible refine Lw.g_dpop1 ?_)
  | (with_reducible refine Lw.g_dget1 ?_)
  | (with_reducible refine Lw.g_iKeys ?_)
  | (with_reducible refine Lw.g_fldaug ?_)
  | ((with_reducible refine' Lw.g_lenL ?h1 ?k1); (case h1 => walk_at "lw sq"))
  | ((with_reducible refine' Lw.g_lenD ?h1 ?k1); (case h1 => walk_at "lw hp")))
local macro_rules | `(tactic| walk_at "lw") => `(tactic| repeat walk_at "lw go")
local macro_rules | `(tactic| walk_at "lw hp") => `(tactic| first | assumption | exact L2.upd_same | exact L2.Same.at (by assumption) (by walk_at "lw hp") | (refine Eq.trans (L2.upd_ne (by walk_at "lw ne")) ?_; walk_at "lw hp"))
local macro_rules | `(tactic| walk_at "lw go") => `(tactic| first
  | ((with_reducible refine Lw.g_kinT (b := true) (by decide) rfl rfl (by decide +kernel) ?_); intro _ _)
  | ((with_reducible refine Lw.g_kinT (b := false) (by decide) rfl rfl (by decide +kernel) ?_); intro _ _)
  | ((with_reducible refine Lw.g_kninT (b := true) (by decide) rfl rfl (by decide +kernel) ?_); intro _ _)
  | ((with_reducible refine Lw.g_kninT (b := false) (by decide) rfl rfl (by decide +kernel) ?_); intro _ _)
  | ((with_reducible refine Lw.g_kinL (b := true) (by decide) rfl rfl (by decide +kernel) ?_); intro _ _)
  | ((with_reducible refine Lw.g_kinL (b := false) (by decide) rfl rfl (by decide +kernel) ?_); intro _ _)
  | ((with_reducible refine Lw.g_kninL (b := true) (by decide) rfl rfl (by decide +kernel) ?_); intro _ _)
  | ((with_reducible refine Lw.g_kninL (b := false) (by decide) rfl rfl (by decide +kernel) ?_); intro _ _)
  | (with_reducible refine Lw.g_pairs1 ?_)
  | (with_reducible refine Lw.g_pairs0 ?_)
  | (with_reducible refine Lw.g_gcons ?_)
  | (with_reducible refine Lw.g_gnil ?_)
  | (with_reducible refine Lw.ifT (by decide +kernel) ?_)
  | (with_reducible refine Lw.ifF (by decide +kernel) ?_))
local macro_rules | `(tactic| walk_at "lw same") => `(tactic| first | assumption | exact L2.Same.refl _ | (refine L2.Same.trans ?_ (by assumption); walk_at "lw same"))
local macro_rules | `(tactic| walk_at "lw go") => `(tactic| first
  | ((with_reducible refine' Lw.g_rfld (f := "blobs") ?h1 ?h2 ?h3 Lw.f_Store_blobs ?k1); (case h1 => walk_at "lw hp"); (case h2 => exact Lw.Txt.cl_Store (by assumption)); (case h3 => exact Lw.Txt.na_Store_blobs (by assumption)))
  | ((with_reducible refine' Lw.g_rmeth ?h1 (Lw.f_Store_no (by decide +kernel)) ?k1); (case h1 => walk_at "lw hp")))
local macro_rules | `(tactic| walk_at "lw go") => `(tactic| first
  | (with_reducible refine Lw.g_callS ?_)
  | (with_reducible refine Lw.g_raise ?_)
  | (with_reducible refine Lw.g_tryAs ?_)
  | (with_reducible refine Lw.g_xf ?_))
/-! ## the law's draws: any number below the bound may come -/
namespace Lw
open PySem L2
open PyProof.Rows (envOfC)
theorem at_in {α : Type} {xs : List α} {i : Int} (h0 : 0 ≤ i) (h1 : i < xs.length) : ∃ v, xs[i.toNat]? = some v ∧ atI xs i = some v := by
  have hl : i.toNat < xs.length := by omega
  refine ⟨xs[i.toNat], List.getElem?_eq_getElem hl, ?_⟩
  have := atI_nat (xs := xs) (j := i.toNat) (v := xs[i.toNat]) (List.getElem?_eq_getElem hl)
  rw [show ((i.toNat : Nat) : Int) = i by omega] at this
  exact this
theorem ix_in {n : Nat} {i : Int} (h0 : 0 ≤ i) (h1 : i < n) : ixN n i = some i.toNat := by
  unfold ixN
  rw [if_pos h0, if_pos h1]
theorem map_int_set (l : List Int) (j : Nat) (z : Int) : (l.map V.int).set j (.int z) = (l.set j z).map V.int := by rw [List.map_set]
/-- the state of the draws at S: its place, its cells at C -/
structure StateAt (c : Addr → Nat) (H : Hp) (S : Addr) : Prop where
  ex : ∃ (C : Addr) (pos : Int) (cells : List Int), c S = 0 ∧ c C = 0 ∧ S ≠ C ∧ H S = some (.lst [.int pos, .ref C]) ∧ H C = some (.lst (cells.map V.int)) ∧ cells ≠ [] ∧ (∀ x ∈ cells, 0 ≤ x) ∧ 0 ≤ pos
theorem StateAt.frame {I : Nat → Prop} {c c' : Addr → Nat} {H H' : Hp} {S : Addr} (h : StateAt c H S) (s : Stp I c c' H H') (hi : ¬ I 0 := by decide) : StateAt c' H' S := by
  obtain ⟨C, pos, cells, h1, h2, h3, h4, h5, h6⟩ := h.ex
  exact ⟨C, pos, cells, by rw [s.col _ _ h4, h1], by rw [s.col _ _ h5, h2], h3, s.keep _ _ h4 (by rw [h1]; exact hi), s.keep _ _ h5 (by rw [h2]; exact hi), h6⟩
def spState (K : PySem.W.Frag) : Sp := fun vs H Q _ => ∃ (a : Addr) (ns : List Int) (c : Addr → Nat), vs = [.ref a] ∧ SqL K H a (ns.map V.int) ∧ ns.length ≤ 63 ∧
  ∀ S c' H', StateAt c' H' S → Stp (fun _ => False) c c' H H' → Q (.ref S) H'
def spTake : Sp := fun vs H Q _ => ∃ (c : Addr → Nat) (S : Addr) (m : Int), vs = [.ref S, .int m] ∧ StateAt c H S ∧ 0 < m ∧ m < 1073741824 ∧
  ∀ (r : Int) c' H', 0 ≤ r → r < m → StateAt c' H' S → Stp (fun i => i = 0) c c' H H' → Q (.int r) H'
section
variable {P : Program} {w : World} {K : PySem.W.Frag} {mg : Str → Option Value} {base : Heap} {C_Store C_Refused C_Malformed a_KINDS a_BELOW : Addr}
theorem ok__law_state (T : Txt w K mg C_Store C_Refused C_Malformed a_KINDS a_BELOW) : Cal P w K mg base 1 "_law_state" (spState K) := by
  refine cal_mk T.d__law_state sc__law_state (fun vs H Q E h => ?_) (fun f cdv A outer s H vs Q E hr h => ?_)
  · obtain ⟨a, ns, c, rfl, _⟩ := h
    rfl
  · obtain ⟨a, ns, c, rfl, hS, hlen, k⟩ := h
    refine ⟨_, (pss_cons (ps_setLc (i := 1) (own := [("_law_cell", 2)]) (g := (gName 2)) (by rfl) sc__law_state.nd rfl rfl (sw_true rfl rfl rfl (by decide +kernel)) (pi_list (pe_slice sl_list (pv 0) po_none (po_some (pe_int)))) (blkOk_by (own := [("_law_cell", 2)]) (N := n__law_state) (sc := defScope s__law_state) (by decide +kernel)) (fun _ _ _ _ _ => (pg_name (i := 2) sc__law_state.nd rfl (by first | exact Or.inl rfl | exact Or.inr rfl))) (fun _ _ _ _ _ => pts_nil) (fun _ _ _ _ _ => (pe_callB call_abs (by rfl) T.n_abs (by decide +kernel) (pa_cons (pv 2) pa_nil))))
      (pss_cons (ps_if (pt_cmpR op_eq (pe_callB call_len_seq' (by rfl) T.n_len (by decide +kernel) (pa_cons (pv 1) pa_nil)) (pe_int) (nomark _)) (pss_one (ps_set (i := 1) sc__law_state.nd rfl (by first | exact Or.inl rfl | exact Or.inr rfl) (pe_lst (pa_cons (pe_int) pa_nil)))) pss_nil)
      (pss_one (ps_ret (pe_lst (pa_cons (pe_int) (pa_cons (pv 1) pa_nil))))))), ?_⟩
    refine ⟨_, rfl, 63, rfl, a, _, rfl, hS, fun p np => ?_⟩
    have e63 : (cutV (ns.map V.int) none (some 63)) = ns.map V.int := by
      unfold cutV
      rw [HT.sIx_none, show ((63 : Int)) = ((63 : Nat) : Int) from rfl, HT.sIx_nat, List.drop_zero, List.take_of_length_le (by rw [List.length_map]; omega)]
    rw [e63]
    refine ⟨p, rfl, ⟨_, SqL.of upd_same⟩, fun D hD => ?_⟩
    have hDp : D ≠ p := fun z => by subst z; rw [upd_same] at hD; cases hD
    have hD0 : H D = none := by rw [upd_ne hDp] at hD; exact hD
    refine lc_list (K := K) (a := p) (xs := ns.map V.int) (fun i H2 => ∃ l : List Int, l.length = i ∧ (∀ x ∈ l, 0 ≤ x) ∧ Same H H2 ∧ H2 p = some (.lst (ns.map V.int)) ∧ H2 D = some (.lst (l.map V.int)))
      ⟨[], rfl, by simp, (Same.new np).thenNew hD, by rw [upd_ne (Ne.symm hDp)]; exact upd_same, upd_same⟩
      (fun i H2 hi h => by obtain ⟨l, _, _, _, h2, _⟩ := h; exact SqL.of h2) (fun i x H2 hx h => ?_) (fun H2 h => ?_)
    · obtain ⟨l, h1, h2, h3, h4, h5⟩ := h
      obtain ⟨z, hz, rfl⟩ : ∃ z, ns[i]? = some z ∧ V.int z = x := by
        rw [List.getElem?_map] at hx
        cases e : ns[i]? with
        | none => rw [e] at hx; cases hx
        | some z => rw [e] at hx; exact ⟨z, rfl, Option.some.inj hx⟩
      refine ⟨rfl, ?_⟩
      refine ⟨_, rfl, z, rfl, l.map V.int, h5, ?_, l ++ [if z < 0 then -z else z], by simp [h1], ?_, h3.grow hD0, by rw [upd_ne (Ne.symm hDp)]; exact h4, by rw [upd_same]; simp⟩
      · have hi := (List.getElem?_eq_some_iff.mp hz).1
        rw [List.length_map, h1]
        exact small1000 (by omega)
      · intro x hx
        rcases List.mem_append.mp hx with q | q
        · exact h2 x q
        · rw [List.mem_singleton.mp q]
          split <;> omega
    · obtain ⟨l, h1, h2, h3, h4, h5⟩ := h
      rw [List.length_map] at h1
      refine ⟨_, rfl, D, l.map V.int, rfl, Or.inl (SqL.of h5), ?_⟩
      refine ⟨rfl, _, rfl, ?_⟩
      refine if2 (fun hz => ?_) (fun hz => ?_)
      · refine ⟨(by show 1 ≤ sizeLine; decide), fun q nq => ?_⟩
        refine ⟨_, rfl, (by show 2 ≤ sizeLine; decide), fun S nS => ?_⟩
        have hqS : q ≠ S := fun z => by subst z; rw [upd_same] at nS; cases nS
        refine k S (Stp.paint (Stp.paint c q 0) S 0) _ ⟨q, 0, [0], Stp.paint_same, by rw [Stp.paint_ne hqS]; exact Stp.paint_same, Ne.symm hqS, upd_same, by rw [upd_ne hqS]; exact upd_same, by simp, by simp, by decide⟩ ?_
        exact ((Stp.same h3).trans (Stp.newc nq)).trans (Stp.newc nS)
      · refine ⟨_, rfl, (by show 2 ≤ sizeLine; decide), fun S nS => ?_⟩
        have hDS : D ≠ S := ne_of_none h5 nS
        refine k S (Stp.paint (Stp.paint c D 0) S 0) _ ⟨D, 0, l, Stp.paint_same, by rw [Stp.paint_ne hDS]; exact Stp.paint_same, Ne.symm hDS, upd_same, by rw [upd_ne hDS]; exact h5, fun e => hz (by rw [int_eq, e]; rfl), h2, by decide⟩ ?_
        have s1 : Stp (fun _ => False) c (Stp.paint c D 0) H H2 := ⟨fun b o e _ => h3 b o e, fun b o e => Stp.paint_ne (ne_of_none e hD0), fun b xs e => h3 b _ e, fun b e => h3.free e⟩
        exact s1.trans (Stp.newc nS)
theorem ok__law_take (T : Txt w K mg C_Store C_Refused C_Malformed a_KINDS a_BELOW) : Cal P w K mg base 1 "_law_take" spTake := by
  refine cal_mk T.d__law_take sc__law_take (fun vs H Q E h => ?_) (fun f cdv A outer s H vs Q E hr h => ?_)
  · obtain ⟨c, S, m, rfl, _⟩ := h
    rfl
  · obtain ⟨c, S, m, rfl, hS, hm0, hm1, k⟩ := h
    obtain ⟨C, pos, cells, c1, c2, ne, h1, h2, h3, h4, h5⟩ := hS.ex
    have hcl : 0 < cells.length := List.length_pos_iff.mpr h3
    refine ⟨_, (pss_cons (ps_set (i := 2) sc__law_take.nd rfl (by first | exact Or.inl rfl | exact Or.inr rfl) (pe_ix ix_list (pv 0) (pe_int) (fun _ _ => rfl)))
      (pss_cons (ps_set (i := 3) sc__law_take.nd rfl (by first | exact Or.inl rfl | exact Or.inr rfl) (pe_op op_mod (pe_ix ix_list (pv 0) (pe_int) (fun _ _ => rfl)) (pe_callB call_len_seq' (by rfl) T.n_len (by decide +kernel) (pa_cons (pv 2) pa_nil))))
      (pss_cons (ps_set (i := 4) sc__law_take.nd rfl (by first | exact Or.inl rfl | exact Or.inr rfl) (pe_ix ix_list (pv 2) (pv 3) (fun _ _ => rfl)))
      (pss_cons (ps_if (pt_cmpR op_ge (pv 4) (pe_int) (nomark _)) (pss_cons (ps_asg (pe_op op_fdiv (pv 4) (pv 1)) (pg_sub (pv 2) (pv 3) set_list))
      (pss_one (ps_ret (pe_op op_mod (pv 4) (pv 1))))) pss_nil)
      (pss_cons (ps_asg (pe_op op_add (pe_ix ix_list (pv 0) (pe_int) (fun _ _ => rfl)) (pe_int)) (pg_sub (pv 0) (pe_int) set_list))
      (pss_cons (ps_set (i := 5) sc__law_take.nd rfl (by first | exact Or.inl rfl | exact Or.inr rfl) (pe_op op_mod (pe_callTy call_int1' (by rfl) T.n_int (by decide +kernel) (pa_cons (pe_op op_add (pe_op op_mul (pv 4) (pe_int)) (pe_op op_mul (pe_ix ix_list (pv 0) (pe_int) (fun _ _ => rfl)) (pe_int))) pa_nil)) (pe_int)))
      (pss_cons (ps_set (i := 5) sc__law_take.nd rfl (by first | exact Or.inl rfl | exact Or.inr rfl) (pe_op op_mod (pe_callTy call_int1' (by rfl) T.n_int (by decide +kernel) (pa_cons (pe_op op_add (pe_op op_mul (pv 5) (pe_int)) (pe_op op_mul (pe_ix ix_list (pv 0) (pe_int) (fun _ _ => rfl)) (pe_int))) pa_nil)) (pe_int)))
      (pss_one (ps_ret (pe_op op_mod (pe_op op_fdiv (pv 5) (pe_int)) (pv 1))))))))))), ?_⟩
    refine ⟨_, rfl, S, _, 1, .ref C, rfl, rfl, SqL.of h1, atI_nat (j := 1) rfl, ?_⟩
    refine ⟨_, rfl, S, _, 0, .int pos, rfl, rfl, SqL.of h1, atI_nat (j := 0) rfl, ?_⟩
    have hpl : 0 ≤ pos % (cells.length : Int) ∧ pos % (cells.length : Int) < (cells.length : Int) := ⟨Int.emod_nonneg _ (by omega), Int.emod_lt_of_pos _ (by omega)⟩
    refine ⟨_, rfl, C, _, rfl, Or.inl (SqL.of h2), _, _, rfl, rfl, by show (0 : Int) < ((cells.map V.int).length : Int); rw [List.length_map]; omega, ?_⟩
    rw [List.length_map]
    obtain ⟨v, hv, hat⟩ := at_in (xs := cells.map V.int) (i := pos % (cells.length : Int)) hpl.1 (by rw [List.length_map]; exact hpl.2)
    obtain ⟨x, hx, rfl⟩ : ∃ x, x ∈ cells ∧ V.int x = v := by
      rw [List.getElem?_map] at hv
      cases e : cells[(pos % (cells.length : Int)).toNat]? with
      | none => rw [e] at hv; cases hv
      | some x => rw [e] at hv; exact ⟨x, List.mem_of_getElem? e, Option.some.inj hv⟩
    have hx0 := h4 x hx
    refine ⟨_, rfl, _, rfl, C, _, _, _, rfl, rfl, SqL.of h2, hat, ?_⟩
    refine ⟨_, rfl, _, _, rfl, rfl, _, rfl, ?_⟩
    refine if2 (fun hz => ?_) (fun hz => ?_)
    · refine ⟨_, rfl, _, rfl, _, _, rfl, rfl, ⟨hm0, hm1⟩, ?_⟩
      refine ⟨_, rfl, _, rfl, C, _, _, _, rfl, rfl, h2, by rw [List.length_map]; exact ix_in hpl.1 hpl.2, ?_⟩
      refine ⟨_, rfl, _, rfl, _, _, rfl, rfl, hm0, ?_⟩
      refine k _ c _ (Int.emod_nonneg _ (by omega)) (Int.emod_lt_of_pos _ hm0) ⟨C, pos, cells.set (pos % (cells.length : Int)).toNat (x / m), c1, c2, ne, by rw [upd_ne ne]; exact h1, by rw [upd_same, map_int_set], ?_, ?_, h5⟩ ?_
      · intro e
        have := congrArg List.length e
        rw [List.length_set, List.length_nil] at this
        omega
      · intro y hy
        rcases List.mem_or_eq_of_mem_set hy with q | q
        · exact h4 y q
        · rw [q]; exact Int.ediv_nonneg hx0 (by omega)
      · exact Stp.own h2 c2 (fun xs z => by cases z)
    · refine ⟨_, rfl, S, _, 0, .int pos, rfl, rfl, SqL.of h1, atI_nat (j := 0) rfl, _, _, rfl, rfl, ?_⟩
      refine ⟨_, rfl, S, _, _, 0, rfl, rfl, h1, rfl, ?_⟩
      have h1' : (upd H S (.lst [.int (pos + 1), .ref C])) S = some (.lst [.int (pos + 1), .ref C]) := upd_same
      refine ⟨_, rfl, _, _, rfl, rfl, .inr ⟨by decide, by decide⟩, ?_⟩
      refine ⟨_, rfl, S, _, 0, .int (pos + 1), rfl, rfl, SqL.of h1', atI_nat (j := 0) rfl, _, _, rfl, rfl, .inr ⟨by decide, by decide⟩, _, _, rfl, rfl, ?_⟩
      refine Or.inl ⟨_, rfl, _, _, rfl, rfl, (by show (0 : Int) < 2147483647; decide), ?_⟩
      refine ⟨_, rfl, _, _, rfl, rfl, .inr ⟨by decide, by decide⟩, ?_⟩
      refine ⟨_, rfl, S, _, 0, .int (pos + 1), rfl, rfl, SqL.of h1', atI_nat (j := 0) rfl, _, _, rfl, rfl, .inr ⟨by decide, by decide⟩, _, _, rfl, rfl, ?_⟩
      refine Or.inl ⟨_, rfl, _, _, rfl, rfl, (by show (0 : Int) < 1000000007; decide), ?_⟩
      refine ⟨_, rfl, _, _, rfl, rfl, ⟨by decide, by decide⟩, ?_⟩
      refine ⟨_, rfl, _, _, rfl, rfl, hm0, ?_⟩
      refine k _ c _ (Int.emod_nonneg _ (by omega)) (Int.emod_lt_of_pos _ hm0) ⟨C, pos + 1, cells, c1, c2, ne, h1', by rw [upd_ne ne.symm]; exact h2, h3, h4, by omega⟩ ?_
      exact Stp.own h1 c1 (fun xs z => by cases z)
end
end Lw
namespace Lw
open PySem L2
/-- a comprehension whose items are drawn -/
theorem lc_draw {α : Type} {J : It} {xs : List V} {vs : List Nat} {σ : L2.St} {te : TE} {j : Nat} {Q : VK} {c : Addr → Nat} {H : Hp} {S : Addr} (w : Walk J xs.length (fun _ => True) (YAt xs)) (hz : xs.length ≤ 100000) (F : α → V) (G : α → Prop) (hS : StateAt c H S)
    (hw : ∀ x, wipe ((wipe σ vs).set j (some x)) vs = wipe σ vs)
    (he : ∀ x c1 H1 (R : VK), StateAt c1 H1 S → Stp (fun i => i = 0) c c1 H H1 → (∀ a c2 H2, G a → StateAt c2 H2 S → Stp (fun i => i = 0) c1 c2 H1 H2 → R (F a) H2) → te ((wipe σ vs).set j (some x)) H1 R)
    (k : ∀ q (l : List α) c' H', H q = none → l.length = xs.length → (∀ a ∈ l, G a) → StateAt c' H' S → Stp (fun i => i = 0) c c' H H' → H' q = some (.lst (l.map F)) → c' q = 9 → Q (.ref q) H') : kLc (gName j) tYes te vs σ Q J H := by
  intro D hD
  refine lc_it w (fun i H2 => ∃ (l : List α) (c2 : Addr → Nat), l.length = i ∧ (∀ a ∈ l, G a) ∧ StateAt c2 H2 S ∧ Stp (fun i => i = 0) c c2 H H2 ∧ c2 D = 9 ∧ H2 D = some (.lst (l.map F)))
    ⟨[], Stp.paint c D 9, rfl, by simp, hS.frame (I := fun _ => False) (Stp.newc hD) (by decide), Stp.newc hD, Stp.paint_same, upd_same⟩ (fun _ _ _ _ => trivial) (fun i x H2 H2' hi h y => ?_) (fun H2 h => ?_)
  · obtain ⟨e, hx⟩ := y
    subst e
    obtain ⟨l, c2, h1, h2, S2, st2, cD, hl⟩ := h
    refine ⟨hw x, ?_⟩
    show te _ H2' _
    refine he x c2 H2' _ S2 st2 fun a c3 H3 ga S3 st3 => ?_
    have hD3 := st3.keep _ _ hl (by rw [cD]; decide)
    refine ⟨_, hD3, ?_, l ++ [a], c3, by rw [List.length_append, h1]; rfl, fun b hb => ?_, S3.frame (I := fun i => i = 9) (Stp.own hD3 (by rw [st3.col _ _ hl, cD]) (fun xs z => by cases z)) (by decide), ?_, by rw [st3.col _ _ hl, cD], by rw [upd_same, List.map_append]; rfl⟩
    · rw [List.length_map, h1]
      exact Nat.lt_of_lt_of_le (show i < 200000 by omega) (by decide)
    · rcases List.mem_append.mp hb with z | z
      · exact h2 b z
      · rw [List.mem_singleton.mp z]; exact ga
    · have st4 := st2.trans st3
      exact ⟨fun b o e n => by rw [upd_ne (ne_of_none e hD)]; exact st4.keep b o e n, st4.col, fun b xs e => by rw [upd_ne (ne_of_none e hD)]; exact st4.tup b xs e, fun b e => by
        by_cases z : b = D
        · subst z; rw [upd_same] at e; cases e
        · rw [upd_ne z] at e; exact st4.fre b e⟩
  · obtain ⟨l, c2, h1, h2, S2, st2, cD, hl⟩ := h
    exact k D l c2 H2 hD h1 h2 S2 st2 hl cD
end Lw

/-! ## a drawn text -/
namespace Lw
open PySem L2
open PyProof.Rows (envOfC)
def signs8 : List Nat := [97, 98, 99, 88, 89, 32, 48, 49]
theorem signs8_eq : ("abcXY 01" : Str) = SX.S signs8 := by decide +kernel
def spText : Sp := fun vs H Q _ => ∃ (c : Addr → Nat) (S : Addr) (m : Int), vs = [.ref S, .int m] ∧ StateAt c H S ∧ 0 ≤ m ∧ m ≤ 1000 ∧
  ∀ (l : List Nat) c' H', (l.length : Int) ≤ m → (∀ x ∈ l, x ∈ signs8) → StateAt c' H' S → Stp (fun i => i = 0) c c' H H' → Q (.str (SX.S l)) H'
section
variable {P : Program} {w : World} {K : PySem.W.Frag} {mg : Str → Option Value} {base : Heap} {C_Store C_Refused C_Malformed a_KINDS a_BELOW : Addr}
theorem ok__law_text (T : Txt w K mg C_Store C_Refused C_Malformed a_KINDS a_BELOW) : Cal P w K mg base 2 "_law_text" spText := by
  have c__law_take : Cal P w K mg base 1 "_law_take" spTake := ok__law_take T
  refine cal_mk T.d__law_text sc__law_text (fun vs H Q E h => ?_) (fun f cdv A outer s H vs Q E hr h => ?_)
  · obtain ⟨c, S, m, rfl, _⟩ := h
    rfl
  · obtain ⟨c, S, m, rfl, hS, hm0, hm1, k⟩ := h
    refine ⟨_, (pss_one (ps_ret (pe_join (pe_str) (pe_lc (own := [("_law_k", 2)]) (g := (gName 2)) (by rfl) sc__law_text.nd (pi_range1 (by rfl) T.n_range (pa_cons (pe_c c__law_take hr (by first | decide | omega) rfl (pa_cons (pv 0) (pa_cons (pe_op op_add (pv 1) (pe_int)) pa_nil))) pa_nil)) (blkOk_by (own := [("_law_k", 2)]) (N := n__law_text) (sc := defScope s__law_text) (by decide +kernel)) (fun _ _ _ _ _ => (pg_name (i := 2) sc__law_text.nd rfl (by first | exact Or.inl rfl | exact Or.inr rfl))) (fun _ _ _ _ _ => pts_nil) (fun _ _ _ _ _ => (pe_ix ix_str (pe_str) (pe_c c__law_take hr (by first | decide | omega) rfl (pa_cons (pv 0) (pa_cons (pe_int) pa_nil))) (fun _ _ => rfl))))))), ?_⟩
    refine ⟨⟨_, rfl⟩, ?_⟩
    refine ⟨_, rfl, _, rfl, _, _, rfl, rfl, ?_⟩
    refine ⟨c, S, m + 1, rfl, hS, by omega, by omega, fun r c1 H1 r0 r1 S1 st1 => ?_⟩
    refine ⟨r, rfl, by omega, by omega, fun D hD => ?_⟩
    refine lc_range (lo := 0) (n := r.toNat) (fun i H2 => ∃ (l : List Nat) (c2 : Addr → Nat), l.length = i ∧ (∀ x ∈ l, x ∈ signs8) ∧ StateAt c2 H2 S ∧ Stp (fun i => i = 0) c1 c2 H1 H2 ∧ c2 D = 9 ∧ H2 D = some (.lst ((l.map fun c => SX.S [c]).map V.str)))
      ⟨[], Stp.paint c1 D 9, rfl, by simp, S1.frame (I := fun _ => False) (Stp.newc hD) (by decide), Stp.newc hD, Stp.paint_same, upd_same⟩ (fun i H2 hi h => ?_) (fun H2 h => ?_)
    · obtain ⟨l, c2, h1, h2, S2, st2, cD, hl⟩ := h
      refine ⟨rfl, _, rfl, ?_⟩
      refine ⟨c2, S, 8, rfl, S2, by decide, by decide, fun q c3 H3 q0 q1 S3 st3 => ?_⟩
      have hD3 := st3.keep _ _ hl (by rw [cD]; decide)
      obtain ⟨ch, hch, hat⟩ := at_in (xs := signs8) (i := q) q0 q1
      refine ⟨"abcXY 01", q, ch, rfl, rfl, by decide +kernel, by rw [signs8_eq]; exact hat, ?_⟩
      refine ⟨_, hD3, ?_, l ++ [ch], c3, by rw [List.length_append, h1]; rfl, fun x hx => ?_, S3.frame (I := fun i => i = 9) (Stp.own hD3 (by rw [st3.col _ _ hl, cD]) (fun xs z => by cases z)) (by decide), ?_, by rw [st3.col _ _ hl, cD], ?_⟩
      · rw [List.length_map, List.length_map, h1]
        exact small1000 (by omega)
      · rcases List.mem_append.mp hx with z | z
        · exact h2 x z
        · rw [List.mem_singleton.mp z]
          exact List.mem_of_getElem? hch
      · have st4 : Stp (fun i => i = 0) c1 c3 H1 H3 := st2.trans st3
        have hDn : H1 D = none := hD
        exact ⟨fun b o e n => by rw [upd_ne (ne_of_none e hDn)]; exact st4.keep b o e n, st4.col, fun b xs e => by rw [upd_ne (ne_of_none e hDn)]; exact st4.tup b xs e, fun b e => by
          by_cases z : b = D
          · subst z; rw [upd_same] at e; cases e
          · rw [upd_ne z] at e; exact st4.fre b e⟩
      · rw [upd_same, List.map_append, List.map_append]
        rfl
    · obtain ⟨l, c2, h1, h2, S2, st2, cD, hl⟩ := h
      refine ⟨"", D, _, rfl, rfl, Or.inl (SqL.of hl), ?_, ?_⟩
      · rw [sum_ones, List.length_map, h1]
        show r.toNat + r.toNat * 0 ≤ 16777216
        omega
      · rw [join_empty]
        exact k l c2 H2 (by omega) h2 S2 (st1.trans st2)
end
end Lw

/-! ## addresses, as the program reckons them -/
namespace Lw
open PySem L2
open PyProof.Rows (envOfC)
def P61 : Nat := 2305843009213693951
def hN (s : Nat) (t : List Nat) : Nat := t.foldl (fun v c => (v * 257 + c + 1) % P61) s
theorem hN_snoc (s : Nat) (t : List Nat) (c : Nat) : hN s (t ++ [c]) = (hN s t * 257 + c + 1) % P61 := by
  unfold hN
  rw [List.foldl_append]
  rfl
theorem hN_lt {s : Nat} (h : s < P61) : ∀ t : List Nat, hN s t < P61 := by
  intro t
  unfold hN
  induction t generalizing s with
  | nil => exact h
  | cons c t ih => exact ih (Nat.mod_lt _ (by decide))
/-- the number of a kind, from 1 -/
def kn (k : Str) : Nat := if k = "layer" then 1 else if k = "image" then 2 else 3
theorem kn_lt (k : Str) : kn k < 4 := by
  unfold kn
  split
  · decide
  · split <;> decide
def adrN (k : Str) (t : List Nat) : Nat := hN (kn k) t
theorem adrN_lt (k : Str) (t : List Nat) : adrN k t < P61 := hN_lt (Nat.lt_trans (kn_lt k) (by decide)) t
/-- the address of a text of a kind -/
def adr (k : Str) (t : List Nat) : Str := hexT (adrN k t)
def hexS : List Nat := [48, 49, 50, 51, 52, 53, 54, 55, 56, 57, 97, 98, 99, 100, 101, 102]
theorem hexS_eq : ("0123456789abcdef" : Str) = SX.S hexS := by decide +kernel
/-- sixteen hexadecimal signs -/
def isAdr (l : List Nat) : Bool := l.length == 16 && l.all fun c => decide (c ∈ hexS)
/-- the signs of an address -/
def adrL (k : Str) (t : List Nat) : List Nat := List.replicate (16 - ((Nat.toDigits 16 (adrN k t)).map Char.toNat).length) 48 ++ (Nat.toDigits 16 (adrN k t)).map Char.toNat
theorem adr_S (k : Str) (t : List Nat) : adr k t = SX.S (adrL k t) := rfl
theorem adrL_len (k : Str) (t : List Nat) : (adrL k t).length = 16 := by
  have h := adrN_lt k t
  have h2 : (Nat.toDigits 16 (adrN k t)).length ≤ 16 := (Nat.length_toDigits_le_iff (b := 16) (n := adrN k t) (k := 16) (by decide) (by decide)).mpr (Nat.lt_trans h (by decide))
  unfold adrL
  rw [List.length_append, List.length_replicate, List.length_map]
  omega
theorem digit_hex {c : Nat} (h : c < 16) : (Nat.digitChar c).toNat ∈ hexS := by
  have : ∀ c : Nat, c < 16 → (Nat.digitChar c).toNat ∈ hexS := by decide
  exact this c h
theorem digs_hex : ∀ (n : Nat), ∀ c ∈ Nat.toDigits 16 n, c.toNat ∈ hexS := by
  intro n
  induction n using Nat.strongRecOn with
  | _ n ih =>
    intro c hc
    by_cases h : n < 16
    · rw [Nat.toDigits_of_lt_base h] at hc
      rw [List.mem_singleton.mp hc]
      exact digit_hex h
    · rw [Nat.toDigits_of_base_le (by decide) (by omega)] at hc
      rcases List.mem_append.mp hc with z | z
      · exact ih (n / 16) (by omega) c z
      · rw [List.mem_singleton.mp z]
        exact digit_hex (Nat.mod_lt _ (by decide))
theorem adrL_hex (k : Str) (t : List Nat) : ∀ c ∈ adrL k t, c ∈ hexS := by
  intro c hc
  unfold adrL at hc
  rcases List.mem_append.mp hc with z | z
  · rw [List.eq_of_mem_replicate z]
    decide
  · obtain ⟨d, h1, rfl⟩ := List.mem_map.mp z
    exact digs_hex _ d h1
theorem adr_is (k : Str) (t : List Nat) : isAdr (adrL k t) = true := by
  unfold isAdr
  rw [adrL_len, Bool.and_eq_true]
  exact ⟨rfl, List.all_eq_true.mpr fun c hc => decide_eq_true (adrL_hex k t c hc)⟩
def spAddr : Sp := fun vs H Q _ => ∃ (k : Str) (t : List Nat), vs = [.str k, .str (SX.S t)] ∧ k ∈ kinds3 ∧ Q (.str (adr k t)) H
def spIsAdr : Sp := fun vs H Q _ => ∃ (l : List Nat), vs = [.str (SX.S l)] ∧ l.length ≤ 100000 ∧ Q (.bl (isAdr l)) H
theorem kinds_at : ∀ k ∈ kinds3, kinds3[kn k - 1]? = some k ∧ 0 < kn k ∧ ∀ m, m < kn k - 1 → kinds3[m]? ≠ some k := by
  intro k hk
  simp only [kinds3, List.mem_cons, List.not_mem_nil, or_false] at hk
  have e2 : kn "image" = 2 := by decide +kernel
  have e3 : kn "bundle" = 3 := by decide +kernel
  rcases hk with rfl | rfl | rfl
  · refine ⟨by decide +kernel, by decide +kernel, fun m hm => ?_⟩
    exact absurd hm (by rw [show kn "layer" = 1 by decide +kernel]; omega)
  · rw [e2]
    refine ⟨rfl, by decide, fun m hm => ?_⟩
    have : m = 0 := by omega
    subst this
    decide +kernel
  · rw [e3]
    refine ⟨rfl, by decide, fun m hm => ?_⟩
    have : m = 0 ∨ m = 1 := by omega
    rcases this with rfl | rfl <;> decide +kernel
section
variable {P : Program} {w : World} {K : PySem.W.Frag} {mg : Str → Option Value} {base : Heap} {C_Store C_Refused C_Malformed a_KINDS a_BELOW : Addr}
theorem ok_address_of (T : Txt w K mg C_Store C_Refused C_Malformed a_KINDS a_BELOW) : Cal P w K mg base 1 "address_of" spAddr := by
  refine cal_mk T.d_address_of sc_address_of (fun vs H Q E h => ?_) (fun f cdv A outer s H vs Q E hr h => ?_)
  · obtain ⟨k, t, rfl, _⟩ := h
    rfl
  · obtain ⟨k, t, rfl, hk, q⟩ := h
    obtain ⟨o, its, n, k1, k2, k3, k4, k5, k6⟩ := T.at_KINDS
    obtain ⟨a1, a2, a3⟩ := kinds_at k hk
    refine ⟨_, (pss_cons (ps_set (i := 2) sc_address_of.nd rfl (by first | exact Or.inl rfl | exact Or.inr rfl) (pe_op op_add (pe_bm PySem.F.plainAttrs_tuple PySem.F.slot_tuple_index PySem.F.type_tuple_index mt_tup_index (pe_gc rfl T.g_KINDS) (pa_cons (pv 0) pa_nil)) (pe_int)))
      (pss_cons (ps_for PassesOwn.never rfl (pi_str (pv 1)) (pg_name (i := 3) sc_address_of.nd rfl (by first | exact Or.inl rfl | exact Or.inr rfl)) (pss_one (ps_set (i := 2) sc_address_of.nd rfl (by first | exact Or.inl rfl | exact Or.inr rfl) (pe_op op_mod (pe_op op_add (pe_op op_add (pe_op op_mul (pv 2) (pe_int)) (pe_callB call_ord' (by rfl) T.n_ord (by decide +kernel) (pa_cons (pv 3) pa_nil))) (pe_int)) (pe_gc rfl T.g_PRIME)))))
      (pss_one (ps_ret (pe_joined1 (pe_hex (pv 2) (pe_joined1 pe_str))))))), ?_⟩
    walk_at "lw"
    refine ⟨Or.inr (Or.inl ⟨rfl, o, k1, k2, k3⟩), ?_⟩
    walk_at "lw"
    refine ⟨a_KINDS, kinds3, k, kn k - 1, rfl, rfl, .inr ⟨o, its, n, k1, k2, k4, k5, k6⟩, a1, a3, ?_⟩
    walk_at "lw"
    rw [show ((kn k - 1 : Nat) : Int) + 1 = (kn k : Int) by omega]
    refine for_at walk_sgs (fun i σ H' => H' = H ∧ ∃ v : Option V, σ = [some (.str k), some (.str (SX.S t)), some (.int (hN (kn k) (t.take i) : Nat)), v]) ⟨rfl, none, rfl⟩ (fun _ _ _ _ => trivial) ?_ ?_
    · rintro i x σ H' hx ⟨rfl, v, rfl⟩
      obtain ⟨c, hc, rfl⟩ : ∃ c, t[i]? = some c ∧ V.str (SX.S [c]) = x := by
        unfold sgs at hx
        rw [List.getElem?_map] at hx
        cases e : t[i]? with
        | none => rw [e] at hx; cases hx
        | some c => rw [e] at hx; exact ⟨c, rfl, Option.some.inj hx⟩
      walk_at "lw"
      refine ⟨rfl, some (.str (SX.S [c])), ?_⟩
      rw [take_ok hc, hN_snoc]
      have e : ((hN (kn k) (t.take i) : Nat) : Int) * 257 + (c : Int) + 1 = ((hN (kn k) (t.take i) * 257 + c + 1 : Nat) : Int) := by omega
      have e2 : (((hN (kn k) (t.take i) * 257 + c + 1 : Nat) : Int)) % 2305843009213693951 = (((hN (kn k) (t.take i) * 257 + c + 1) % P61 : Nat) : Int) := by
        unfold P61; omega
      rw [e, e2]
      rfl
    · rintro σ H' ⟨rfl, v, rfl⟩
      rw [show (sgs t).length = t.length by unfold sgs; rw [List.length_map], List.take_length]
      walk_at "lw"
      refine g_hex ?_
      walk_at "lw"
      refine ⟨hN (kn k) t, rfl, Nat.lt_trans (adrN_lt k t) (by decide), ?_⟩
      walk_at "lw"
      exact q
end
end Lw

namespace Lw
open PySem L2
open PyProof.Rows (envOfC)
section
variable {P : Program} {w : World} {K : PySem.W.Frag} {mg : Str → Option Value} {base : Heap} {C_Store C_Refused C_Malformed a_KINDS a_BELOW : Addr}
theorem ok_is_address (T : Txt w K mg C_Store C_Refused C_Malformed a_KINDS a_BELOW) : Cal P w K mg base 1 "is_address" spIsAdr := by
  refine cal_mk T.d_is_address sc_is_address (fun vs H Q E h => ?_) (fun f cdv A outer s H vs Q E hr h => ?_)
  · obtain ⟨l, rfl, _⟩ := h
    rfl
  · obtain ⟨l, rfl, hl, q⟩ := h
    refine ⟨_, (pss_cons (ps_if (pt_cmpR op_ne (pe_callB call_len_str' (by rfl) T.n_len (by decide +kernel) (pa_cons (pv 0) pa_nil)) (pe_int) (nomark _)) (pss_one (ps_ret (pe_bl))) pss_nil)
      (pss_cons (ps_for PassesOwn.never rfl (pi_str (pv 0)) (pg_name (i := 1) sc_is_address.nd rfl (by first | exact Or.inl rfl | exact Or.inr rfl)) (pss_one (ps_if (pt_cmpR op_notInSg (pv 1) (pe_gc rfl T.g_DIGITS) (by rfl)) (pss_one (ps_ret (pe_bl))) pss_nil)))
      (pss_one (ps_ret (pe_bl))))), ?_⟩
    walk_at "lw"
    refine g_lenT (by rw [SX.S_len]; exact Nat.le_trans hl (by decide)) ?_
    rw [SX.S_len]
    walk_at "lw"
    refine ifn2 (fun h16 => ?_) (fun h16 => ?_)
    · have h16 : l.length = 16 := by have := int_eq.mp h16; omega
      walk_at "lw"
      refine for_at walk_sgs (fun i σ H' => H' = H ∧ (∀ c ∈ l.take i, c ∈ hexS) ∧ ∃ v : Option V, σ = [some (.str (SX.S l)), v]) ⟨rfl, by simp, none, rfl⟩ (fun _ _ _ _ => trivial) ?_ ?_
      · rintro i x σ H' hx ⟨rfl, hi, v, rfl⟩
        obtain ⟨c, hc, rfl⟩ : ∃ c, l[i]? = some c ∧ V.str (SX.S [c]) = x := by
          unfold sgs at hx
          rw [List.getElem?_map] at hx
          cases e : l[i]? with
          | none => rw [e] at hx; cases hx
          | some c => rw [e] at hx; exact ⟨c, rfl, Option.some.inj hx⟩
        walk_at "lw"
        refine ifn2 (fun hm => ?_) (fun hm => ?_)
        · walk_at "lw"
          refine ⟨rfl, fun d hd => ?_, _, rfl⟩
          rw [take_ok hc] at hd
          rcases List.mem_append.mp hd with z | z
          · exact hi d z
          · rw [List.mem_singleton.mp z]
            rw [hexS_eq] at hm
            simpa using hm
        · walk_at "lw"
          have e : isAdr l = false := by
            unfold isAdr
            rw [Bool.and_eq_false_iff]
            right
            rw [List.all_eq_false]
            refine ⟨c, List.mem_of_getElem? hc, ?_⟩
            rw [hexS_eq] at hm
            simpa using hm
          rw [e] at q
          exact q
      · rintro σ H' ⟨rfl, hi, v, rfl⟩
        rw [show (sgs l).length = l.length by unfold sgs; rw [List.length_map], List.take_length] at hi
        walk_at "lw"
        have e : isAdr l = true := by
          unfold isAdr
          rw [Bool.and_eq_true]
          exact ⟨by rw [h16]; rfl, List.all_eq_true.mpr fun c hc => decide_eq_true (hi c hc)⟩
        rw [e] at q
        exact q
    · walk_at "lw"
      have e : isAdr l = false := by
        unfold isAdr
        rw [Bool.and_eq_false_iff]
        left
        exact beq_false_of_ne fun z => h16 (by rw [z]; rfl)
      rw [e] at q
      exact q
end
end Lw

/-! ## texts of images and bundles -/
namespace Lw
open PySem L2
open PyProof.Rows (envOfC)
def imgH : List Nat := [105, 109, 97, 103, 101, 10]
def bunH : List Nat := [98, 117, 110, 100, 108, 101, 10]
theorem imgH_eq : ("image\n" : Str) = SX.S imgH := by decide +kernel
theorem bunH_eq : ("bundle\n" : Str) = SX.S bunH := by decide +kernel
theorem nl_eq : ("\n" : Str) = SX.S [10] := by decide +kernel
theorem sp_eq : (" " : Str) = SX.S [32] := by decide +kernel
def imgL (as : List (List Nat)) : List Nat := imgH ++ (as.map fun a => a ++ [10]).flatten
def bunL (es : List (List Nat × List Nat)) : List Nat := bunH ++ (es.map fun e => e.1 ++ [32] ++ e.2 ++ [10]).flatten
def strS (l : List Nat) : V := .str (SX.S l)
def spImg : Sp := fun vs H Q _ => ∃ (p : Addr) (as : List (List Nat)), vs = [.ref p] ∧ H p = some (.lst (as.map strS)) ∧ as.length ≤ 100 ∧ (∀ a ∈ as, a.length ≤ 1000) ∧ ∀ H', Same H H' → Q (.str (SX.S (imgL as))) H'
def spBun : Sp := fun vs H Q _ => ∃ (p : Addr) (es : List (Addr × List Nat × List Nat)), vs = [.ref p] ∧ H p = some (.lst (es.map fun e => V.ref e.1)) ∧ (∀ e ∈ es, H e.1 = some (.tup [strS e.2.1, strS e.2.2])) ∧ es.length ≤ 100 ∧ (∀ e ∈ es, e.2.1.length + e.2.2.length ≤ 1000) ∧
  ∀ H', Same H H' → Q (.str (SX.S (bunL (es.map (·.2))))) H'
theorem flat_le {l : List (List Nat)} {m : Nat} (h : ∀ a ∈ l, a.length ≤ m) : l.flatten.length ≤ l.length * m := by
  induction l with
  | nil => simp
  | cons a r ih =>
    rw [List.flatten_cons, List.length_append, List.length_cons]
    have := ih fun b hb => h b (List.mem_cons_of_mem _ hb)
    have := h a List.mem_cons_self
    rw [Nat.succ_mul]
    omega
section
variable {P : Program} {w : World} {K : PySem.W.Frag} {mg : Str → Option Value} {base : Heap} {C_Store C_Refused C_Malformed a_KINDS a_BELOW : Addr}
theorem ok_image_text (T : Txt w K mg C_Store C_Refused C_Malformed a_KINDS a_BELOW) : Cal P w K mg base 1 "image_text" spImg := by
  refine cal_mk T.d_image_text sc_image_text (fun vs H Q E h => ?_) (fun f cdv A outer s H vs Q E hr h => ?_)
  · obtain ⟨p, as, rfl, _⟩ := h
    rfl
  · obtain ⟨p, as, rfl, hp, hz, hl, k⟩ := h
    refine ⟨_, (pss_one (ps_ret (pe_op op_cat_str (pe_str) (pe_join (pe_str) (pe_lc (own := [("address", 1)]) (g := (gName 1)) (by rfl) sc_image_text.nd (pi_list (pv 0)) (blkOk_by (own := [("address", 1)]) (N := n_image_text) (sc := defScope s_image_text) (by decide +kernel)) (fun _ _ _ _ _ => (pg_name (i := 1) sc_image_text.nd rfl (by first | exact Or.inl rfl | exact Or.inr rfl))) (fun _ _ _ _ _ => pts_nil) (fun _ _ _ _ _ => (pe_op op_cat_str (pv 1) (pe_str)))))))), ?_⟩
    walk_at "lw"
    refine g_ritL (SqL.of hp) ?_
    refine lc_map (G := fun H' => SqL K H' p (as.map strS)) walk_list (fun H' s => SqL.of (s _ _ hp)) (by rw [List.length_map]; omega) (fun _ => true) (fun v => match v with | .str x => .str (x ++ SX.S [10]) | _ => v) ?_ ?_
    · intro x hx H' R s1 kk
      obtain ⟨a, ha, rfl⟩ := List.mem_map.mp hx
      walk_at "lw"
      refine kk _ rfl (fun H'' R s2 r => ?_) (fun hp' H'' R s2 r => ?_)
      · walk_at "lw"
        exact r
      · walk_at "lw"
        refine g_cat_str (a := SX.S a) (b := "\n") (by rw [nl_eq, SX.S_len, SX.S_len]; exact Nat.le_trans (Nat.add_le_add (hl a ha) (Nat.le_refl 1)) (by decide)) ?_
        rw [nl_eq]
        exact r _ (Same.refl _)
    · intro q H' nq s1 hq
      rw [List.filter_eq_self.mpr (fun _ _ => rfl), List.map_map] at hq
      have e : (as.map ((fun v => match v with | V.str x => V.str (x ++ SX.S [10]) | _ => v) ∘ strS)) = ((as.map fun a => a ++ [10]).map SX.S).map V.str := by
        rw [List.map_map, List.map_map]
        refine List.map_congr_left fun a _ => ?_
        show V.str (SX.S a ++ SX.S [10]) = V.str (SX.S (a ++ [10]))
        rw [SX.S_cat]
      rw [e] at hq
      have hf : (as.map fun a => a ++ [10]).flatten.length ≤ 100 * 1001 := by
        refine Nat.le_trans (flat_le (m := 1001) fun b hb => ?_) ?_
        · obtain ⟨a, ha, rfl⟩ := List.mem_map.mp hb
          rw [List.length_append]
          have := hl a ha
          show _ + 1 ≤ _
          omega
        · rw [List.length_map]
          exact Nat.mul_le_mul_right _ hz
      refine ⟨"", q, _, rfl, rfl, Or.inl (SqL.of hq), ?_, ?_⟩
      · rw [sum_flat]
        show _ + _ * 0 ≤ 16777216
        omega
      · rw [join_flat]
        refine g_cat_str (a := "image\n") (b := SX.S _) (by rw [imgH_eq, SX.S_len, SX.S_len]; exact Nat.le_trans (Nat.add_le_add (Nat.le_refl 6) hf) (by decide)) ?_
        rw [imgH_eq, SX.S_cat]
        walk_at "lw"
        exact k H' s1
theorem ok_bundle_text (T : Txt w K mg C_Store C_Refused C_Malformed a_KINDS a_BELOW) : Cal P w K mg base 1 "bundle_text" spBun := by
  refine cal_mk T.d_bundle_text sc_bundle_text (fun vs H Q E h => ?_) (fun f cdv A outer s H vs Q E hr h => ?_)
  · obtain ⟨p, es, rfl, _⟩ := h
    rfl
  · obtain ⟨p, es, rfl, hp, ht, hz, hl, k⟩ := h
    refine ⟨_, (pss_one (ps_ret (pe_op op_cat_str (pe_str) (pe_join (pe_str) (pe_lc (own := [("platform", 1), ("address", 2)]) (g := (gTup K 2 (gCons (gName 1) (gCons (gName 2) gNil)))) (by rfl) sc_bundle_text.nd (pi_list (pv 0)) (blkOk_by (own := [("platform", 1), ("address", 2)]) (N := n_bundle_text) (sc := defScope s_bundle_text) (by decide +kernel)) (fun _ _ _ _ _ => (pg_tup (by rfl) (pgs_cons (pg_name (i := 1) sc_bundle_text.nd rfl (by first | exact Or.inl rfl | exact Or.inr rfl)) (pgs_cons (pg_name (i := 2) sc_bundle_text.nd rfl (by first | exact Or.inl rfl | exact Or.inr rfl)) pgs_nil)))) (fun _ _ _ _ _ => pts_nil) (fun _ _ _ _ _ => (pe_op op_cat_str (pe_op op_cat_str (pe_op op_cat_str (pv 1) (pe_str)) (pv 2)) (pe_str)))))))), ?_⟩
    walk_at "lw"
    refine g_ritL (SqL.of hp) ?_
    refine lc_map (G := fun H' => SqL K H' p (es.map fun e => V.ref e.1)) walk_list (fun H' s => SqL.of (s _ _ hp)) (by rw [List.length_map]; omega) (fun _ => true)
      (fun v => match v with | .ref a => (match H a with | some (.tup [.str x, .str y]) => .str (x ++ SX.S [32] ++ y ++ SX.S [10]) | _ => .non) | _ => .non) ?_ ?_
    · intro x hx H' R s1 kk
      obtain ⟨e, he, rfl⟩ := List.mem_map.mp hx
      have h1 := ht e he
      refine g_gtup (SqT.of (s1 _ _ h1)) rfl ?_
      walk_at "lw"
      refine kk _ rfl (fun H'' R s2 r => ?_) (fun hp' H'' R s2 r => ?_)
      · walk_at "lw"
        exact r
      · have hl1 := hl e he
        walk_at "lw"
        refine g_cat_str (a := SX.S e.2.1) (b := " ") (by rw [sp_eq, SX.S_len, SX.S_len]; exact Nat.le_trans (show e.2.1.length + 1 ≤ 1001 by omega) (by decide)) ?_
        rw [sp_eq, SX.S_cat]
        walk_at "lw"
        refine g_cat_str (a := SX.S (e.2.1 ++ [32])) (b := SX.S e.2.2) (by rw [SX.S_len, SX.S_len, List.length_append]; exact Nat.le_trans (show e.2.1.length + 1 + e.2.2.length ≤ 1001 by omega) (by decide)) ?_
        rw [SX.S_cat]
        walk_at "lw"
        refine g_cat_str (a := SX.S (e.2.1 ++ [32] ++ e.2.2)) (b := "\n") (by rw [nl_eq, SX.S_len, SX.S_len, List.length_append, List.length_append]; exact Nat.le_trans (show e.2.1.length + 1 + e.2.2.length + 1 ≤ 1002 by omega) (by decide)) ?_
        rw [nl_eq, SX.S_cat]
        have r := r H'' (Same.refl _)
        simp only [h1, strS, SX.S_cat] at r
        exact r
    · intro q H' nq s1 hq
      rw [List.filter_eq_self.mpr (fun _ _ => rfl), List.map_map] at hq
      have e : (es.map ((fun v => match v with | .ref a => (match H a with | some (.tup [.str x, .str y]) => .str (x ++ SX.S [32] ++ y ++ SX.S [10]) | _ => .non) | _ => .non) ∘ fun e => V.ref e.1)) = ((es.map fun e => e.2.1 ++ [32] ++ e.2.2 ++ [10]).map SX.S).map V.str := by
        rw [List.map_map, List.map_map]
        refine List.map_congr_left fun e he => ?_
        simp only [Function.comp, ht e he, strS, SX.S_cat]
      rw [e] at hq
      have hf : (es.map fun e => e.2.1 ++ [32] ++ e.2.2 ++ [10]).flatten.length ≤ 100 * 1002 := by
        refine Nat.le_trans (flat_le (m := 1002) fun b hb => ?_) ?_
        · obtain ⟨e, he, rfl⟩ := List.mem_map.mp hb
          simp only [List.length_append]
          have := hl e he
          show _ + 1 + _ + 1 ≤ _
          omega
        · rw [List.length_map]
          exact Nat.mul_le_mul_right _ hz
      refine ⟨"", q, _, rfl, rfl, Or.inl (SqL.of hq), ?_, ?_⟩
      · rw [sum_flat]
        show _ + _ * 0 ≤ 16777216
        omega
      · rw [join_flat]
        refine g_cat_str (a := "bundle\n") (b := SX.S _) (by rw [bunH_eq, SX.S_len, SX.S_len]; exact Nat.le_trans (Nat.add_le_add (Nat.le_refl 7) hf) (by decide)) ?_
        rw [bunH_eq, SX.S_cat]
        walk_at "lw"
        have k := k H' s1
        unfold bunL at k
        rw [List.map_map] at k
        exact k
end
end Lw

/-! ## texts of images and bundles are read -/
namespace Lw
open PySem L2
open PyProof.Rows (envOfC)
theorem atI_map {α β : Type} {f : α → β} {l : List α} {i : Int} {x : α} (h : atI l i = some x) : atI (l.map f) i = some (f x) := by
  unfold atI at h ⊢
  rw [List.length_map]
  cases e : ixN l.length i with
  | none => rw [e] at h; cases h
  | some j =>
    rw [e] at h
    have h : l[j]? = some x := h
    show (l.map f)[j]? = some (f x)
    rw [List.getElem?_map, h]
    rfl
def lnL (t : List Nat) : List (List Nat) := TL.spl [10] 0 [] t
def wdL (t : List Nat) : List (List Nat) := TL.spl [32] 0 [] t
def lowS : List Nat := [97, 98, 99, 100, 101, 102, 103, 104, 105, 106, 107, 108, 109, 110, 111, 112, 113, 114, 115, 116, 117, 118, 119, 120, 121, 122]
theorem lowS_eq : ("abcdefghijklmnopqrstuvwxyz" : Str) = SX.S lowS := by decide +kernel
def isPlat (l : List Nat) : Bool := decide (1 ≤ l.length) && decide (l.length ≤ 10) && l.all fun c => decide (c ∈ lowS)
def imgW : List Nat := [105, 109, 97, 103, 101]
def bunW : List Nat := [98, 117, 110, 100, 108, 101]
theorem imgW_eq : ("image" : Str) = SX.S imgW := by decide +kernel
theorem bunW_eq : ("bundle" : Str) = SX.S bunW := by decide +kernel
/-- the lines between the first and the last -/
def mid (ls : List (List Nat)) : List (List Nat) := (ls.drop 1).dropLast
def w0 (l : List Nat) : List Nat := (wdL l).getD 0 []
def w1 (l : List Nat) : List Nat := (wdL l).getD 1 []
def okLine (b : Bool) (seen : List (List Nat)) (l : List Nat) : Bool := if b = true then decide ((wdL l).length = 2) && (isPlat (w0 l) && (isAdr (w1 l) && !decide (w0 l ∈ seen))) else isAdr l
/-- the number of the first line that has not its form -/
def scan (b : Bool) : List (List Nat) → Nat → List (List Nat) → Option Nat
  | _, _, [] => none
  | seen, i, l :: r => if okLine b seen l = true then scan b (seen ++ [w0 l]) (i + 1) r else some i
def fault3 (h t : List Nat) : Option Nat :=
  if (lnL t).getD 0 [] ≠ h then some 0 else if (lnL t).getD ((lnL t).length - 1) [] ≠ [] then some ((lnL t).length - 1) else if 52 < (lnL t).length then some 51 else none
def kw (b : Bool) : List Nat := if b = true then bunW else imgW
/-- the line at fault -/
def fault (b : Bool) (t : List Nat) : Option Nat :=
  match fault3 (kw b) t with
  | some n => some n
  | none => if b = true ∧ (lnL t).length = 2 then some 1 else scan b [] 1 (mid (lnL t))
theorem spl_ne (s : List Nat) : ∀ (l : List Nat) (k : Nat) (acc : List Nat), TL.spl s k acc l ≠ []
  | [], k, acc => by simp [TL.spl]
  | c :: r, 0, acc => by
    unfold TL.spl
    split
    · simp
    · exact spl_ne s r 0 _
  | c :: r, k + 1, acc => by
    unfold TL.spl
    exact spl_ne s r k acc
theorem spl_len (s : List Nat) : ∀ (l : List Nat) (k : Nat) (acc : List Nat), (TL.spl s k acc l).length ≤ l.length + 1
  | [], k, acc => by simp [TL.spl]
  | c :: r, 0, acc => by
    unfold TL.spl
    split
    · have := spl_len s r (s.length - 1) []
      simp only [List.length_cons]; omega
    · have := spl_len s r 0 (acc ++ [c])
      simp only [List.length_cons]; omega
  | c :: r, k + 1, acc => by
    unfold TL.spl
    have := spl_len s r k acc
    simp only [List.length_cons]; omega
theorem spl_part_len (s : List Nat) : ∀ (l : List Nat) (k : Nat) (acc : List Nat), ∀ p ∈ TL.spl s k acc l, p.length ≤ acc.length + l.length
  | [], k, acc, p, h => by
    simp [TL.spl] at h
    subst h
    simp
  | c :: r, 0, acc, p, h => by
    unfold TL.spl at h
    split at h
    · rcases List.mem_cons.mp h with z | z
      · subst z; simp only [List.length_cons]; omega
      · have := spl_part_len s r _ _ p z
        simp only [List.length_cons, List.length_nil] at this ⊢; omega
    · have := spl_part_len s r _ _ p h
      simp only [List.length_cons, List.length_append, List.length_nil] at this ⊢; omega
  | c :: r, k + 1, acc, p, h => by
    unfold TL.spl at h
    have := spl_part_len s r _ _ p h
    simp only [List.length_cons] at this ⊢; omega
theorem ln_ne (t : List Nat) : lnL t ≠ [] := spl_ne _ _ _ _
theorem ln_pos (t : List Nat) : 0 < (lnL t).length := List.length_pos_iff.mpr (ln_ne t)
theorem ln_le (t : List Nat) : (lnL t).length ≤ t.length + 1 := spl_len _ _ _ _
theorem ln_part {t p : List Nat} (h : p ∈ lnL t) : p.length ≤ t.length := by have := spl_part_len _ _ _ _ p h; simpa using this
theorem wd_le (t : List Nat) : (wdL t).length ≤ t.length + 1 := spl_len _ _ _ _
theorem wd_pos (t : List Nat) : 0 < (wdL t).length := List.length_pos_iff.mpr (spl_ne _ _ _ _)
theorem wd_part {t p : List Nat} (h : p ∈ wdL t) : p.length ≤ t.length := by have := spl_part_len _ _ _ _ p h; simpa using this
theorem mid_len (ls : List (List Nat)) : (mid ls).length = ls.length - 2 := by unfold mid; rw [List.length_dropLast, List.length_drop]; omega
theorem mid_mem {ls : List (List Nat)} {p : List Nat} (h : p ∈ mid ls) : p ∈ ls := List.mem_of_mem_drop ((List.dropLast_sublist _).subset h)
theorem mid_at {ls : List (List Nat)} {i : Nat} (h : i < (mid ls).length) : (mid ls)[i]? = ls[i + 1]? := by
  unfold mid at h ⊢
  rw [List.length_dropLast] at h
  rw [List.getElem?_dropLast, if_pos h, List.getElem?_drop, Nat.add_comm]
theorem split_ln {t : List Nat} : Txt.split (SX.S t) "\n" = (lnL t).map SX.S := by
  rw [show ("\n" : Str) = SX.S [10] by decide +kernel]
  exact SX.split_S (by simp) (by decide)
theorem split_wd {t : List Nat} : Txt.split (SX.S t) " " = (wdL t).map SX.S := by
  rw [show (" " : Str) = SX.S [32] by decide +kernel]
  exact SX.split_S (by simp) (by decide)
theorem cut_mid (ls : List (List Nat)) : cutV (ls.map strS) (some 1) (some (-1)) = (mid ls).map strS := by
  unfold cutV mid
  rw [List.length_map]
  have h1 : HT.sIx ls.length 0 (some 1) = min 1 ls.length := by
    unfold HT.sIx
    simp
  have h2 : HT.sIx ls.length ls.length (some (-1)) = ls.length - 1 := by
    unfold HT.sIx
    simp
    omega
  rw [h1, h2, List.dropLast_eq_take, List.length_drop, ← List.map_drop, ← List.map_take]
  by_cases h : ls.length = 0
  · rw [List.length_eq_zero_iff.mp h]
    rfl
  · rw [Nat.min_eq_left (by omega)]
theorem g_spl {x y : Str} {H : Hp} {Q : VK} (hy : (y.length == 0) = false) (hx : x.length + 2 ≤ sizeLine) (k : ∀ p H', H p = none → Same H H' → H' p = some (.lst ((Txt.split x y).map V.str)) → Q (.ref p) H') :
    ∃ a b, V.str x = .str a ∧ [V.str y] = [.str b] ∧ (b.length == 0) = false ∧ a.length + 2 ≤ sizeLine ∧ rNewStrs (Txt.split a b) H Q :=
  ⟨x, y, rfl, rfl, hy, hx, New.to (Q := fun p H' => Q (.ref p) H') k⟩
theorem scan_at {b : Bool} {s ls : List (List Nat)} {k i : Nat} {l : List Nat} (h : ls[i]? = some l) : scan b s k (ls.drop i) = if okLine b s l = true then scan b (s ++ [w0 l]) (k + 1) (ls.drop (i + 1)) else some k := by
  obtain ⟨hl, e⟩ := List.getElem?_eq_some_iff.mp h
  rw [List.drop_eq_getElem_cons hl, e]
  rfl
def spPlat : Sp := fun vs H Q _ => ∃ (l : List Nat), vs = [.str (SX.S l)] ∧ l.length ≤ 100000 ∧ Q (.bl (isPlat l)) H
/-- the way out of a def that finds the line n at fault -/
def OutX (C : Addr) (H : Hp) (E : XK) (o : Option Nat) : Prop := ∀ n, o = some n → ∀ d H', Same H H' → H' d = some (.xd [("line", .int (n : Int))]) → E (.ref C) (some d) H'
def spLines (C : Addr) : Sp := fun vs H Q E => ∃ (t h : List Nat), vs = [.str (SX.S t), .str (SX.S h)] ∧ t.length ≤ 100000 ∧
  (fault3 h t = none → ∀ q H', Same H H' → H' q = some (.lst ((mid (lnL t)).map strS)) → Q (.ref q) H') ∧ OutX C H E (fault3 h t)
def spReadI (C : Addr) : Sp := fun vs H Q E => ∃ (t : List Nat), vs = [.str (SX.S t)] ∧ t.length ≤ 100000 ∧
  (fault false t = none → ∀ q H', Same H H' → H' q = some (.lst ((mid (lnL t)).map strS)) → Q (.ref q) H') ∧ OutX C H E (fault false t)
/-- a list of pairs of texts at q -/
def PrsAt (H : Hp) (q : Addr) (ps : List (List Nat × List Nat)) : Prop := ∃ es : List (Addr × List Nat × List Nat), es.map (·.2) = ps ∧ H q = some (.lst (es.map fun e => V.ref e.1)) ∧ ∀ e ∈ es, H e.1 = some (.tup [strS e.2.1, strS e.2.2])
def prs (t : List Nat) : List (List Nat × List Nat) := (mid (lnL t)).map fun l => (w0 l, w1 l)
def spReadB (C : Addr) : Sp := fun vs H Q E => ∃ (t : List Nat), vs = [.str (SX.S t)] ∧ t.length ≤ 100000 ∧
  (fault true t = none → ∀ q H', Same H H' → PrsAt H' q (prs t) → Q (.ref q) H') ∧ OutX C H E (fault true t)
def refsL (k : Str) (t : List Nat) : List (List Nat) := if k = "layer" then [] else if k = "image" then mid (lnL t) else (prs t).map (·.2)
def faultK (k : Str) (t : List Nat) : Option Nat := if k = "layer" then none else fault (!decide (k = "image")) t
def spRefs (C : Addr) : Sp := fun vs H Q E => ∃ (k : Str) (t : List Nat), vs = [.str k, .str (SX.S t)] ∧ t.length ≤ 100000 ∧
  (faultK k t = none → ∀ q H', Same H H' → H' q = some (.lst ((refsL k t).map strS)) → Q (.ref q) H') ∧ OutX C H E (faultK k t)
section
variable {P : Program} {w : World} {K : PySem.W.Frag} {mg : Str → Option Value} {base : Heap} {C_Store C_Refused C_Malformed a_KINDS a_BELOW : Addr}
theorem ok_Malformed___init__ (T : Txt w K mg C_Store C_Refused C_Malformed a_KINDS a_BELOW) : Exo P w K mg base 1 "Malformed" C_Malformed (spXInit C_Malformed "line") := by
  refine exo_mk T.ox_Malformed T.i_Malformed sc_Malformed___init__ (fun vs H Q E h => ?_) (fun f cdv A outer s H vs Q E hr h => ?_)
  · obtain ⟨a, v, rfl, _⟩ := h
    rfl
  · obtain ⟨a, v, rfl, ha, k⟩ := h
    refine ⟨_, (pss_one (ps_ost (pv 0) (pv 1))), ?_⟩
    exact ⟨_, rfl, _, rfl, a, C_Malformed, rfl, T.ox_Malformed, T.na_Malformed_line, .inl ⟨ha, fun dx h1 h2 => k dx h1 h2⟩⟩
theorem ok_is_platform (T : Txt w K mg C_Store C_Refused C_Malformed a_KINDS a_BELOW) : Cal P w K mg base 1 "is_platform" spPlat := by
  refine cal_mk T.d_is_platform sc_is_platform (fun vs H Q E h => ?_) (fun f cdv A outer s H vs Q E hr h => ?_)
  · obtain ⟨l, rfl, _⟩ := h
    rfl
  · obtain ⟨l, rfl, hl, q⟩ := h
    refine ⟨_, (pss_cons (ps_if (PW.pt (pw_or (pt_cmpR op_lt (pe_callB call_len_str' (by rfl) T.n_len (by decide +kernel) (pa_cons (pv 0) pa_nil)) (pe_int) (nomark _)) (pw_or1 (pt_cmpR op_gt (pe_callB call_len_str' (by rfl) T.n_len (by decide +kernel) (pa_cons (pv 0) pa_nil)) (pe_int) (nomark _))))) (pss_one (ps_ret (pe_bl))) pss_nil)
      (pss_cons (ps_for PassesOwn.never rfl (pi_str (pv 0)) (pg_name (i := 1) sc_is_platform.nd rfl (by first | exact Or.inl rfl | exact Or.inr rfl)) (pss_one (ps_if (pt_cmpR op_notInSg (pv 1) (pe_gc rfl T.g_LETTERS) (by rfl)) (pss_one (ps_ret (pe_bl))) pss_nil)))
      (pss_one (ps_ret (pe_bl))))), ?_⟩
    have hz : (SX.S l).length ≤ sizeLine := by rw [SX.S_len]; exact Nat.le_trans hl (by decide)
    walk_at "lw"
    refine g_lenT hz ?_
    rw [SX.S_len]
    walk_at "lw"
    refine if2 (fun h1 => ?_) (fun h1 => ?_)
    · walk_at "lw"
      have e : isPlat l = false := by
        unfold isPlat
        rw [decide_eq_false (by omega : ¬ 1 ≤ l.length)]
        rfl
      rw [e] at q
      exact q
    · walk_at "lw"
      refine g_lenT hz ?_
      rw [SX.S_len]
      walk_at "lw"
      refine if2 (fun h2 => ?_) (fun h2 => ?_)
      · walk_at "lw"
        have e : isPlat l = false := by
          unfold isPlat
          rw [decide_eq_false (by omega : ¬ l.length ≤ 10), Bool.and_false]
          rfl
        rw [e] at q
        exact q
      · walk_at "lw"
        refine for_at walk_sgs (fun i σ H' => H' = H ∧ (∀ c ∈ l.take i, c ∈ lowS) ∧ ∃ v : Option V, σ = [some (.str (SX.S l)), v]) ⟨rfl, by simp, none, rfl⟩ (fun _ _ _ _ => trivial) ?_ ?_
        · rintro i x σ H' hx ⟨rfl, hi, v, rfl⟩
          obtain ⟨c, hc, rfl⟩ := sgs_at hx
          walk_at "lw"
          refine ifn2 (fun hm => ?_) (fun hm => ?_)
          · walk_at "lw"
            refine ⟨rfl, fun d hd => ?_, _, rfl⟩
            rw [take_ok hc] at hd
            rcases List.mem_append.mp hd with z | z
            · exact hi d z
            · rw [List.mem_singleton.mp z]
              rw [lowS_eq] at hm
              simpa using hm
          · walk_at "lw"
            have e : isPlat l = false := by
              unfold isPlat
              rw [Bool.and_eq_false_iff]
              right
              rw [List.all_eq_false]
              refine ⟨c, List.mem_of_getElem? hc, ?_⟩
              rw [lowS_eq] at hm
              simpa using hm
            rw [e] at q
            exact q
        · rintro σ H' ⟨rfl, hi, v, rfl⟩
          rw [sgs_len, List.take_length] at hi
          walk_at "lw"
          have e : isPlat l = true := by
            unfold isPlat
            rw [Bool.and_eq_true, Bool.and_eq_true, decide_eq_true_eq, decide_eq_true_eq]
            exact ⟨⟨by omega, by omega⟩, List.all_eq_true.mpr fun c hc => decide_eq_true (hi c hc)⟩
          rw [e] at q
          exact q
theorem ok_lines_of (T : Txt w K mg C_Store C_Refused C_Malformed a_KINDS a_BELOW) : CalX P w K mg base 3 "lines_of" (spLines C_Malformed) := by
  have x_Malformed : Exo P w K mg base 1 "Malformed" C_Malformed (spXInit C_Malformed "line") := ok_Malformed___init__ T
  refine calX_mk T.d_lines_of sc_lines_of (fun vs H Q E h => ?_) (fun f cdv A outer s H vs Q E hr h => ?_)
  · obtain ⟨t, h, rfl, _⟩ := h
    rfl
  · obtain ⟨t, h, rfl, hl, k, kx⟩ := h
    refine ⟨_, (pss_cons (ps_set (i := 2) sc_lines_of.nd rfl (by first | exact Or.inl rfl | exact Or.inr rfl) (pe_split (pv 0) (pe_str)))
      (pss_cons (ps_if (pt_cmpR op_ne (pe_ix ix_list (pv 2) (pe_int) (fun _ _ => rfl)) (pv 1) (nomark _)) (pss_one (ps_rs rfl (takes_of rfl rfl rfl rfl) (pmk_x x_Malformed hr (by first | decide | omega) rfl (pa_cons (pe_int) pa_nil)))) pss_nil)
      (pss_cons (ps_if (pt_cmpR op_ne (pe_ix ix_list (pv 2) (pe_un un_neg (pe_int)) (fun _ _ => rfl)) (pe_str) (nomark _)) (pss_one (ps_rs rfl (takes_of rfl rfl rfl rfl) (pmk_x x_Malformed hr (by first | decide | omega) rfl (pa_cons (pe_op op_sub (pe_callB call_len_seq' (by rfl) T.n_len (by decide +kernel) (pa_cons (pv 2) pa_nil)) (pe_int)) pa_nil)))) pss_nil)
      (pss_cons (ps_if (pt_cmpR op_gt (pe_callB call_len_seq' (by rfl) T.n_len (by decide +kernel) (pa_cons (pv 2) pa_nil)) (pe_op op_add (pe_gc rfl T.g_MAX_LINES) (pe_int)) (nomark _)) (pss_one (ps_rs rfl (takes_of rfl rfl rfl rfl) (pmk_x x_Malformed hr (by first | decide | omega) rfl (pa_cons (pe_op op_add (pe_gc rfl T.g_MAX_LINES) (pe_int)) pa_nil)))) pss_nil)
      (pss_one (ps_ret (pe_slice sl_list (pv 2) (po_some (pe_int)) (po_some (pe_un un_neg (pe_int)))))))))), ?_⟩
    have hp := ln_pos t
    have hle := ln_le t
    walk_at "lw"
    refine g_spl (by decide +kernel) (by rw [SX.S_len]; exact Nat.le_trans (show t.length + 2 ≤ 100002 by omega) (by decide)) fun q H1 nq s1 hq => ?_
    rw [split_ln, List.map_map] at hq
    have hq : H1 q = some (.lst ((lnL t).map strS)) := hq
    have a0 : atI (lnL t) 0 = some ((lnL t).getD 0 []) := by
      have := atI_nat (xs := lnL t) (j := 0) (v := (lnL t).getD 0 []) (by rw [List.getD_eq_getElem?_getD, List.getElem?_eq_getElem hp]; rfl)
      exact this
    have a1 : atI (lnL t) (-1) = some ((lnL t).getD ((lnL t).length - 1) []) := by
      have h1 : (lnL t)[(lnL t).length - 1]? = some ((lnL t).getD ((lnL t).length - 1) []) := by rw [List.getD_eq_getElem?_getD, List.getElem?_eq_getElem (by omega)]; rfl
      unfold atI
      rw [show ixN (lnL t).length (-1) = some ((lnL t).length - 1) by unfold ixN; rw [if_neg (by decide), if_pos (by omega)]; congr 1; omega]
      exact h1
    walk_at "lw"
    refine g_rix (SqL.of hq) (atI_map a0) ?_
    walk_at "lw"
    show if (!decide (V.str (SX.S ((lnL t).getD 0 [])) = V.str (SX.S h))) = true then _ else _
    refine ifn2 (fun e0 => ?_) (fun e0 => ?_)
    · have e0 : (lnL t).getD 0 [] = h := SX.S_inj (str_eq.mp e0)
      walk_at "lw"
      refine ⟨_, rfl, ?_⟩
      refine g_rix (SqL.of hq) (atI_map a1) ?_
      walk_at "lw"
      show if (!decide (V.str (SX.S ((lnL t).getD ((lnL t).length - 1) [])) = V.str "")) = true then _ else _
      refine ifn2 (fun e1 => ?_) (fun e1 => ?_)
      · have e1 : (lnL t).getD ((lnL t).length - 1) [] = [] := SX.S_inj (by rw [← empty_S]; exact str_eq.mp e1)
        walk_at "lw"
        rw [List.length_map]
        refine if2 (fun e2 => ?_) (fun e2 => ?_)
        · have e : fault3 h t = some 51 := by
            unfold fault3
            rw [if_neg (fun z => z e0), if_neg (fun z => z e1), if_pos (by omega)]
          walk_at "lw"
          exact g_rmkO fun d H' _ s' hd => kx _ e d H' (s1.trans s') hd
        · have e : fault3 h t = none := by
            unfold fault3
            rw [if_neg (fun z => z e0), if_neg (fun z => z e1), if_neg (by omega)]
          walk_at "lw"
          refine ⟨_, rfl, ?_⟩
          walk_at "lw"
          refine g_slL (SqL.of hq) fun q2 H2 _ s2 hq2 => ?_
          rw [cut_mid] at hq2
          walk_at "lw"
          exact k e q2 H2 (s1.trans s2) hq2
      · have e1 : ¬ (lnL t).getD ((lnL t).length - 1) [] = [] := fun z => e1 (by rw [z]; exact str_eq.mpr empty_S.symm)
        have e : fault3 h t = some ((lnL t).length - 1) := by
          unfold fault3
          rw [if_neg (fun z => z e0), if_pos e1]
        walk_at "lw"
        refine g_rmkO fun d H' _ s' hd => kx _ e d H' (s1.trans s') ?_
        rw [hd, List.length_map]
        congr 6
        omega
    · have e0 : ¬ (lnL t).getD 0 [] = h := fun z => e0 (by rw [z])
      have e : fault3 h t = some 0 := by
        unfold fault3
        rw [if_pos e0]
      walk_at "lw"
      exact g_rmkO fun d H' _ s' hd => kx _ e d H' (s1.trans s') hd
end
end Lw

/-! ## images, bundles, references -/
namespace Lw
open PySem L2
open PyProof.Rows (envOfC)
theorem OutX.mk {C : Addr} {H : Hp} {E : XK} {o : Option Nat} {n : Nat} {z : Int} (k : OutX C H E o) (e : o = some n) (hz : z = (n : Int)) : ∀ d H', Same H H' → H' d = some (.xd [("line", .int z)]) → E (.ref C) (some d) H' := by
  subst hz
  exact fun d H' s h => k n e d H' s h
theorem fault_of3 {b : Bool} {t : List Nat} {n : Nat} (h : fault3 (kw b) t = some n) : fault b t = some n := by
  unfold fault
  rw [h]
theorem fault_one {t : List Nat} (h : fault3 (kw true) t = none) (h2 : (lnL t).length = 2) : fault true t = some 1 := by
  unfold fault
  rw [h]
  exact if_pos ⟨rfl, h2⟩
theorem fault_scan {b : Bool} {t : List Nat} (h : fault3 (kw b) t = none) (h2 : ¬ (b = true ∧ (lnL t).length = 2)) : fault b t = scan b [] 1 (mid (lnL t)) := by
  unfold fault
  rw [h]
  exact if_neg h2
theorem kw_ne (b : Bool) : kw b ≠ [] := by cases b <;> decide
theorem ln_two {b : Bool} {t : List Nat} (h : fault3 (kw b) t = none) : 2 ≤ (lnL t).length := by
  have hp := ln_pos t
  unfold fault3 at h
  split at h
  · cases h
  · rename_i h1
    split at h
    · cases h
    · rename_i h2
      by_cases h3 : (lnL t).length = 1
      · rw [h3] at h2
        have e1 := Classical.not_not.mp h1
        have e2 := Classical.not_not.mp h2
        exact absurd (e1.symm.trans e2) (kw_ne b)
      · omega
theorem _root_.L2.Same.chg {H H' H2 : Hp} {p : Addr} (s : Same H H') (n : H p = none) (k : ∀ b, b ≠ p → H2 b = H' b) : Same H H2 := fun b o e => by rw [k b (ne_of_none e n)]; exact s b o e
section
variable {σ : L2.St} {H : Hp} {D : Ends} {g : TG} {tl : TA}
def kFor2 (g : TG) (tb : TS) (D : Ends) (σ : L2.St) (vs : List V) (H : Hp) : Prop := ∃ a b : Int, vs = [.int a, .int b] ∧ (-(2 ^ 62) ≤ a ∧ a < 2 ^ 62 ∧ -(2 ^ 62) ≤ b ∧ b < 2 ^ 62) ∧ kFor g tb D σ (Itr a (b - a).toNat) H
theorem g_forR2 {tb : TS} (k : tl σ H (kFor2 g tb D σ)) : tFor (iRng2 tl) g tb D σ H := k
theorem g_for2 {tb : TS} {a b : Int} (h0 : 0 ≤ a) (h1 : a ≤ 100000) (h2 : 0 ≤ b) (h3 : b ≤ 100000) (Pv : Nat → L2.St → Hp → Prop) (hi : Pv 0 σ H) (hs : ∀ (i : Nat) σ H, i < (b - a).toNat → Pv i σ H → g (.int (a + (i : Int))) σ H fun σ2 H2 => tb { D with nx := Pv (i + 1), ct := Pv (i + 1), bk := D.nx } σ2 H2)
    (hd : ∀ σ H, Pv (b - a).toNat σ H → D.nx σ H) : kFor2 g tb D σ [.int a, .int b] H :=
  ⟨a, b, rfl, ⟨by omega, by omega, by omega, by omega⟩, for_range Pv hi hs hd⟩
end
theorem w0_at {l : List Nat} : (wdL l)[0]? = some (w0 l) := by
  have h := wd_pos l
  unfold w0
  rw [List.getD_eq_getElem?_getD, List.getElem?_eq_getElem h]
  rfl
theorem w1_at {l : List Nat} (h : (wdL l).length = 2) : (wdL l)[1]? = some (w1 l) := by
  unfold w1
  rw [List.getD_eq_getElem?_getD, List.getElem?_eq_getElem (by omega)]
  rfl
theorem w0_len (l : List Nat) : (w0 l).length ≤ l.length := wd_part (List.mem_of_getElem? w0_at)
theorem w1_len {l : List Nat} (h : (wdL l).length = 2) : (w1 l).length ≤ l.length := wd_part (List.mem_of_getElem? (w1_at h))
theorem S_mem {a : List Nat} {s : List (List Nat)} : SX.S a ∈ s.map SX.S ↔ a ∈ s := by
  rw [List.mem_map]
  exact ⟨fun ⟨b, hb, e⟩ => by rw [← SX.S_inj e]; exact hb, fun h => ⟨a, h, rfl⟩⟩
section
variable {P : Program} {w : World} {K : PySem.W.Frag} {mg : Str → Option Value} {base : Heap} {C_Store C_Refused C_Malformed a_KINDS a_BELOW : Addr}
theorem ok_read_image (T : Txt w K mg C_Store C_Refused C_Malformed a_KINDS a_BELOW) : CalX P w K mg base 4 "read_image" (spReadI C_Malformed) := by
  have x_Malformed : Exo P w K mg base 1 "Malformed" C_Malformed (spXInit C_Malformed "line") := ok_Malformed___init__ T
  have c_is_address : Cal P w K mg base 1 "is_address" spIsAdr := ok_is_address T
  have c_lines_of : CalX P w K mg base 3 "lines_of" (spLines C_Malformed) := ok_lines_of T
  refine calX_mk T.d_read_image sc_read_image (fun vs H Q E h => ?_) (fun f cdv A outer s H vs Q E hr h => ?_)
  · obtain ⟨t, rfl, _⟩ := h
    rfl
  · obtain ⟨t, rfl, hl, k, kx⟩ := h
    refine ⟨_, (pss_cons (ps_set (i := 1) sc_read_image.nd rfl (by first | exact Or.inl rfl | exact Or.inr rfl) (pe_cX c_lines_of (takes_of rfl rfl rfl rfl) hr (by first | decide | omega) rfl (pa_cons (pv 0) (pa_cons (pe_str) pa_nil))))
      (pss_cons (ps_for (passes_of rfl) rfl (pi_range1 (by rfl) T.n_range (pa_cons (pe_callB call_len_seq' (by rfl) T.n_len (by decide +kernel) (pa_cons (pv 1) pa_nil)) pa_nil)) (pg_name (i := 2) sc_read_image.nd rfl (by first | exact Or.inl rfl | exact Or.inr rfl)) (pss_one (ps_if (pt_not (pt_val (pe_c c_is_address hr (by first | decide | omega) rfl (pa_cons (pe_ix ix_list (pv 1) (pv 2) (fun _ _ => rfl)) pa_nil)))) (pss_one (ps_rs rfl (takes_of rfl rfl rfl rfl) (pmk_x x_Malformed hr (by first | decide | omega) rfl (pa_cons (pe_op op_add (pv 2) (pe_int)) pa_nil)))) pss_nil)))
      (pss_one (ps_ret (pv 1))))), ?_⟩
    walk_at "lw"
    refine ⟨t, imgW, by rw [imgW_eq], hl, fun h3 q H1 s1 hq => ?_, fun n hn d H1 s1 hd => kx.mk (fault_of3 (b := false) hn) rfl d H1 s1 hd⟩
    have hf := fault_scan (b := false) h3 (fun z => by cases z.1)
    have hm : (mid (lnL t)).length ≤ 100000 := by rw [mid_len]; have := ln_le t; omega
    rw [hf] at k kx
    walk_at "lw"
    rw [List.length_map]
    refine g_for1 (by omega) (by omega) (fun i σ H' => H' = H1 ∧ (∃ s, scan false [] 1 (mid (lnL t)) = scan false s (1 + i) ((mid (lnL t)).drop i)) ∧ ∃ v : Option V, σ = [some (.str (SX.S t)), some (.ref q), v]) ⟨rfl, ⟨[], rfl⟩, none, rfl⟩ ?_ ?_
    · rintro i σ H' hi ⟨rfl, ⟨s, hs⟩, v, rfl⟩
      obtain ⟨l, hl2⟩ : ∃ l, (mid (lnL t))[i]? = some l := ⟨_, List.getElem?_eq_getElem (by omega)⟩
      have hlen := ln_part (mid_mem (List.mem_of_getElem? hl2))
      rw [scan_at hl2] at hs
      walk_at "lw"
      refine g_rix (SqL.of hq) (atI_map (atI_nat hl2)) ?_
      walk_at "lw"
      refine ⟨l, rfl, by omega, ?_⟩
      walk_at "lw"
      cases hb : isAdr l with
      | true =>
        walk_at "lw"
        refine ⟨rfl, ⟨_, hs.trans (if_pos ?_)⟩, _, rfl⟩
        exact hb
      | false =>
        have e := hs.trans (if_neg (show ¬ okLine false s l = true by unfold okLine; rw [if_neg (by decide), hb]; decide))
        walk_at "lw"
        exact g_rmkO fun d H2 _ s2 hd => kx.mk e (by omega) d H2 (s1.trans s2) hd
    · rintro σ H' ⟨rfl, ⟨s, hs⟩, v, rfl⟩
      rw [show ((mid (lnL t)).length : Int).toNat = (mid (lnL t)).length by omega, List.drop_length] at hs
      walk_at "lw"
      exact k hs q H' s1 hq
theorem ok_read_bundle (T : Txt w K mg C_Store C_Refused C_Malformed a_KINDS a_BELOW) : CalX P w K mg base 4 "read_bundle" (spReadB C_Malformed) := by
  have x_Malformed : Exo P w K mg base 1 "Malformed" C_Malformed (spXInit C_Malformed "line") := ok_Malformed___init__ T
  have c_is_address : Cal P w K mg base 1 "is_address" spIsAdr := ok_is_address T
  have c_is_platform : Cal P w K mg base 1 "is_platform" spPlat := ok_is_platform T
  have c_lines_of : CalX P w K mg base 3 "lines_of" (spLines C_Malformed) := ok_lines_of T
  refine calX_mk T.d_read_bundle sc_read_bundle (fun vs H Q E h => ?_) (fun f cdv A outer s H vs Q E hr h => ?_)
  · obtain ⟨t, rfl, _⟩ := h
    rfl
  · obtain ⟨t, rfl, hl, k, kx⟩ := h
    have hu := hu_of hr
    refine ⟨_, (pss_cons (ps_set (i := 1) sc_read_bundle.nd rfl (by first | exact Or.inl rfl | exact Or.inr rfl) (pe_cX c_lines_of (takes_of rfl rfl rfl rfl) hr (by first | decide | omega) rfl (pa_cons (pv 0) (pa_cons (pe_str) pa_nil))))
      (pss_cons (ps_if (pt_cmpR op_eq (pe_callB call_len_seq' (by rfl) T.n_len (by decide +kernel) (pa_cons (pv 1) pa_nil)) (pe_int) (nomark _)) (pss_one (ps_rs rfl (takes_of rfl rfl rfl rfl) (pmk_x x_Malformed hr (by first | decide | omega) rfl (pa_cons (pe_int) pa_nil)))) pss_nil)
      (pss_cons (ps_set (i := 2) sc_read_bundle.nd rfl (by first | exact Or.inl rfl | exact Or.inr rfl) (pe_lst pa_nil))
      (pss_cons (ps_set (i := 3) sc_read_bundle.nd rfl (by first | exact Or.inl rfl | exact Or.inr rfl) (pe_dnewK))
      (pss_cons (ps_for (passes_of rfl) rfl (pi_range1 (by rfl) T.n_range (pa_cons (pe_callB call_len_seq' (by rfl) T.n_len (by decide +kernel) (pa_cons (pv 1) pa_nil)) pa_nil)) (pg_name (i := 4) sc_read_bundle.nd rfl (by first | exact Or.inl rfl | exact Or.inr rfl)) (pss_cons (ps_set (i := 5) sc_read_bundle.nd rfl (by first | exact Or.inl rfl | exact Or.inr rfl) (pe_split (pe_ix ix_list (pv 1) (pv 4) (fun _ _ => rfl)) (pe_str)))
      (pss_cons (ps_if (PW.pt (pw_or (pt_cmpR op_ne (pe_callB call_len_seq' (by rfl) T.n_len (by decide +kernel) (pa_cons (pv 5) pa_nil)) (pe_int) (nomark _)) (pw_or (pt_not (pt_val (pe_c c_is_platform hr (by first | decide | omega) rfl (pa_cons (pe_ix ix_list (pv 5) (pe_int) (fun _ _ => rfl)) pa_nil)))) (pw_or1 (pt_not (pt_val (pe_c c_is_address hr (by first | decide | omega) rfl (pa_cons (pe_ix ix_list (pv 5) (pe_int) (fun _ _ => rfl)) pa_nil)))))))) (pss_one (ps_rs rfl (takes_of rfl rfl rfl rfl) (pmk_x x_Malformed hr (by first | decide | omega) rfl (pa_cons (pe_op op_add (pv 4) (pe_int)) pa_nil)))) pss_nil)
      (pss_cons (ps_if (pt_cmp (pc_din hu (pe_ix ix_list (pv 5) (pe_int) (fun _ _ => rfl)) (pv 3))) (pss_one (ps_rs rfl (takes_of rfl rfl rfl rfl) (pmk_x x_Malformed hr (by first | decide | omega) rfl (pa_cons (pe_op op_add (pv 4) (pe_int)) pa_nil)))) pss_nil)
      (pss_cons (ps_dput hu (pv 3) (pe_ix ix_list (pv 5) (pe_int) (fun _ _ => rfl)) (pe_bl) rfl)
      (pss_one (ps_expr (pe_bm PySem.F.plainAttrs_list PySem.F.slot_list_append PySem.F.type_list_append mt_append (pv 2) (pa_cons (pe_tup (pa_cons (pe_ix ix_list (pv 5) (pe_int) (fun _ _ => rfl)) (pa_cons (pe_ix ix_list (pv 5) (pe_int) (fun _ _ => rfl)) pa_nil))) pa_nil)))))))))
      (pss_one (ps_ret (pv 2)))))))), ?_⟩
    walk_at "lw"
    refine ⟨t, bunW, by rw [bunW_eq], hl, fun h3 q H1 s1 hq => ?_, fun n hn d H1 s1 hd => kx.mk (fault_of3 (b := true) hn) rfl d H1 s1 hd⟩
    have h2 := ln_two (b := true) h3
    have hm0 := mid_len (lnL t)
    have hm : (mid (lnL t)).length ≤ 100000 := by have := ln_le t; omega
    walk_at "lw"
    rw [List.length_map]
    refine if2 (fun hz => ?_) (fun hz => ?_)
    · have hz : (mid (lnL t)).length = 0 := by have := int_eq.mp hz; omega
      walk_at "lw"
      exact g_rmkO fun d H2 _ s2 hd => kx.mk (fault_one h3 (by omega)) rfl d H2 (s1.trans s2) hd
    · have hf := fault_scan (b := true) h3 (fun z => hz (by rw [hm0, z.2]; rfl))
      rw [hf] at k kx
      walk_at "lw"
      refine g_klst (by show 0 ≤ 100; decide) fun en H2 nen s2 hen => ?_
      walk_at "lw"
      refine g_dnew fun sn H3 nsn s3 hsn => ?_
      have hen3 := s3.at hen
      have neq : q ≠ en := ne_of_none hq nen
      have nes : en ≠ sn := ne_of hen3 hsn (by intro z; cases z)
      have nqs : q ≠ sn := ne_of ((s2.trans s3).at hq) hsn (by intro z; cases z)
      have n0e : H en = none := s1.free nen
      have n0s : H sn = none := (s1.trans s2).free nsn
      walk_at "lw"
      rw [List.length_map]
      refine g_for1 (by omega) (by omega) (fun i σ H' => Same H H' ∧ H' q = some (.lst ((mid (lnL t)).map strS)) ∧ scan true [] 1 (mid (lnL t)) = scan true (((mid (lnL t)).take i).map w0) (1 + i) ((mid (lnL t)).drop i) ∧
        H' sn = some (.dK (mkS ((((mid (lnL t)).take i).map w0).map SX.S) fun _ => .bl true)) ∧ PrsAt H' en (((mid (lnL t)).take i).map fun l => (w0 l, w1 l)) ∧ ∃ v v2 : Option V, σ = [some (.str (SX.S t)), some (.ref q), some (.ref en), some (.ref sn), v, v2]) ?_ ?_ ?_
      · exact ⟨(s1.trans s2).trans s3, (s2.trans s3).at hq, rfl, hsn, ⟨[], rfl, hen3, fun e he => nomatch he⟩, _, _, rfl⟩
      · rintro i σ H4 hi ⟨s4, hq4, hs, hs4, ⟨es, es1, es2, es3⟩, v, v2, rfl⟩
        obtain ⟨l, hl2⟩ : ∃ l, (mid (lnL t))[i]? = some l := ⟨_, List.getElem?_eq_getElem (by omega)⟩
        have hlen := ln_part (mid_mem (List.mem_of_getElem? hl2))
        rw [scan_at hl2] at hs
        have hesl : es.length ≤ 100000 := by
          have := congrArg List.length es1
          rw [List.length_map, List.length_map, List.length_take] at this
          omega
        generalize hseen : ((mid (lnL t)).take i).map w0 = seen at hs hs4
        have hsl : seen.length ≤ i := by rw [← hseen, List.length_map]; exact List.length_take_le _ _
        walk_at "lw"
        refine g_rix (SqL.of hq4) (atI_map (atI_nat hl2)) ?_
        refine g_rstr (x := SX.S l) ?_
        walk_at "lw"
        refine g_spl (by decide +kernel) (by rw [SX.S_len]; exact Nat.le_trans (show l.length + 2 ≤ 100002 by omega) (by decide)) fun wq H5 nwq s5 hwq => ?_
        rw [split_wd, List.map_map] at hwq
        have hwq : H5 wq = some (.lst ((wdL l).map strS)) := hwq
        have s45 := s4.trans s5
        have bad : okLine true seen l = false → scan true [] 1 (mid (lnL t)) = some (1 + i) := fun hb => by
          rw [hs, if_neg (by rw [hb]; decide)]
        walk_at "lw"
        rw [List.length_map]
        refine ifn2 (fun w2 => ?_) (fun w2 => ?_)
        · have w2 : (wdL l).length = 2 := by have := int_eq.mp w2; omega
          have hw0 := w0_len l
          have hw1 := w1_len w2
          walk_at "lw"
          refine g_rix (SqL.of hwq) (atI_map (atI_nat (j := 0) w0_at)) ?_
          walk_at "lw"
          refine ⟨w0 l, rfl, by omega, ?_⟩
          walk_at "lw"
          cases hp : isPlat (w0 l) with
          | false =>
            walk_at "lw"
            exact g_rmkO fun d H6 _ s6 hd => kx.mk (bad (by unfold okLine; rw [if_pos rfl, hp, Bool.false_and, Bool.and_false])) (by omega) d H6 (s45.trans s6) hd
          | true =>
            walk_at "lw"
            refine g_rix (SqL.of hwq) (atI_map (atI_nat (j := 1) (w1_at w2))) ?_
            walk_at "lw"
            refine ⟨w1 l, rfl, by omega, ?_⟩
            walk_at "lw"
            cases ha : isAdr (w1 l) with
            | false =>
              walk_at "lw"
              exact g_rmkO fun d H6 _ s6 hd => kx.mk (bad (by unfold okLine; rw [if_pos rfl, ha, Bool.false_and, Bool.and_false, Bool.and_false])) (by omega) d H6 (s45.trans s6) hd
            | true =>
              walk_at "lw"
              refine g_rix (SqL.of hwq) (atI_map (atI_nat (j := 0) w0_at)) ?_
              walk_at "lw"
              refine g_rdinS (.of (s5.at hs4)) ?_
              rw [valV_mkS]
              by_cases hin : w0 l ∈ seen
              · rw [if_pos (S_mem.mpr hin)]
                walk_at "lw"
                exact g_rmkO fun d H6 _ s6 hd => kx.mk (bad (by unfold okLine; rw [if_pos rfl, decide_eq_true hin, Bool.not_true, Bool.and_false, Bool.and_false, Bool.and_false])) (by omega) d H6 (s45.trans s6) hd
              · rw [if_neg (fun z => hin (S_mem.mp z))]
                have good : okLine true seen l = true := by
                  unfold okLine
                  rw [if_pos rfl, decide_eq_true w2, hp, ha, decide_eq_false hin]
                  rfl
                rw [if_pos good] at hs
                walk_at "lw"
                refine g_rix (SqL.of hwq) (atI_map (atI_nat (j := 0) w0_at)) ?_
                walk_at "lw"
                refine g_rdputS (s5.at hs4) (by rw [mkS_len, List.length_map]; omega) fun H6 h6 k6 => ?_
                rw [putK_mkS_new (fun z => hin (S_mem.mp z))] at h6
                have nws : wq ≠ sn := ne_of hwq (s5.at hs4) (by intro z; cases z)
                have hwq6 : H6 wq = some (.lst ((wdL l).map strS)) := by rw [k6 wq nws]; exact hwq
                have s6 := s45.chg n0s k6
                have en6 : H6 en = some (.lst (es.map fun e => V.ref e.1)) := by rw [k6 en nes]; exact s5.at es2
                have q6 : H6 q = some (.lst ((mid (lnL t)).map strS)) := by rw [k6 q nqs]; exact s5.at hq4
                have t6 : ∀ e ∈ es, H6 e.1 = some (.tup [strS e.2.1, strS e.2.2]) := fun e he => by
                  have := s5.at (es3 e he)
                  rw [k6 e.1 (ne_of this (s5.at hs4) (by intro z; cases z))]
                  exact this
                walk_at "lw"
                refine g_tyL en6 ?_
                walk_at "lw"
                refine g_rix (SqL.of hwq6) (atI_map (atI_nat (j := 0) w0_at)) ?_
                walk_at "lw"
                refine g_rix (SqL.of hwq6) (atI_map (atI_nat (j := 1) (w1_at w2))) ?_
                walk_at "lw"
                refine g_ktup (by show 2 ≤ 100; decide) fun tp H7 _ s7 htp => ?_
                walk_at "lw"
                refine g_append (s7.at en6) (by rw [List.length_map]; have := congrArg List.length es1; rw [List.length_map, List.length_map, List.length_take] at this; omega) fun H8 h8 k8 => ?_
                walk_at "lw"
                have s8 := (s6.trans s7).chg n0e k8
                have hesn : (mid (lnL t)).take (i + 1) = (mid (lnL t)).take i ++ [l] := take_ok hl2
                refine ⟨s8, by rw [k8 q neq]; exact s7.at q6, ?_, ?_, ⟨es ++ [(tp, w0 l, w1 l)], ?_, ?_, fun e he => ?_⟩, _, _, rfl⟩
                · rw [hs, hesn, List.map_append, hseen, Nat.add_assoc]
                  rfl
                · rw [k8 sn nes.symm, s7.at h6, hesn, List.map_append, hseen, List.map_append]
                  congr 2
                  refine mkS_congr fun j _ => ?_
                  split <;> rfl
                · rw [List.map_append, es1, hesn, List.map_append]
                  rfl
                · rw [h8, List.map_append]
                  rfl
                · rcases List.mem_append.mp he with z | z
                  · have := s7.at (t6 e z)
                    rw [k8 e.1 (ne_of this (s7.at en6) (by intro z; cases z))]
                    exact this
                  · rw [List.mem_singleton.mp z, k8 tp (ne_of htp (s7.at en6) (by intro z; cases z))]
                    exact htp
        · have w2 : ¬ (wdL l).length = 2 := fun z => w2 (by rw [z]; rfl)
          walk_at "lw"
          exact g_rmkO fun d H6 _ s6 hd => kx.mk (bad (by unfold okLine; rw [if_pos rfl, decide_eq_false w2, Bool.false_and])) (by omega) d H6 (s45.trans s6) hd
      · rintro σ H4 ⟨s4, hq4, hs, hs4, hes, v, v2, rfl⟩
        rw [show ((mid (lnL t)).length : Int).toNat = (mid (lnL t)).length by omega] at hs hes
        rw [List.drop_length] at hs
        rw [List.take_length] at hes
        walk_at "lw"
        exact k hs en H4 s4 hes
theorem ok_references (T : Txt w K mg C_Store C_Refused C_Malformed a_KINDS a_BELOW) : CalX P w K mg base 5 "references" (spRefs C_Malformed) := by
  have c_read_image : CalX P w K mg base 4 "read_image" (spReadI C_Malformed) := ok_read_image T
  have c_read_bundle : CalX P w K mg base 4 "read_bundle" (spReadB C_Malformed) := ok_read_bundle T
  refine calX_mk T.d_references sc_references (fun vs H Q E h => ?_) (fun f cdv A outer s H vs Q E hr h => ?_)
  · obtain ⟨kd, t, rfl, _⟩ := h
    rfl
  · obtain ⟨kd, t, rfl, hl, k, kx⟩ := h
    refine ⟨_, (pss_cons (ps_if (pt_cmpR op_eq (pv 0) (pe_str) (nomark _)) (pss_one (ps_ret (pe_lst pa_nil))) pss_nil)
      (pss_cons (ps_if (pt_cmpR op_eq (pv 0) (pe_str) (nomark _)) (pss_one (ps_ret (pe_cX c_read_image (takes_of rfl rfl rfl rfl) hr (by first | decide | omega) rfl (pa_cons (pv 1) pa_nil)))) pss_nil)
      (pss_one (ps_ret (pe_lc (own := [("platform", 2), ("address", 3)]) (g := (gTup K 2 (gCons (gName 2) (gCons (gName 3) gNil)))) (by rfl) sc_references.nd (pi_list (pe_cX c_read_bundle (takes_of rfl rfl rfl rfl) hr (by first | decide | omega) rfl (pa_cons (pv 1) pa_nil))) (blkOk_by (own := [("platform", 2), ("address", 3)]) (N := n_references) (sc := defScope s_references) (by decide +kernel)) (fun _ _ _ _ _ => (pg_tup (by rfl) (pgs_cons (pg_name (i := 2) sc_references.nd rfl (by first | exact Or.inl rfl | exact Or.inr rfl)) (pgs_cons (pg_name (i := 3) sc_references.nd rfl (by first | exact Or.inl rfl | exact Or.inr rfl)) pgs_nil)))) (fun _ _ _ _ _ => pts_nil) (fun _ _ _ _ _ => (pv 3))))))), ?_⟩
    unfold faultK refsL at k
    unfold faultK at kx
    walk_at "lw"
    refine if2 (fun h1 => ?_) (fun h1 => ?_)
    · have h1 := str_eq.mp h1
      rw [if_pos h1, if_pos h1] at k
      walk_at "lw"
      exact g_klst (by show 0 ≤ 100; decide) fun q H1 _ s1 hq => k rfl q H1 s1 hq
    · have h1 : ¬ kd = "layer" := fun z => h1 (by rw [z])
      rw [if_neg h1] at k kx
      rw [if_neg h1] at k
      walk_at "lw"
      refine if2 (fun h2 => ?_) (fun h2 => ?_)
      · have h2 := str_eq.mp h2
        rw [decide_eq_true h2, Bool.not_true] at kx
        rw [decide_eq_true h2, Bool.not_true, if_pos h2] at k
        walk_at "lw"
        exact ⟨t, rfl, hl, k, kx⟩
      · have h2 : ¬ kd = "image" := fun z => h2 (by rw [z])
        rw [decide_eq_false h2, Bool.not_false] at kx
        rw [decide_eq_false h2, Bool.not_false, if_neg h2] at k
        walk_at "lw"
        refine ⟨t, rfl, hl, fun hf q H1 s1 hq => ?_, kx⟩
        obtain ⟨es, es1, es2, es3⟩ := hq
        have hz : es.length ≤ 100000 := by
          have := congrArg List.length es1
          unfold prs at this
          rw [List.length_map, List.length_map, mid_len] at this
          have := ln_le t
          omega
        refine g_ritL (SqL.of es2) ?_
        refine lc_map (G := fun H' => SqL K H' q (es.map fun e => V.ref e.1)) walk_list (fun H' s => SqL.of (s _ _ es2)) (by rw [List.length_map]; exact hz) (fun _ => true)
          (fun v => match v with | .ref a => (match H1 a with | some (.tup [_, y]) => y | _ => .non) | _ => .non) ?_ ?_
        · intro x hx H' R s2 kk
          obtain ⟨e, he, rfl⟩ := List.mem_map.mp hx
          have h3 := es3 e he
          refine g_gtup (SqT.of (s2 _ _ h3)) rfl ?_
          walk_at "lw"
          refine kk _ rfl (fun H'' R s3 r => ?_) (fun hp' H'' R s3 r => ?_)
          · walk_at "lw"
            exact r
          · walk_at "lw"
            have r := r H'' (Same.refl _)
            simp only [h3] at r
            exact r
        · intro q2 H2 nq2 s2 hq2
          rw [List.filter_eq_self.mpr (fun _ _ => rfl), List.map_map] at hq2
          have e : es.map ((fun v => match v with | .ref a => (match H1 a with | some (.tup [_, y]) => y | _ => .non) | _ => .non) ∘ fun e => V.ref e.1) = ((prs t).map (·.2)).map strS := by
            rw [← es1, List.map_map, List.map_map]
            refine List.map_congr_left fun e he => ?_
            simp only [Function.comp, es3 e he]
          rw [e] at hq2
          walk_at "lw"
          exact k hf q2 H2 (s1.trans s2) hq2
end
end Lw

/-! ## what was written is read -/
namespace Lw
open PySem L2
theorem joinL_lines : ∀ (as : List (List Nat)) (x : List Nat), TL.joinL [10] (x :: (as ++ [[]])) = x ++ [10] ++ (as.map fun a => a ++ [10]).flatten
  | [], x => by simp [TL.joinL]
  | a :: r, x => by
    show x ++ ([10] ++ TL.joinL [10] (a :: (r ++ [[]]))) = _
    rw [joinL_lines r a, List.map_cons, List.flatten_cons]
    simp only [List.append_assoc]
theorem imgL_join (as : List (List Nat)) : imgL as = TL.joinL [10] (imgW :: (as ++ [[]])) := by
  rw [joinL_lines]
  rfl
theorem bunL_join (ps : List (List Nat × List Nat)) : bunL ps = TL.joinL [10] (bunW :: ((ps.map fun e => e.1 ++ [32] ++ e.2) ++ [[]])) := by
  rw [joinL_lines, List.map_map]
  rfl
theorem ln_imgL {as : List (List Nat)} (h : ∀ a ∈ as, 10 ∉ a) : lnL (imgL as) = imgW :: (as ++ [[]]) := by
  unfold lnL
  rw [imgL_join]
  refine TL.spl_join (by simp) fun p hp => ?_
  rcases List.mem_cons.mp hp with z | z
  · rw [z]; decide
  · rcases List.mem_append.mp z with y | y
    · exact h p y
    · rw [List.mem_singleton.mp y]; simp
theorem ln_bunL {ps : List (List Nat × List Nat)} (h : ∀ e ∈ ps, 10 ∉ e.1 ∧ 10 ∉ e.2) : lnL (bunL ps) = bunW :: ((ps.map fun e => e.1 ++ [32] ++ e.2) ++ [[]]) := by
  unfold lnL
  rw [bunL_join]
  refine TL.spl_join (by simp) fun p hp => ?_
  rcases List.mem_cons.mp hp with z | z
  · rw [z]; decide
  · rcases List.mem_append.mp z with y | y
    · obtain ⟨e, he, rfl⟩ := List.mem_map.mp y
      obtain ⟨h1, h2⟩ := h e he
      simp only [List.mem_append, List.mem_singleton]
      rintro ((z | z) | z)
      · exact h1 z
      · cases z
      · exact h2 z
    · rw [List.mem_singleton.mp y]; simp
theorem mid_of (x : List Nat) (as : List (List Nat)) : mid (x :: (as ++ [[]])) = as := by
  unfold mid
  rw [List.drop_succ_cons, List.drop_zero, List.dropLast_concat]
theorem adr_no {a : List Nat} (h : isAdr a = true) {c : Nat} (hc : c ∉ hexS) : c ∉ a := fun z => by
  unfold isAdr at h
  rw [Bool.and_eq_true] at h
  exact hc (of_decide_eq_true (List.all_eq_true.mp h.2 c z))
theorem adr_len {a : List Nat} (h : isAdr a = true) : a.length = 16 := by
  unfold isAdr at h
  rw [Bool.and_eq_true] at h
  exact beq_iff_eq.mp h.1
theorem plat_no {a : List Nat} (h : isPlat a = true) {c : Nat} (hc : c ∉ lowS) : c ∉ a := fun z => by
  unfold isPlat at h
  rw [Bool.and_eq_true] at h
  exact hc (of_decide_eq_true (List.all_eq_true.mp h.2 c z))
theorem plat_len {a : List Nat} (h : isPlat a = true) : a.length ≤ 10 := by
  unfold isPlat at h
  rw [Bool.and_eq_true, Bool.and_eq_true] at h
  exact of_decide_eq_true h.1.2
theorem wd_pair {p a : List Nat} (hp : 32 ∉ p) (ha : 32 ∉ a) : wdL (p ++ [32] ++ a) = [p, a] := by
  unfold wdL
  have e : p ++ [32] ++ a = TL.joinL [32] [p, a] := by show _ = p ++ ([32] ++ a); rw [List.append_assoc]
  rw [e]
  refine TL.spl_join (by simp) fun q hq => ?_
  simp only [List.mem_cons, List.not_mem_nil, or_false] at hq
  rcases hq with rfl | rfl <;> assumption
theorem scan_img : ∀ {as : List (List Nat)} {s : List (List Nat)} {i : Nat}, (∀ a ∈ as, isAdr a = true) → scan false s i as = none
  | [], _, _, _ => rfl
  | a :: r, s, i, h => by
    unfold scan
    rw [if_pos (show okLine false s a = true from by unfold okLine; rw [if_neg (by decide)]; exact h a List.mem_cons_self)]
    exact scan_img fun b hb => h b (List.mem_cons_of_mem _ hb)
theorem fault3_of {h : List Nat} {t : List Nat} {as : List (List Nat)} (e : lnL t = h :: (as ++ [[]])) : fault3 h t = if 50 < as.length then some 51 else none := by
  unfold fault3
  have h1 : (lnL t).getD 0 [] = h := by rw [e]; rfl
  have hl : (lnL t).length = as.length + 2 := by rw [e]; simp
  have h2 : (lnL t).getD ((lnL t).length - 1) [] = [] := by
    rw [hl, e, List.getD_eq_getElem?_getD, show as.length + 2 - 1 = as.length + 1 from rfl, List.getElem?_cons_succ, List.getElem?_append_right (Nat.le_refl _), Nat.sub_self]
    rfl
  rw [if_neg (fun z => z h1), if_neg (fun z => z h2), hl]
  by_cases hh : 50 < as.length
  · rw [if_pos hh, if_pos (by omega)]
  · rw [if_neg hh, if_neg (by omega)]
theorem fault_img {as : List (List Nat)} (h : ∀ a ∈ as, isAdr a = true) (hl : as.length ≤ 50) : fault false (imgL as) = none ∧ mid (lnL (imgL as)) = as := by
  have e := ln_imgL fun a ha => adr_no (h a ha) (c := 10) (by decide)
  have e3 := fault3_of e
  rw [if_neg (by omega)] at e3
  have em : mid (lnL (imgL as)) = as := by rw [e, mid_of]
  refine ⟨?_, em⟩
  rw [fault_scan (b := false) e3 (fun z => by cases z.1), em]
  exact scan_img h
theorem fault_img51 {as : List (List Nat)} (h : ∀ a ∈ as, isAdr a = true) (hl : as.length = 51) : fault false (imgL as) = some 51 := by
  have e := ln_imgL fun a ha => adr_no (h a ha) (c := 10) (by decide)
  have e3 := fault3_of e
  rw [if_pos (by omega)] at e3
  exact fault_of3 (b := false) e3
/-- pairs that a bundle may have -/
structure WFB (ps : List (List Nat × List Nat)) : Prop where
  all : ∀ e ∈ ps, isPlat e.1 = true ∧ isAdr e.2 = true
  nd : (ps.map (·.1)).Nodup
  ne : ps ≠ []
  le : ps.length ≤ 50
theorem w0_pair {e : List Nat × List Nat} (h : isPlat e.1 = true ∧ isAdr e.2 = true) : w0 (e.1 ++ [32] ++ e.2) = e.1 := by
  unfold w0
  rw [wd_pair (plat_no h.1 (by decide)) (adr_no h.2 (by decide))]
  rfl
theorem w1_pair {e : List Nat × List Nat} (h : isPlat e.1 = true ∧ isAdr e.2 = true) : w1 (e.1 ++ [32] ++ e.2) = e.2 := by
  unfold w1
  rw [wd_pair (plat_no h.1 (by decide)) (adr_no h.2 (by decide))]
  rfl
theorem scan_bun : ∀ {ps : List (List Nat × List Nat)} {s : List (List Nat)} {i : Nat}, (∀ e ∈ ps, isPlat e.1 = true ∧ isAdr e.2 = true) → (ps.map (·.1)).Nodup → (∀ e ∈ ps, e.1 ∉ s) → scan true s i (ps.map fun e => e.1 ++ [32] ++ e.2) = none
  | [], _, _, _, _, _ => rfl
  | e :: r, s, i, h, hn, hs => by
    have he := h e List.mem_cons_self
    rw [List.map_cons, List.nodup_cons] at hn
    rw [List.map_cons]
    unfold scan
    have e0 := w0_pair he
    have e1 := w1_pair he
    have ew : (wdL (e.1 ++ [32] ++ e.2)).length = 2 := by rw [wd_pair (plat_no he.1 (by decide)) (adr_no he.2 (by decide))]; rfl
    rw [if_pos (show okLine true s (e.1 ++ [32] ++ e.2) = true from by
      unfold okLine
      rw [if_pos rfl, decide_eq_true ew, e0, e1, he.1, he.2, decide_eq_false (hs e List.mem_cons_self)]
      rfl)]
    rw [e0]
    refine scan_bun (fun b hb => h b (List.mem_cons_of_mem _ hb)) hn.2 fun b hb z => ?_
    rcases List.mem_append.mp z with y | y
    · exact hs b (List.mem_cons_of_mem _ hb) y
    · exact hn.1 (by rw [← List.mem_singleton.mp y]; exact List.mem_map.mpr ⟨b, hb, rfl⟩)
theorem fault_bun {ps : List (List Nat × List Nat)} (W : WFB ps) : fault true (bunL ps) = none ∧ prs (bunL ps) = ps := by
  have e := ln_bunL fun p hp => ⟨plat_no (W.all p hp).1 (c := 10) (by decide), adr_no (W.all p hp).2 (c := 10) (by decide)⟩
  have e3 := fault3_of e
  rw [List.length_map, if_neg (by have := W.le; omega)] at e3
  have em : mid (lnL (bunL ps)) = ps.map fun p => p.1 ++ [32] ++ p.2 := by rw [e, mid_of]
  refine ⟨?_, ?_⟩
  · rw [fault_scan (b := true) e3 (fun z => ?_), em]
    · exact scan_bun W.all W.nd (fun _ _ z => nomatch z)
    · have := z.2
      rw [e] at this
      simp at this
      exact W.ne this
  · unfold prs
    rw [em, List.map_map]
    conv => rhs; rw [← List.map_id ps]
    refine List.map_congr_left fun p hp => ?_
    show (w0 _, w1 _) = p
    rw [w0_pair (W.all p hp), w1_pair (W.all p hp)]
end Lw

namespace Lw
open PySem L2
theorem op_inK {X : Cx} (K : PySem.W.Frag) (h : X.K = K) : OpR X (compareOp .In) (rIn K false) := by subst h; exact op_in_seq
theorem op_notInK {X : Cx} (K : PySem.W.Frag) (h : X.K = K) : OpR X (compareOp .NotIn) (rIn K true) := by subst h; exact op_notIn_seq
/-- a comprehension whose items are drawn and hang on the heap (on tuples alone) -/
theorem lc_drawR {J : It} {xs : List V} {vs : List Nat} {σ : L2.St} {te : TE} {j : Nat} {Q : VK} {c : Addr → Nat} {H : Hp} {S : Addr} (w : Walk J xs.length (fun _ => True) (YAt xs)) (hz : xs.length ≤ 100000) (R : Nat → V → Hp → Prop)
    (mono : ∀ i y H1 H2, (∀ b ys, H1 b = some (.tup ys) → H2 b = some (.tup ys)) → R i y H1 → R i y H2) (hS : StateAt c H S) (hw : ∀ x, wipe ((wipe σ vs).set j (some x)) vs = wipe σ vs)
    (he : ∀ (i : Nat) (x : V) (c1 : Addr → Nat) (H1 : Hp) (Rk : VK), xs[i]? = some x → StateAt c1 H1 S → Stp (fun i => i = 0) c c1 H H1 → (∀ (y : V) (c2 : Addr → Nat) (H2 : Hp), R i y H2 → StateAt c2 H2 S → Stp (fun i => i = 0) c1 c2 H1 H2 → Rk y H2) → te ((wipe σ vs).set j (some x)) H1 Rk)
    (k : ∀ (q : Addr) (ys : List V) (c' : Addr → Nat) (H' : Hp), H q = none → ys.length = xs.length → (∀ (i : Nat) (y : V), ys[i]? = some y → R i y H') → StateAt c' H' S → Stp (fun i => i = 0) c c' H H' → H' q = some (.lst ys) → c' q = 9 → Q (.ref q) H') : kLc (gName j) tYes te vs σ Q J H := by
  intro D hD
  refine lc_it w (fun i H2 => ∃ (l : List V) (c2 : Addr → Nat), l.length = i ∧ (∀ (m : Nat) (y : V), l[m]? = some y → R m y H2) ∧ StateAt c2 H2 S ∧ Stp (fun i => i = 0) c c2 H H2 ∧ c2 D = 9 ∧ H2 D = some (.lst l))
    ⟨[], Stp.paint c D 9, rfl, (fun m y h => (by cases h)), hS.frame (I := fun _ => False) (Stp.newc hD) (by decide), Stp.newc hD, Stp.paint_same, upd_same⟩ (fun _ _ _ _ => trivial) (fun i x H2 H2' hi h y => ?_) (fun H2 h => ?_)
  · obtain ⟨e, hx⟩ := y
    subst e
    obtain ⟨l, c2, h1, h2, S2, st2, cD, hl⟩ := h
    refine ⟨hw x, ?_⟩
    show te _ H2' _
    refine he i x c2 H2' _ hx S2 st2 fun a c3 H3 ga S3 st3 => ?_
    have hD3 := st3.keep _ _ hl (by rw [cD]; decide)
    have tk : ∀ b zs, H3 b = some (.tup zs) → (upd H3 D (.lst (l ++ [a]))) b = some (.tup zs) := fun b zs e => by rw [upd_ne (ne_of e hD3 (by intro z; cases z))]; exact e
    refine ⟨l, hD3, ?_, l ++ [a], c3, by rw [List.length_append, h1]; rfl, fun m y hm => ?_, S3.frame (I := fun i => i = 9) (Stp.own hD3 (by rw [st3.col _ _ hl, cD]) (fun xs z => by cases z)) (by decide), ?_, by rw [st3.col _ _ hl, cD], upd_same⟩
    · rw [h1]
      exact Nat.lt_of_lt_of_le (show i < 200000 by omega) (by decide)
    · by_cases hj : m < l.length
      · rw [List.getElem?_append_left hj] at hm
        exact mono _ _ _ _ (fun b zs e => tk b zs (st3.tup _ _ e)) (h2 m y hm)
      · rw [List.getElem?_append_right (by omega)] at hm
        cases hq : m - l.length with
        | zero =>
          rw [hq] at hm
          cases hm
          have : m = i := by omega
          subst this
          exact mono _ _ _ _ tk ga
        | succ n => rw [hq] at hm; cases hm
    · have st4 := st2.trans st3
      exact ⟨fun b o e n => by rw [upd_ne (ne_of_none e hD)]; exact st4.keep b o e n, st4.col, fun b xs e => by rw [upd_ne (ne_of_none e hD)]; exact st4.tup b xs e, fun b e => by
        by_cases z : b = D
        · subst z; rw [upd_same] at e; cases e
        · rw [upd_ne z] at e; exact st4.fre b e⟩
  · obtain ⟨l, c2, h1, h2, S2, st2, cD, hl⟩ := h
    exact k D l c2 H2 hD h1 h2 S2 st2 hl cD
theorem choose_list {α : Type} {F : α → V} : ∀ {ys : List V} {P : Nat → α → Prop}, (∀ i y, ys[i]? = some y → ∃ a, y = F a ∧ P i a) → ∃ as : List α, ys = as.map F ∧ ∀ i a, as[i]? = some a → P i a
  | [], _, _ => ⟨[], rfl, fun i a h => by cases h⟩
  | y :: ys, P, h => by
    obtain ⟨a, e, p⟩ := h 0 y rfl
    obtain ⟨as, e2, p2⟩ := choose_list (ys := ys) (P := fun i => P (i + 1)) fun i z hz => h (i + 1) z hz
    refine ⟨a :: as, by rw [List.map_cons, e, e2], fun i b hb => ?_⟩
    cases i with
    | zero => cases hb; exact p
    | succ i => exact p2 i b hb
end Lw

/-! ## signs -/
namespace Lw
open PySem L2
open PyProof.Rows (envOfC)
def okC (l : List Nat) : Prop := ∀ c ∈ l, c < 0x110000
theorem spl_chars (s : List Nat) : ∀ (l : List Nat) (k : Nat) (acc : List Nat), ∀ p ∈ TL.spl s k acc l, ∀ c ∈ p, c ∈ acc ∨ c ∈ l
  | [], k, acc, p, h, c, hc => by
    simp [TL.spl] at h
    subst h
    exact .inl hc
  | x :: r, 0, acc, p, h, c, hc => by
    unfold TL.spl at h
    split at h
    · rcases List.mem_cons.mp h with z | z
      · subst z; exact .inl hc
      · rcases spl_chars s r _ _ p z c hc with y | y
        · cases y
        · exact .inr (List.mem_cons_of_mem _ y)
    · rcases spl_chars s r _ _ p h c hc with y | y
      · rcases List.mem_append.mp y with u | u
        · exact .inl u
        · rw [List.mem_singleton.mp u]; exact .inr List.mem_cons_self
      · exact .inr (List.mem_cons_of_mem _ y)
  | x :: r, k + 1, acc, p, h, c, hc => by
    unfold TL.spl at h
    rcases spl_chars s r _ _ p h c hc with y | y
    · exact .inl y
    · exact .inr (List.mem_cons_of_mem _ y)
theorem ln_okC {t p : List Nat} (h : okC t) (hp : p ∈ lnL t) : okC p := fun c hc => by
  rcases spl_chars _ _ _ _ p hp c hc with z | z
  · cases z
  · exact h c z
theorem wd_okC {t p : List Nat} (h : okC t) (hp : p ∈ wdL t) : okC p := fun c hc => by
  rcases spl_chars _ _ _ _ p hp c hc with z | z
  · cases z
  · exact h c z
theorem okS {l : List Nat} (h : okC l) : PyData.strOk (SX.S l) = true := by
  unfold PyData.strOk
  rw [← Array.all_toList, List.all_eq_true]
  intro c hc
  exact decide_eq_true (h c hc)
theorem sh_strs : ∀ (as : List (List Nat)), (∀ a ∈ as, okC a) → PyData.canLayAll0 (as.map fun a => PyData.str (SX.S a)) = true ∧ PyData.depthAll (as.map fun a => PyData.str (SX.S a)) = 0
  | [], _ => ⟨rfl, rfl⟩
  | a :: r, h => by
    obtain ⟨h1, h2⟩ := sh_strs r fun b hb => h b (List.mem_cons_of_mem _ hb)
    have h3 := okS (h a List.mem_cons_self)
    refine ⟨?_, ?_⟩
    · simp only [List.map_cons, PyData.canLayAll0, PyData.canLay0, h1, h3, Bool.and_true]
    · simp only [List.map_cons, PyData.depthAll, PyData.depth, h2, Nat.max_self]
theorem shaped_strs {as : List (List Nat)} (h : ∀ a ∈ as, okC a) : SeqAt.shaped (.list (as.map fun a => PyData.str (SX.S a))) = true := by
  obtain ⟨h1, h2⟩ := sh_strs as h
  unfold SeqAt.shaped
  rw [Bool.and_eq_true, decide_eq_true_eq]
  exact ⟨h1, by simp only [PyData.depth, h2]; decide⟩
theorem dp_strs {K : PySem.W.Frag} {H : Hp} : ∀ (as : List (List Nat)), DpAll K H (as.map strS) (as.map fun a => PyData.str (SX.S a))
  | [] => .nil
  | _ :: r => .cons (.str _) (dp_strs r)
theorem dp_list {K : PySem.W.Frag} {H : Hp} {q : Addr} {as : List (List Nat)} (h : H q = some (.lst (as.map strS))) : Dp K H (.ref q) (.list (as.map fun a => PyData.str (SX.S a))) := .lst (SqL.of h) (dp_strs as)
theorem adr_okC {a : List Nat} (h : isAdr a = true) : okC a := fun c hc => by
  unfold isAdr at h
  rw [Bool.and_eq_true] at h
  have h2 := of_decide_eq_true (List.all_eq_true.mp h.2 c hc)
  have : ∀ c ∈ hexS, c < 0x110000 := by decide
  exact this c h2
theorem plat_okC {a : List Nat} (h : isPlat a = true) : okC a := fun c hc => by
  unfold isPlat at h
  rw [Bool.and_eq_true] at h
  have h2 := of_decide_eq_true (List.all_eq_true.mp h.2 c hc)
  have : ∀ c ∈ lowS, c < 0x110000 := by decide
  exact this c h2
theorem okC_app {a b : List Nat} (h1 : okC a) (h2 : okC b) : okC (a ++ b) := fun c hc => (List.mem_append.mp hc).elim (h1 c) (h2 c)
theorem okC_flat {l : List (List Nat)} (h : ∀ a ∈ l, okC a) : okC l.flatten := fun c hc => by
  obtain ⟨a, ha, hc⟩ := List.mem_flatten.mp hc
  exact h a ha c hc
theorem img_t {as : List (List Nat)} (h : ∀ a ∈ as, isAdr a = true) (hl : as.length ≤ 51) : okC (imgL as) ∧ (imgL as).length ≤ 10000 := by
  unfold imgL
  refine ⟨okC_app (show ∀ c ∈ imgH, c < 0x110000 by decide) (okC_flat fun x hx => ?_), ?_⟩
  · obtain ⟨a, ha, rfl⟩ := List.mem_map.mp hx
    exact okC_app (adr_okC (h a ha)) (show ∀ c ∈ [10], c < 0x110000 by decide)
  · rw [List.length_append]
    have := flat_le (l := as.map fun a => a ++ [10]) (m := 17) fun x hx => by
      obtain ⟨a, ha, rfl⟩ := List.mem_map.mp hx
      rw [List.length_append, adr_len (h a ha)]
      decide
    rw [List.length_map] at this
    have h6 : imgH.length = 6 := rfl
    omega
theorem bun_t {ps : List (List Nat × List Nat)} (W : WFB ps) : okC (bunL ps) ∧ (bunL ps).length ≤ 10000 := by
  unfold bunL
  refine ⟨okC_app (show ∀ c ∈ bunH, c < 0x110000 by decide) (okC_flat fun x hx => ?_), ?_⟩
  · obtain ⟨e, he, rfl⟩ := List.mem_map.mp hx
    obtain ⟨h1, h2⟩ := W.all e he
    exact okC_app (okC_app (okC_app (plat_okC h1) (show ∀ c ∈ [32], c < 0x110000 by decide)) (adr_okC h2)) (show ∀ c ∈ [10], c < 0x110000 by decide)
  · rw [List.length_append]
    have := flat_le (l := ps.map fun e => e.1 ++ [32] ++ e.2 ++ [10]) (m := 28) fun x hx => by
      obtain ⟨e, he, rfl⟩ := List.mem_map.mp hx
      obtain ⟨h1, h2⟩ := W.all e he
      simp only [List.length_append, List.length_cons, List.length_nil]
      have := plat_len h1
      have := adr_len h2
      omega
    rw [List.length_map] at this
    have h7 : bunH.length = 7 := rfl
    have := W.le
    omega
end Lw

/-! ## the store -/
namespace Lw
open PySem L2
open PyProof.Rows (envOfC sortedS)
inductive Kd | lay | img | bun
  deriving DecidableEq
def Kd.s : Kd → Str
  | .lay => "layer" | .img => "image" | .bun => "bundle"
def Kd.rk : Kd → Nat
  | .lay => 0 | .img => 1 | .bun => 2
/-- the kind below -/
def Kd.lo : Kd → Option Kd
  | .lay => none | .img => some .lay | .bun => some .img
theorem Kd.s_inj {a b : Kd} : a.s = b.s ↔ a = b := by
  constructor
  · intro h
    cases a <;> cases b <;> first | rfl | exact absurd h (by decide +kernel)
  · intro h; rw [h]
theorem Kd.s_kind (a : Kd) : a.s ∈ kinds3 := by cases a <;> decide +kernel
theorem Kd.s_ok (a : Kd) : PyData.strOk a.s = true := by cases a <;> decide +kernel
theorem Kd.lo_rk {a b : Kd} (h : a.lo = some b) : b.rk < a.rk := by
  cases a <;> cases h <;> decide
structure Bl where
  k : Kd
  t : List Nat
  deriving DecidableEq
def Bl.refs (b : Bl) : List (List Nat) := refsL b.k.s b.t
structure Bl.Ok (b : Bl) : Prop where
  f : faultK b.k.s b.t = none
  l : b.t.length ≤ 10000
  c : okC b.t
def adrB (b : Bl) : Str := SX.S (adrL b.k.s b.t)
def putS (ks : List Str) (a : Str) : List Str := if a ∈ ks then ks else ks ++ [a]
def updB (B : Str → Bl) (a : Str) (b : Bl) : Str → Bl := fun x => if x = a then b else B x
theorem updB_same {B : Str → Bl} {a : Str} {b : Bl} : updB B a b a = b := if_pos rfl
theorem updB_ne {B : Str → Bl} {a x : Str} {b : Bl} (h : x ≠ a) : updB B a b x = B x := if_neg h
theorem mem_putS {ks : List Str} {a x : Str} : x ∈ putS ks a ↔ x ∈ ks ∨ x = a := by
  unfold putS
  split
  · rename_i h
    exact ⟨.inl, fun z => z.elim id fun e => by rw [e]; exact h⟩
  · rw [List.mem_append, List.mem_singleton]
theorem putS_nd {ks : List Str} {a : Str} (h : ks.Nodup) : (putS ks a).Nodup := by
  unfold putS
  split
  · exact h
  · rename_i z
    rw [List.nodup_append]
    exact ⟨h, by simp, fun x hx y hy e => z (by rw [← List.mem_singleton.mp hy, ← e]; exact hx)⟩
theorem putS_len {ks : List Str} {a : Str} : (putS ks a).length ≤ ks.length + 1 := by
  unfold putS
  split
  · omega
  · rw [List.length_append]; exact Nat.le_refl _
theorem putK_S {ks : List Str} {A : Str → V} {a : Str} {v : V} : putK (mkS ks A) (kS a) v = mkS (putS ks a) (fun j => if j = a then v else A j) := by
  unfold putS
  split
  · rename_i h; exact putK_mkS_old h
  · rename_i h; exact putK_mkS_new h
/-- a dict d of the blobs B at the addresses ks; A: where their pairs lie -/
def BlobD (H : Hp) (d : Addr) (ks : List Str) (B : Str → Bl) : Prop := ∃ A : Str → Addr, H d = some (.dK (mkS ks fun a => .ref (A a))) ∧ ∀ a ∈ ks, H (A a) = some (.tup [.str (B a).k.s, strS (B a).t])
theorem BlobD.tup {H H' : Hp} {d : Addr} {ks : List Str} {B : Str → Bl} (h : BlobD H d ks B) (h1 : H' d = H d) (h2 : ∀ b xs, H b = some (.tup xs) → H' b = some (.tup xs)) : BlobD H' d ks B := by
  obtain ⟨A, a1, a2⟩ := h
  exact ⟨A, by rw [h1]; exact a1, fun a ha => h2 _ _ (a2 a ha)⟩
theorem BlobD.same {H H' : Hp} {d : Addr} {ks : List Str} {B : Str → Bl} (h : BlobD H d ks B) (s : Same H H') : BlobD H' d ks B := by
  obtain ⟨A, a1, a2⟩ := id h
  exact h.tup (by rw [a1]; exact s.at a1) fun b xs e => s.at e
/-- the dict behind d[a] = (kind, text) -/
theorem BlobD.put {H H' : Hp} {d t : Addr} {ks : List Str} {B : Str → Bl} {b : Bl} {a : Str} {A : Str → Addr} (h1 : H d = some (.dK (mkS ks fun a => .ref (A a)))) (h2 : ∀ a ∈ ks, H (A a) = some (.tup [.str (B a).k.s, strS (B a).t])) (ht : H t = some (.tup [.str b.k.s, strS b.t]))
    (hd : H' d = some (.dK (putK (mkS ks fun a => .ref (A a)) (kS a) (.ref t)))) (k : ∀ x, x ≠ d → H' x = H x) : BlobD H' d (putS ks a) (updB B a b) := by
  refine ⟨fun x => if x = a then t else A x, ?_, fun x hx => ?_⟩
  · rw [hd, putK_S]
    congr 2
    refine mkS_congr fun j _ => ?_
    dsimp only
    split <;> rfl
  · dsimp only
    by_cases e : x = a
    · subst e
      rw [if_pos rfl, updB_same, k t (ne_of ht h1 (by intro z; cases z))]
      exact ht
    · rw [if_neg e, updB_ne e]
      have hk : x ∈ ks := (mem_putS.mp hx).resolve_right e
      have := h2 x hk
      rw [k _ (ne_of this h1 (by intro z; cases z))]
      exact this
theorem BlobD.del {H H' : Hp} {d : Addr} {ks : List Str} {B : Str → Bl} {a : Str} {A : Str → Addr} (h1 : H d = some (.dK (mkS ks fun a => .ref (A a)))) (h2 : ∀ a ∈ ks, H (A a) = some (.tup [.str (B a).k.s, strS (B a).t]))
    (hd : H' d = some (.dK (dropK (mkS ks fun a => .ref (A a)) (kS a)))) (k : ∀ x, x ≠ d → H' x = H x) : BlobD H' d (ks.filter fun j => decide (j ≠ a)) B := by
  refine ⟨A, by rw [hd, dropK_mkS], fun x hx => ?_⟩
  have := h2 x (List.mem_filter.mp hx).1
  rw [k _ (ne_of this h1 (by intro z; cases z))]
  exact this
structure StoreAt (C : Addr) (c : Addr → Nat) (H : Hp) (p : Addr) (ks : List Str) (B : Str → Bl) : Prop where
  ex : ∃ (dx d : Addr), c p = 1 ∧ H p = some (.ins C dx (f_Store (.ref d))) ∧ c d = 1 ∧ BlobD H d ks B
theorem StoreAt.frame {I : Nat → Prop} {C : Addr} {c c' : Addr → Nat} {H H' : Hp} {p : Addr} {ks : List Str} {B : Str → Bl} (h : StoreAt C c H p ks B) (s : Stp I c c' H H') (hi : ¬ I 1) : StoreAt C c' H' p ks B := by
  obtain ⟨dx, d, h1, h2, h3, A, h4, h5⟩ := h.ex
  exact ⟨dx, d, by rw [s.col _ _ h2, h1], s.keep _ _ h2 (by rw [h1]; exact hi), by rw [s.col _ _ h4, h3], A, s.keep _ _ h4 (by rw [h3]; exact hi), fun a ha => s.tup _ _ (h5 a ha)⟩
theorem StoreAt.same {C : Addr} {c : Addr → Nat} {H H' : Hp} {p : Addr} {ks : List Str} {B : Str → Bl} (h : StoreAt C c H p ks B) (s : Same H H') : StoreAt C c H' p ks B := h.frame (Stp.same (I := fun _ => False) s) (fun z => z)
/-- the blobs below are there, of the kind below, and whole -/
def wh (ks : List Str) (B : Str → Bl) : Nat → Str → Bool
  | 0, _ => false
  | n + 1, a => decide (a ∈ ks) && (B a).refs.all fun r => decide (SX.S r ∈ ks) && (decide ((B a).k.lo = some (B (SX.S r)).k) && wh ks B n (SX.S r))
def addD (l : List Str) (x : Str) : List Str := if x ∈ l then l else l ++ [x]
def clo (B : Str → Bl) : Nat → Str → List Str
  | 0, a => [a]
  | n + 1, a => (B a).refs.foldl (fun f r => (clo B n (SX.S r)).foldl addD f) [a]
structure SWf (ks : List Str) (B : Str → Bl) : Prop where
  nd : ks.Nodup
  ok : ∀ a ∈ ks, (B a).Ok
theorem SWf.put {ks : List Str} {B : Str → Bl} (h : SWf ks B) {a : Str} {b : Bl} (hb : b.Ok) : SWf (putS ks a) (updB B a b) := by
  refine ⟨putS_nd h.nd, fun x hx => ?_⟩
  by_cases e : x = a
  · subst e; rw [updB_same]; exact hb
  · rw [updB_ne e]; exact h.ok x ((mem_putS.mp hx).resolve_right e)
theorem SWf.del {ks : List Str} {B : Str → Bl} (h : SWf ks B) (a : Str) : SWf (ks.filter fun j => decide (j ≠ a)) B := ⟨h.nd.filter _, fun x hx => h.ok x (List.mem_filter.mp hx).1⟩
theorem refs_lay {b : Bl} (h : b.k = .lay) : b.refs = [] := by
  unfold Bl.refs refsL
  rw [h]
  exact if_pos rfl
theorem fault_lay (t : List Nat) : faultK "layer" t = none := if_pos rfl
theorem refs_len {b : Bl} (h : b.Ok) : b.refs.length ≤ 10001 := by
  have h1 := ln_le b.t
  have h2 := h.l
  have h3 := mid_len (lnL b.t)
  unfold Bl.refs refsL prs
  split
  · exact Nat.zero_le _
  · split
    · omega
    · rw [List.length_map, List.length_map]; omega
theorem dec_in {ks : List Str} {A : Str → V} {a : Str} : (valV (mkS ks A) (kS a)).isSome = decide (a ∈ ks) := by
  rw [valV_mkS]
  by_cases h : a ∈ ks
  · rw [if_pos h, decide_eq_true h]; rfl
  · rw [if_neg h, decide_eq_false h]; rfl
def spSInit (C : Addr) : Sp := fun vs H Q _ => ∃ (p dx : Addr), vs = [.ref p] ∧ H p = some (.ins C dx []) ∧
  ∀ d H', H d = none → H' p = some (.ins C dx (f_Store (.ref d))) → H' d = some (.dK []) → (∀ b o, H b = some o → b ≠ p → H' b = some o) → Q .non H'
def spKeep (C : Addr) : Sp := fun vs H Q _ => ∃ (c : Addr → Nat) (p : Addr) (ks : List Str) (B : Str → Bl) (b : Bl), vs = [.ref p, .str b.k.s, .str (SX.S b.t)] ∧ StoreAt C c H p ks B ∧ ks.length ≤ 10000 ∧
  ∀ H', StoreAt C c H' p (putS ks (adrB b)) (updB B (adrB b) b) → Stp (fun i => i = 1) c c H H' → Q (.str (adrB b)) H'
def spBlob (C : Addr) : Sp := fun vs H Q _ => ∃ (c : Addr → Nat) (p : Addr) (ks : List Str) (B : Str → Bl) (a : Str), vs = [.ref p, .str a] ∧ StoreAt C c H p ks B ∧
  (a ∉ ks → Q .non H) ∧ (a ∈ ks → ∀ t, H t = some (.tup [.str (B a).k.s, strS (B a).t]) → Q (.ref t) H)
def spRemove (C : Addr) : Sp := fun vs H Q _ => ∃ (c : Addr → Nat) (p : Addr) (ks : List Str) (B : Str → Bl) (a : Str), vs = [.ref p, .str a] ∧ StoreAt C c H p ks B ∧ a ∈ ks ∧
  ∀ H', StoreAt C c H' p (ks.filter fun j => decide (j ≠ a)) B → Stp (fun i => i = 1) c c H H' → Q .non H'
def spAdrs (C : Addr) : Sp := fun vs H Q _ => ∃ (c : Addr → Nat) (p : Addr) (ks : List Str) (B : Str → Bl), vs = [.ref p] ∧ StoreAt C c H p ks B ∧ ks.length < 64 ∧
  ∀ (ys : List Str) (r : Addr) H', ys.Perm ks → sortedS ys = true → Same H H' → H' r = some (.lst (ys.map V.str)) → Q (.ref r) H'
def spBelow (C : Addr) : Sp := fun vs H Q _ => ∃ (c : Addr → Nat) (p : Addr) (ks : List Str) (B : Str → Bl) (a : Str), vs = [.ref p, .str a] ∧ StoreAt C c H p ks B ∧ SWf ks B ∧ a ∈ ks ∧
  ∀ r H', Same H H' → H' r = some (.lst ((B a).refs.map strS)) → Q (.ref r) H'
def spWhx (C : Addr) (n : Nat) : Sp := fun vs H Q _ => ∃ (c : Addr → Nat) (p : Addr) (ks : List Str) (B : Str → Bl) (a : Str), vs = [.ref p, .str a] ∧ StoreAt C c H p ks B ∧ SWf ks B ∧ (a ∈ ks → (B a).k.rk ≤ n) ∧
  ∀ H', Same H H' → Q (.bl (wh ks B (n + 1) a)) H'
def spClo (C : Addr) (n : Nat) : Sp := fun vs H Q _ => ∃ (c : Addr → Nat) (p : Addr) (ks : List Str) (B : Str → Bl) (a : Str), vs = [.ref p, .str a] ∧ StoreAt C c H p ks B ∧ SWf ks B ∧ a ∈ ks ∧ (B a).k.rk ≤ n ∧ wh ks B (n + 1) a = true ∧ ks.length ≤ 10000 ∧
  ∀ r H', Same H H' → H' r = some (.lst ((clo B n a).map V.str)) → Q (.ref r) H'
/-- as the call wants it -/
def WhC (C : Addr) (n : Nat) (sp : Sp) : Prop := ∀ (c : Addr → Nat) (H : Hp) (Q : VK) (p : Addr) (ks : List Str) (B : Str → Bl) (a : Str), StoreAt C c H p ks B → SWf ks B → a ∈ ks → (B a).k.rk < n → (∀ H', Same H H' → Q (.bl (wh ks B n a)) H') → sp [.ref p, .str a] H Q E0
def CloC (C : Addr) (n : Nat) (sp : Sp) : Prop := ∀ (c : Addr → Nat) (H : Hp) (Q : VK) (p : Addr) (ks : List Str) (B : Str → Bl) (a : Str), StoreAt C c H p ks B → SWf ks B → a ∈ ks → (B a).k.rk < n → wh ks B n a = true → ks.length ≤ 10000 → (∀ r H', Same H H' → H' r = some (.lst ((clo B (n - 1) a).map V.str)) → Q (.ref r) H') → sp [.ref p, .str a] H Q E0
theorem addD_nd {x : Str} : ∀ {l : List Str}, l.Nodup → (addD l x).Nodup := putS_nd
theorem foldl_addD_len : ∀ (l f : List Str), (l.foldl addD f).length ≤ f.length + l.length
  | [], f => Nat.le_refl _
  | x :: l, f => by
    have := foldl_addD_len l (addD f x)
    have h2 : (addD f x).length ≤ f.length + 1 := putS_len
    show (l.foldl addD (addD f x)).length ≤ _
    rw [List.length_cons]; omega
theorem mem_foldl_addD : ∀ {l f : List Str} {y : Str}, y ∈ l.foldl addD f ↔ y ∈ f ∨ y ∈ l
  | [], f, y => by simp
  | x :: l, f, y => by
    show y ∈ l.foldl addD (addD f x) ↔ _
    rw [mem_foldl_addD, show y ∈ addD f x ↔ y ∈ f ∨ y = x from mem_putS, List.mem_cons]
    constructor
    · rintro ((h | h) | h)
      · exact .inl h
      · exact .inr (.inl h)
      · exact .inr (.inr h)
    · rintro (h | h | h)
      · exact .inl (.inl h)
      · exact .inl (.inr h)
      · exact .inr h
theorem foldl_addD_nd : ∀ {l f : List Str}, f.Nodup → (l.foldl addD f).Nodup
  | [], _, h => h
  | x :: l, f, h => foldl_addD_nd (l := l) (addD_nd h)
theorem clo_nd (B : Str → Bl) : ∀ (n : Nat) (a : Str), (clo B n a).Nodup
  | 0, a => by simp [clo]
  | n + 1, a => by
    unfold clo
    have : ∀ (rs : List (List Nat)) (f : List Str), f.Nodup → (rs.foldl (fun f r => (clo B n (SX.S r)).foldl addD f) f).Nodup := by
      intro rs
      induction rs with
      | nil => intro f h; exact h
      | cons r rs ih => intro f h; exact ih _ (foldl_addD_nd h)
    exact this _ _ (by simp)
/-- all of a whole blob's closure is there -/
theorem clo_mem {ks : List Str} {B : Str → Bl} : ∀ {n : Nat} {a : Str}, wh ks B (n + 1) a = true → ∀ x ∈ clo B n a, x ∈ ks
  | 0, a, h, x, hx => by
    simp only [clo, List.mem_singleton] at hx
    subst hx
    unfold wh at h
    rw [Bool.and_eq_true, decide_eq_true_eq] at h
    exact h.1
  | n + 1, a, h, x, hx => by
    unfold wh at h
    rw [Bool.and_eq_true, decide_eq_true_eq, List.all_eq_true] at h
    unfold clo at hx
    have : ∀ (rs : List (List Nat)) (f : List Str), (∀ r ∈ rs, wh ks B (n + 1) (SX.S r) = true) → (∀ y ∈ f, y ∈ ks) → ∀ y ∈ rs.foldl (fun f r => (clo B n (SX.S r)).foldl addD f) f, y ∈ ks := by
      intro rs
      induction rs with
      | nil => intro f _ hf; exact hf
      | cons r rs ih =>
        intro f hr hf
        refine ih _ (fun z hz => hr z (List.mem_cons_of_mem _ hz)) fun y hy => ?_
        rcases mem_foldl_addD.mp hy with z | z
        · exact hf y z
        · exact clo_mem (hr r List.mem_cons_self) y z
    refine this _ _ (fun r hr => ?_) (fun y hy => by rw [List.mem_singleton.mp hy]; exact h.1) x hx
    have := h.2 r hr
    rw [Bool.and_eq_true, Bool.and_eq_true] at this
    exact this.2.2
theorem few_len {l ks : List Str} (h : l.Nodup) (h2 : ∀ x ∈ l, x ∈ ks) : l.length ≤ ks.length := nodup_few h h2
section
variable {P : Program} {w : World} {K : PySem.W.Frag} {mg : Str → Option Value} {base : Heap} {C_Store C_Refused C_Malformed a_KINDS a_BELOW : Addr}
theorem ok_Store___init__ (T : Txt w K mg C_Store C_Refused C_Malformed a_KINDS a_BELOW) : Mak P w K mg base 1 "Store" C_Store (spSInit C_Store) := by
  refine mak_mk T.i_Store sc_Store___init__ (fun vs H Q E h => ?_) (fun f cdv A outer s H vs Q E hr h => ?_)
  · obtain ⟨p, dx, rfl, _⟩ := h
    rfl
  · obtain ⟨p, dx, rfl, hp, k⟩ := h
    refine ⟨_, (pss_one (ps_fld (pv 0) (pe_dnewK) rfl)), ?_⟩
    walk_at "lw"
    refine g_dnew fun d H1 nd s1 hd => ?_
    have hp1 := s1.at hp
    walk_at "lw"
    refine g_rsfld hp1 T.cl_Store T.na_Store_blobs (by show 0 < 1000; decide) fun H2 p2 k2 => ?_
    rw [f_Store_mk] at p2
    walk_at "lw"
    exact k d H2 nd p2 (by rw [k2 d (ne_of hp1 hd (by intro z; cases z)).symm]; exact hd) fun b o e hb => by rw [k2 b hb]; exact s1.at e
theorem ok_Store_keep (T : Txt w K mg C_Store C_Refused C_Malformed a_KINDS a_BELOW) : Met P w K mg base 2 C_Store "keep" (spKeep C_Store) := by
  have c_address_of : Cal P w K mg base 1 "address_of" spAddr := ok_address_of T
  refine met_mk T.cl_Store T.m_Store_keep sc_Store_keep (fun vs H Q E h => ?_) (fun f cdv A outer s H vs Q E hr h => ?_)
  · obtain ⟨c, p, ks, B, b, rfl, _⟩ := h
    rfl
  · obtain ⟨c, p, ks, B, b, rfl, W, hl, k⟩ := h
    have hu := hu_of hr
    obtain ⟨dx, d, h1, h2, h3, A', h4, h5⟩ := W.ex
    refine ⟨_, (pss_cons (ps_set (i := 3) sc_Store_keep.nd rfl (by first | exact Or.inl rfl | exact Or.inr rfl) (pe_c c_address_of hr (by first | decide | omega) rfl (pa_cons (pv 1) (pa_cons (pv 2) pa_nil))))
      (pss_cons (ps_dput hu (pe_fld (pv 0) rfl) (pv 3) (pe_tup (pa_cons (pv 1) (pa_cons (pv 2) pa_nil))) rfl)
      (pss_one (ps_ret (pv 3))))), ?_⟩
    walk_at "lw"
    refine ⟨b.k.s, b.t, rfl, b.k.s_kind, ?_⟩
    walk_at "lw"
    refine g_ktup (by show 2 ≤ 100; decide) fun t H1 nt s1 ht => ?_
    have h21 := s1.at h2
    have h41 := s1.at h4
    have h51 : ∀ a ∈ ks, H1 (A' a) = some (.tup [.str (B a).k.s, strS (B a).t]) := fun a ha => s1.at (h5 a ha)
    walk_at "lw"
    refine g_rdputS h41 (by rw [mkS_len]; omega) fun H2 d2 k2 => ?_
    walk_at "lw"
    have hpd : p ≠ d := ne_of h21 h41 (by intro z; cases z)
    refine k H2 ⟨dx, d, h1, by rw [k2 p hpd]; exact h21, h3, BlobD.put h41 h51 ht d2 k2⟩ ((Stp.same s1).trans (Stp.ch h41 h3 (fun xs z => by cases z) d2 k2))
theorem ok_Store_blob (T : Txt w K mg C_Store C_Refused C_Malformed a_KINDS a_BELOW) : Met P w K mg base 1 C_Store "blob" (spBlob C_Store) := by
  refine met_mk T.cl_Store T.m_Store_blob sc_Store_blob (fun vs H Q E h => ?_) (fun f cdv A outer s H vs Q E hr h => ?_)
  · obtain ⟨c, p, ks, B, a, rfl, _⟩ := h
    rfl
  · obtain ⟨c, p, ks, B, a, rfl, W, k1, k2⟩ := h
    have hu := hu_of hr
    obtain ⟨dx, d, h1, h2, h3, A', h4, h5⟩ := W.ex
    refine ⟨_, (pss_one (ps_ret (pe_dget1 hu (pe_fld (pv 0) rfl) (pv 1) ⟨rfl, by rfl, rfl, rfl⟩))), ?_⟩
    walk_at "lw"
    refine g_risd (.of h4) ?_
    walk_at "lw"
    refine g_rdget1S (.of h4) ?_
    rw [valV_mkS]
    walk_at "lw"
    by_cases h : a ∈ ks
    · rw [if_pos h]
      exact k2 h _ (h5 a h)
    · rw [if_neg h]
      exact k1 h
theorem ok_Store_remove_blob (T : Txt w K mg C_Store C_Refused C_Malformed a_KINDS a_BELOW) : Met P w K mg base 1 C_Store "remove_blob" (spRemove C_Store) := by
  refine met_mk T.cl_Store T.m_Store_remove_blob sc_Store_remove_blob (fun vs H Q E h => ?_) (fun f cdv A outer s H vs Q E hr h => ?_)
  · obtain ⟨c, p, ks, B, a, rfl, _⟩ := h
    rfl
  · obtain ⟨c, p, ks, B, a, rfl, W, hm, k⟩ := h
    have hu := hu_of hr
    obtain ⟨dx, d, h1, h2, h3, A', h4, h5⟩ := W.ex
    refine ⟨_, (pss_one (ps_ddel (pe_fld (pv 0) rfl) (pv 1))), ?_⟩
    walk_at "lw"
    refine g_rddelS h4 (by rw [valV_mkS, if_pos hm]; rfl) fun H2 d2 k2 => ?_
    walk_at "lw"
    have hpd : p ≠ d := ne_of h2 h4 (by intro z; cases z)
    exact k H2 ⟨dx, d, h1, by rw [k2 p hpd]; exact h2, h3, BlobD.del h4 h5 d2 k2⟩ (Stp.ch h4 h3 (fun xs z => by cases z) d2 k2)
theorem ok_Store_addresses (T : Txt w K mg C_Store C_Refused C_Malformed a_KINDS a_BELOW) : Met P w K mg base 1 C_Store "addresses" (spAdrs C_Store) := by
  refine met_mk T.cl_Store T.m_Store_addresses sc_Store_addresses (fun vs H Q E h => ?_) (fun f cdv A outer s H vs Q E hr h => ?_)
  · obtain ⟨c, p, ks, B, rfl, _⟩ := h
    rfl
  · obtain ⟨c, p, ks, B, rfl, W, hl, k⟩ := h
    obtain ⟨dx, d, h1, h2, h3, A', h4, h5⟩ := W.ex
    refine ⟨_, (pss_one (ps_ret (pe_callB (call_sortedD rfl) (by rfl) T.n_sorted (by decide +kernel) (pa_cons (pe_fld (pv 0) rfl) pa_nil)))), ?_⟩
    walk_at "lw"
    exact ⟨d, _, ks, rfl, .of h4, mkS_keys, hl, fun ys r hp hs nr => k ys r _ hp hs (Same.new nr) upd_same⟩
theorem ok_Store_below (T : Txt w K mg C_Store C_Refused C_Malformed a_KINDS a_BELOW) : Met P w K mg base 6 C_Store "below" (spBelow C_Store) := by
  have c_references : CalX P w K mg base 5 "references" (spRefs C_Malformed) := ok_references T
  refine met_mk T.cl_Store T.m_Store_below sc_Store_below (fun vs H Q E h => ?_) (fun f cdv A outer s H vs Q E hr h => ?_)
  · obtain ⟨c, p, ks, B, a, rfl, _⟩ := h
    rfl
  · obtain ⟨c, p, ks, B, a, rfl, W, wf, hm, k⟩ := h
    have hu := hu_of hr
    obtain ⟨dx, d, h1, h2, h3, A', h4, h5⟩ := W.ex
    have ok := wf.ok a hm
    refine ⟨_, (pss_cons (ps_asg (pe_dget hu (pe_fld (pv 0) rfl) (pv 1) (fun _ _ => rfl)) (pg_tup (by rfl) (pgs_cons (pg_name (i := 2) sc_Store_below.nd rfl (by first | exact Or.inl rfl | exact Or.inr rfl)) (pgs_cons (pg_name (i := 3) sc_Store_below.nd rfl (by first | exact Or.inl rfl | exact Or.inr rfl)) pgs_nil))))
      (pss_one (ps_ret (pe_cX c_references takes0 hr (by first | decide | omega) rfl (pa_cons (pv 2) (pa_cons (pv 3) pa_nil)))))), ?_⟩
    walk_at "lw"
    refine g_rdgetS (.of h4) (by rw [valV_mkS, if_pos hm]) ?_
    refine g_gtup (SqT.of (h5 a hm)) rfl ?_
    walk_at "lw"
    refine ⟨(B a).k.s, (B a).t, rfl, by have := ok.l; omega, fun _ q H1 s1 hq => ?_, fun n hn => by rw [ok.f] at hn; cases hn⟩
    exact k q H1 s1 hq
theorem isw_step (T : Txt w K mg C_Store C_Refused C_Malformed a_KINDS a_BELOW) {n k' j : Nat} {sp' : Sp} (h6 : 6 ≤ j) (hk : k' ≤ j) (t_Store_is_whole : Met P w K mg base k' C_Store "is_whole" sp') (hs : WhC C_Store n sp') : Met P w K mg base (j + 1) C_Store "is_whole" (spWhx C_Store n) := by
  have t_Store_below : Met P w K mg base 6 C_Store "below" (spBelow C_Store) := ok_Store_below T
  refine met_mk T.cl_Store T.m_Store_is_whole sc_Store_is_whole (fun vs H Q E h => ?_) (fun f cdv A outer s H vs Q E hr h => ?_)
  · obtain ⟨c, p, ks, B, a, rfl, _⟩ := h
    rfl
  · obtain ⟨c, p, ks, B, a, rfl, W, wf, hrk, k⟩ := h
    have hu := hu_of hr
    obtain ⟨dx, d, h1, h2, h3, A', h4, h5⟩ := W.ex
    refine ⟨_, (pss_cons (ps_if (pt_cmp (pc_dnotin hu (pv 1) (pe_fld (pv 0) rfl))) (pss_one (ps_ret (pe_bl))) pss_nil)
      (pss_cons (ps_set (i := 2) sc_Store_is_whole.nd rfl (by first | exact Or.inl rfl | exact Or.inr rfl) (pe_ix ix_tup (pe_dget hu (pe_fld (pv 0) rfl) (pv 1) (fun _ _ => rfl)) (pe_int) (fun _ _ => rfl)))
      (pss_cons (ps_for PassesOwn.never rfl (pi_list (pe_mt t_Store_below hr (by first | decide | omega) (pv 0) (pa_cons (pv 1) pa_nil))) (pg_name (i := 3) sc_Store_is_whole.nd rfl (by first | exact Or.inl rfl | exact Or.inr rfl)) (pss_one (ps_if (PW.pt (pw_or (pt_cmp (pc_dnotin hu (pv 3) (pe_fld (pv 0) rfl))) (pw_or (pt_cmpR op_ne (pe_ix ix_tup (pe_dget hu (pe_fld (pv 0) rfl) (pv 3) (fun _ _ => rfl)) (pe_int) (fun _ _ => rfl)) (pe_ix ix_kdict (pe_gc rfl T.g_BELOW) (pv 2) (fun _ _ => rfl)) (nomark _)) (pw_or1 (pt_not (pt_val (pe_mt t_Store_is_whole hr (by first | decide | omega) (pv 0) (pa_cons (pv 3) pa_nil)))))))) (pss_one (ps_ret (pe_bl))) pss_nil)))
      (pss_one (ps_ret (pe_bl)))))), ?_⟩
    walk_at "lw"
    refine g_rdnotinS (.of h4) ?_
    rw [dec_in]
    walk_at "lw"
    refine ifn2 (fun hm => ?_) (fun hm => ?_)
    rotate_left
    · walk_at "lw"
      have k := k H (Same.refl _)
      unfold wh at k
      rw [decide_eq_false hm, Bool.false_and] at k
      exact k
    · have hrk := hrk hm
      walk_at "lw"
      refine g_rdgetS (.of h4) (by rw [valV_mkS, if_pos hm]) ?_
      walk_at "lw"
      refine g_rixT (SqT.of (h5 a hm)) (v := .str (B a).k.s) rfl ?_
      walk_at "lw"
      refine ⟨c, p, ks, B, a, rfl, W, wf, hm, fun r H1 s1 hr1 => ?_⟩
      have hrl := refs_len (wf.ok a hm)
      refine g_ritL (SqL.of hr1) ?_
      refine for_at (G := fun H' => SqL K H' r ((B a).refs.map strS)) walk_list (fun i σ H' => Same H1 H' ∧ (∀ x ∈ (B a).refs.take i, (decide (SX.S x ∈ ks) && (decide ((B a).k.lo = some (B (SX.S x)).k) && wh ks B n (SX.S x))) = true) ∧
        ∃ v : Option V, σ = [some (.ref p), some (.str a), some (.str (B a).k.s), v]) ⟨Same.refl _, (fun x hx => nomatch hx), none, rfl⟩ (fun i σ H' h => SqL.of (h.1.at hr1)) ?_ ?_
      · rintro i x σ H2 hx ⟨s2, hall, v, rfl⟩
        obtain ⟨y, hy, rfl⟩ := map_at hx
        have hi : i < (B a).refs.length := (List.getElem?_eq_some_iff.mp hy).1
        have s02 := s1.trans s2
        have h22 := s02.at h2
        have h42 := s02.at h4
        have W2 := W.same s02
        have bad : (decide (SX.S y ∈ ks) && (decide ((B a).k.lo = some (B (SX.S y)).k) && wh ks B n (SX.S y))) = false → ∀ H', Same H H' → Q (.bl false) H' := fun hb H' s' => by
          have k := k H' s'
          unfold wh at k
          rw [show (List.all (B a).refs fun r => decide (SX.S r ∈ ks) && (decide ((B a).k.lo = some (B (SX.S r)).k) && wh ks B n (SX.S r))) = false by
            rw [List.all_eq_false]
            exact ⟨y, List.mem_of_getElem? hy, by rw [hb]; decide⟩, Bool.and_false] at k
          exact k
        have hkd : (B a).k ≠ .lay := fun z => by
          rw [refs_lay z] at hi
          exact absurd hi (Nat.not_lt_zero _)
        obtain ⟨lo, hlo, hkb⟩ : ∃ lo : Kd, (B a).k.lo = some lo ∧ KDct K w a_BELOW (B a).k.s (.str lo.s) := by
          cases hq : (B a).k with
          | lay => exact absurd hq hkd
          | img => exact ⟨.lay, rfl, T.k_BELOW_image⟩
          | bun => exact ⟨.img, rfl, T.k_BELOW_bundle⟩
        walk_at "lw"
        refine g_rdnotinS (.of h42) ?_
        rw [dec_in]
        walk_at "lw"
        refine ifn2 (fun hm2 => ?_) (fun hm2 => ?_)
        · have h52 : H2 (A' (SX.S y)) = some (.tup [.str (B (SX.S y)).k.s, strS (B (SX.S y)).t]) := s02.at (h5 _ hm2)
          walk_at "lw"
          refine g_rdgetS (.of h42) (by rw [valV_mkS, if_pos hm2]) ?_
          walk_at "lw"
          refine g_rixT (SqT.of h52) (j := 0) (v := .str (B (SX.S y)).k.s) rfl ?_
          walk_at "lw"
          refine ⟨a_BELOW, (B a).k.s, .str lo.s, rfl, rfl, hkb, ?_⟩
          walk_at "lw"
          refine ifn2 (fun he => ?_) (fun he => ?_)
          · have he : lo = (B (SX.S y)).k := (Kd.s_inj.mp (str_eq.mp he)).symm
            rw [he] at hlo
            have hlt := Kd.lo_rk hlo
            walk_at "lw"
            refine hs c H2 _ p ks B (SX.S y) W2 wf hm2 (by omega) fun H3 s3 => ?_
            walk_at "lw"
            cases hw : wh ks B n (SX.S y) with
            | true =>
              walk_at "lw"
              refine ⟨s2.trans s3, fun x hx => ?_, _, rfl⟩
              rw [take_ok hy] at hx
              rcases List.mem_append.mp hx with z | z
              · exact hall x z
              · rw [List.mem_singleton.mp z, decide_eq_true hm2, decide_eq_true hlo, hw]
                rfl
            | false =>
              walk_at "lw"
              exact bad (by rw [hw, Bool.and_false, Bool.and_false]) H3 (s02.trans s3)
          · have he : ¬ lo = (B (SX.S y)).k := fun z => he (by rw [z])
            walk_at "lw"
            exact bad (by rw [decide_eq_false (fun z => he (Option.some.inj (hlo.symm.trans z))), Bool.false_and, Bool.and_false]) H2 s02
        · walk_at "lw"
          exact bad (by rw [decide_eq_false hm2, Bool.false_and]) H2 s02
      · rintro σ H2 ⟨s2, hall, v, rfl⟩
        rw [List.length_map, List.take_length] at hall
        walk_at "lw"
        have k := k H2 (s1.trans s2)
        unfold wh at k
        rw [decide_eq_true hm, List.all_eq_true.mpr hall] at k
        exact k
theorem no_whole (T : Txt w K mg C_Store C_Refused C_Malformed a_KINDS a_BELOW) : Met P w K mg base 1 C_Store "is_whole" (fun _ _ _ _ => False) :=
  met_mk T.cl_Store T.m_Store_is_whole sc_Store_is_whole (fun vs H Q E h => h.elim) (fun f cdv A outer s H vs Q E hr h => h.elim)
theorem ok_Store_is_whole (T : Txt w K mg C_Store C_Refused C_Malformed a_KINDS a_BELOW) : Met P w K mg base 9 C_Store "is_whole" (spWhx C_Store 2) := by
  have t0 : Met P w K mg base 7 C_Store "is_whole" (spWhx C_Store 0) := isw_step T (j := 6) (by decide) (by decide) (no_whole T) (fun c H Q p ks B a _ _ _ h _ => absurd h (Nat.not_lt_zero _))
  have t1 : Met P w K mg base 8 C_Store "is_whole" (spWhx C_Store 1) := isw_step T (j := 7) (by decide) (by decide) t0 (fun c H Q p ks B a W wf hm h k => ⟨c, p, ks, B, a, rfl, W, wf, fun _ => by omega, k⟩)
  exact isw_step T (j := 8) (by decide) (by decide) t1 (fun c H Q p ks B a W wf hm h k => ⟨c, p, ks, B, a, rfl, W, wf, fun _ => by omega, k⟩)
theorem clo_step (T : Txt w K mg C_Store C_Refused C_Malformed a_KINDS a_BELOW) {n k' j : Nat} {sp' : Sp} (h6 : 6 ≤ j) (hk : k' ≤ j) (t_Store_closure : Met P w K mg base k' C_Store "closure" sp') (hs : CloC C_Store n sp') : Met P w K mg base (j + 1) C_Store "closure" (spClo C_Store n) := by
  have t_Store_below : Met P w K mg base 6 C_Store "below" (spBelow C_Store) := ok_Store_below T
  refine met_mk T.cl_Store T.m_Store_closure sc_Store_closure (fun vs H Q E h => ?_) (fun f cdv A outer s H vs Q E hr h => ?_)
  · obtain ⟨c, p, ks, B, a, rfl, _⟩ := h
    rfl
  · obtain ⟨c, p, ks, B, a, rfl, W, wf, hm, hrk, hw, hkl, k⟩ := h
    have hu := hu_of hr
    refine ⟨_, (pss_cons (ps_set (i := 2) sc_Store_closure.nd rfl (by first | exact Or.inl rfl | exact Or.inr rfl) (pe_disp (pps_cons (pv 1) (pe_bl) pps_nil) (by rfl) (by rfl) (fun z => by cases z) (by decide)))
      (pss_cons (ps_for PassesOwn.never rfl (pi_list (pe_mt t_Store_below hr (by first | decide | omega) (pv 0) (pa_cons (pv 1) pa_nil))) (pg_name (i := 3) sc_Store_closure.nd rfl (by first | exact Or.inl rfl | exact Or.inr rfl)) (pss_one (ps_for PassesOwn.never rfl (pi_list (pe_mt t_Store_closure hr (by first | decide | omega) (pv 0) (pa_cons (pv 3) pa_nil))) (pg_name (i := 4) sc_Store_closure.nd rfl (by first | exact Or.inl rfl | exact Or.inr rfl)) (pss_one (ps_dput hu (pv 2) (pv 4) (pe_bl) rfl)))))
      (pss_one (ps_ret (pe_callTy (call_list_dK rfl) (by rfl) T.n_list (by decide +kernel) (pa_cons (pv 2) pa_nil)))))), ?_⟩
    obtain ⟨dx0, d0, h10, h20, _⟩ := id W.ex
    walk_at "lw"
    refine g_disp fun fd H1 nfd s1 hfd => ?_
    walk_at "lw"
    refine g_rdisp (kvs := [(kS a, .bl true)]) hfd rfl (by show 1 ≤ 15; decide) fun H2 hf2 k2 => ?_
    have hf2 : H2 fd = some (.dK (mkS [a] fun _ => .bl true)) := hf2
    have s2 : Same H H2 := s1.chg nfd k2
    have W2 := W.same s2
    obtain ⟨dx, d, h1, h2, h3, A', h4, h5⟩ := id W2.ex
    walk_at "lw"
    refine ⟨c, p, ks, B, a, rfl, W2, wf, hm, fun r H3 s3 hr3 => ?_⟩
    refine g_ritL (SqL.of hr3) ?_
    have hrs : ∀ y ∈ (B a).refs, SX.S y ∈ ks ∧ (B (SX.S y)).k.rk < n ∧ wh ks B n (SX.S y) = true := fun y hy => by
      unfold wh at hw
      rw [Bool.and_eq_true, List.all_eq_true] at hw
      have := hw.2 y hy
      rw [Bool.and_eq_true, Bool.and_eq_true, decide_eq_true_eq, decide_eq_true_eq] at this
      have hlt := Kd.lo_rk this.2.1
      exact ⟨this.1, by omega, this.2.2⟩
    have W3 := W2.same s3
    refine for_at (G := fun H' => SqL K H' r ((B a).refs.map strS)) walk_list (fun i σ H' => Same H H' ∧ H' r = some (.lst ((B a).refs.map strS)) ∧ H' fd = some (.dK (mkS (((B a).refs.take i).foldl (fun f y => (clo B (n - 1) (SX.S y)).foldl addD f) [a]) fun _ => .bl true)) ∧ StoreAt C_Store c H' p ks B ∧
      (((B a).refs.take i).foldl (fun f y => (clo B (n - 1) (SX.S y)).foldl addD f) [a]).Nodup ∧ (∀ x ∈ ((B a).refs.take i).foldl (fun f y => (clo B (n - 1) (SX.S y)).foldl addD f) [a], x ∈ ks) ∧
      ∃ v v2 : Option V, σ = [some (.ref p), some (.str a), some (.ref fd), v, v2]) ⟨s2.trans s3, hr3, s3.at hf2, W3, (by simp), (fun x hx => by rw [List.mem_singleton.mp hx]; exact hm), none, none, rfl⟩ (fun i σ H' h => SqL.of h.2.1) ?_ ?_
    · rintro i x σ H4 hx ⟨s4, hr4, hf4, W4, hnd, hin, v, v2, rfl⟩
      obtain ⟨y, hy, rfl⟩ := map_at hx
      obtain ⟨q1, q2, q3⟩ := hrs y (List.mem_of_getElem? hy)
      have hn1 : n - 1 + 1 = n := by omega
      rw [take_ok hy, List.foldl_append]
      show (gName 3) _ _ _ _
      generalize hfo : ((B a).refs.take i).foldl (fun f y => (clo B (n - 1) (SX.S y)).foldl addD f) [a] = fo at hf4 hnd hin
      obtain ⟨dx4, d4, _, h24, _⟩ := id W4.ex
      walk_at "lw"
      refine hs c H4 _ p ks B (SX.S y) W4 wf q1 q2 q3 hkl fun r5 H5 s5 hr5 => ?_
      have hci : ∀ x ∈ clo B (n - 1) (SX.S y), x ∈ ks := clo_mem (n := n - 1) (by rw [hn1]; exact q3)
      have nfr : fd ≠ r := ne_of hf4 hr4 (by intro z; cases z)
      have nfr5 : fd ≠ r5 := ne_of (s5.at hf4) hr5 (by intro z; cases z)
      refine g_ritL (SqL.of hr5) ?_
      refine for_at (G := fun H' => SqL K H' r5 ((clo B (n - 1) (SX.S y)).map V.str)) walk_list (fun i2 σ H' => Same H H' ∧ H' r = some (.lst ((B a).refs.map strS)) ∧ H' r5 = some (.lst ((clo B (n - 1) (SX.S y)).map V.str)) ∧ H' fd = some (.dK (mkS (((clo B (n - 1) (SX.S y)).take i2).foldl addD fo) fun _ => .bl true)) ∧ StoreAt C_Store c H' p ks B ∧
        (((clo B (n - 1) (SX.S y)).take i2).foldl addD fo).Nodup ∧ (∀ x ∈ ((clo B (n - 1) (SX.S y)).take i2).foldl addD fo, x ∈ ks) ∧
        ∃ v : Option V, σ = [some (.ref p), some (.str a), some (.ref fd), some (strS y), v]) ⟨s4.trans s5, s5.at hr4, hr5, s5.at hf4, W4.same s5, hnd, hin, v2, rfl⟩ (fun i σ H' h => SqL.of h.2.2.1) ?_ ?_
      · rintro i2 x σ H6 hx2 ⟨s6, hr6, hr56, hf6, W6, hnd6, hin6, v6, rfl⟩
        obtain ⟨z, hz, rfl⟩ := map_at hx2
        rw [take_ok hz, List.foldl_append]
        generalize hfo6 : ((clo B (n - 1) (SX.S y)).take i2).foldl addD fo = fo6 at hf6 hnd6 hin6
        have hl6 := few_len hnd6 hin6
        walk_at "lw"
        refine g_rdputS hf6 (by rw [mkS_len]; omega) fun H7 h7 k7 => ?_
        walk_at "lw"
        rw [putK_S] at h7
        have n0f : H fd = none := nfd
        have hp7 : StoreAt C_Store c H7 p ks B := by
          obtain ⟨dx6, d6, e1, e2, e3, A6, e4, e5⟩ := W6.ex
          have npf : p ≠ fd := ne_of_none h20 nfd
          have ndf : d6 ≠ fd := fun z => by
            obtain ⟨dx0', d0', _, f2, _, A0, f4, _⟩ := W.ex
            have e2' := s6.at f2
            rw [e2] at e2'
            cases e2'
            rw [z, nfd] at f4
            cases f4
          exact ⟨dx6, d6, e1, by rw [k7 p npf]; exact e2, e3, A6, by rw [k7 d6 ndf]; exact e4, fun a ha => by rw [k7 _ (ne_of (e5 a ha) hf6 (by intro z; cases z))]; exact e5 a ha⟩
        refine ⟨s6.chg n0f k7, by rw [k7 r nfr.symm]; exact hr6, by rw [k7 r5 nfr5.symm]; exact hr56, ?_, hp7, addD_nd hnd6, fun x hx => ?_, _, rfl⟩
        · rw [h7]
          congr 2
          refine mkS_congr fun j _ => ?_
          split <;> rfl
        · rcases mem_putS.mp hx with u | u
          · exact hin6 x u
          · rw [u]; exact hci z (List.mem_of_getElem? hz)
      · rintro σ H6 ⟨s6, hr6, hr56, hf6, W6, hnd6, hin6, v6, rfl⟩
        rw [List.length_map, List.take_length] at hf6 hnd6 hin6
        exact ⟨s6, hr6, hf6, W6, hnd6, hin6, _, _, rfl⟩
    · rintro σ H4 ⟨s4, hr4, hf4, W4, hnd, hin, v, v2, rfl⟩
      rw [List.length_map, List.take_length] at hf4
      walk_at "lw"
      refine ⟨fd, _, rfl, hf4, fun q nq => ?_⟩
      rw [mkS_kV]
      refine k q _ (s4.thenNew nq) ?_
      rw [upd_same]
      congr 2
      cases n with
      | zero =>
        have e : (B a).refs = [] := by
          cases hr : (B a).refs with
          | nil => rfl
          | cons y ys => exact absurd (hrs y (by rw [hr]; exact List.mem_cons_self)).2.1 (Nat.not_lt_zero _)
        rw [e]
        rfl
      | succ n => rfl
theorem no_closure (T : Txt w K mg C_Store C_Refused C_Malformed a_KINDS a_BELOW) : Met P w K mg base 1 C_Store "closure" (fun _ _ _ _ => False) :=
  met_mk T.cl_Store T.m_Store_closure sc_Store_closure (fun vs H Q E h => h.elim) (fun f cdv A outer s H vs Q E hr h => h.elim)
theorem ok_Store_closure (T : Txt w K mg C_Store C_Refused C_Malformed a_KINDS a_BELOW) : Met P w K mg base 9 C_Store "closure" (spClo C_Store 2) := by
  have t0 : Met P w K mg base 7 C_Store "closure" (spClo C_Store 0) := clo_step T (j := 6) (by decide) (by decide) (no_closure T) (fun c H Q p ks B a _ _ _ h _ _ _ => absurd h (Nat.not_lt_zero _))
  have t1 : Met P w K mg base 8 C_Store "closure" (spClo C_Store 1) := clo_step T (j := 7) (by decide) (by decide) t0 (fun c H Q p ks B a W wf hm h hw hl k => ⟨c, p, ks, B, a, rfl, W, wf, hm, by omega, hw, hl, k⟩)
  exact clo_step T (j := 8) (by decide) (by decide) t1 (fun c H Q p ks B a W wf hm h hw hl k => ⟨c, p, ks, B, a, rfl, W, wf, hm, by omega, hw, hl, k⟩)
end
end Lw

/-! ## the law's own reading of its blobs -/
namespace Lw
open PySem L2
open PyProof.Rows (envOfC sortedS)
theorem scan_none {b : Bool} : ∀ {ls s : List (List Nat)} {i : Nat}, scan b s i ls = none → ∀ l ∈ ls, ∃ s', okLine b s' l = true
  | [], _, _, _, _, h => nomatch h
  | x :: r, s, i, h, l, hl => by
    unfold scan at h
    split at h
    · rename_i hx
      rcases List.mem_cons.mp hl with z | z
      · subst z; exact ⟨s, hx⟩
      · exact scan_none h l z
    · cases h
theorem bun_two {t : List Nat} (h : fault true t = none) : ∀ l ∈ mid (lnL t), (wdL l).length = 2 := by
  intro l hl
  unfold fault at h
  split at h
  · cases h
  · split at h
    · cases h
    · obtain ⟨s', hs⟩ := scan_none h l hl
      unfold okLine at hs
      rw [if_pos rfl, Bool.and_eq_true, decide_eq_true_eq] at hs
      exact hs.1
structure BlobsAt (c : Addr → Nat) (H : Hp) (d : Addr) (ks : List Str) (B : Str → Bl) : Prop where
  cd : c d = 2
  bd : BlobD H d ks B
theorem BlobsAt.frame {I : Nat → Prop} {c c' : Addr → Nat} {H H' : Hp} {d : Addr} {ks : List Str} {B : Str → Bl} (h : BlobsAt c H d ks B) (s : Stp I c c' H H') (hi : ¬ I 2) : BlobsAt c' H' d ks B := by
  obtain ⟨A, a1, a2⟩ := h.bd
  exact ⟨by rw [s.col _ _ a1, h.cd], A, s.keep _ _ a1 (by rw [h.cd]; exact hi), fun a ha => s.tup _ _ (a2 a ha)⟩
theorem BlobsAt.same {c : Addr → Nat} {H H' : Hp} {d : Addr} {ks : List Str} {B : Str → Bl} (h : BlobsAt c H d ks B) (s : Same H H') : BlobsAt c H' d ks B := h.frame (Stp.same (I := fun _ => False) s) (fun z => z)
def spLRefs : Sp := fun vs H Q _ => ∃ (d : Addr) (ks : List Str) (B : Str → Bl) (a : Str), vs = [.ref d, .str a] ∧ BlobD H d ks B ∧ SWf ks B ∧ a ∈ ks ∧ ∀ r H', Same H H' → H' r = some (.lst ((B a).refs.map strS)) → Q (.ref r) H'
def spLWh (n : Nat) : Sp := fun vs H Q _ => ∃ (d : Addr) (ks : List Str) (B : Str → Bl) (a : Str), vs = [.ref d, .str a] ∧ BlobD H d ks B ∧ SWf ks B ∧ (a ∈ ks → (B a).k.rk ≤ n) ∧ ∀ H', Same H H' → Q (.bl (wh ks B (n + 1) a)) H'
def LWhC (n : Nat) (sp : Sp) : Prop := ∀ (H : Hp) (Q : VK) (d : Addr) (ks : List Str) (B : Str → Bl) (a : Str), BlobD H d ks B → SWf ks B → a ∈ ks → (B a).k.rk < n → (∀ H', Same H H' → Q (.bl (wh ks B n a)) H') → sp [.ref d, .str a] H Q E0
def spLClo (n : Nat) : Sp := fun vs H Q _ => ∃ (d : Addr) (ks : List Str) (B : Str → Bl) (a : Str), vs = [.ref d, .str a] ∧ BlobD H d ks B ∧ SWf ks B ∧ a ∈ ks ∧ (B a).k.rk ≤ n ∧ wh ks B (n + 1) a = true ∧ ks.length ≤ 1000 ∧ ∀ r H', Same H H' → H' r = some (.lst ((clo B n a).map V.str)) → Q (.ref r) H'
def LCloC (n : Nat) (sp : Sp) : Prop := ∀ (H : Hp) (Q : VK) (d : Addr) (ks : List Str) (B : Str → Bl) (a : Str), BlobD H d ks B → SWf ks B → a ∈ ks → (B a).k.rk < n → wh ks B n a = true → ks.length ≤ 1000 → (∀ r H', Same H H' → H' r = some (.lst ((clo B (n - 1) a).map V.str)) → Q (.ref r) H') → sp [.ref d, .str a] H Q E0
def dueS : Kd → Str
  | .lay => "" | .img => "layer" | .bun => "image"
theorem due_ne {k k2 : Kd} (hk : k ≠ .lay) : decide (V.str k2.s = V.str (dueS k)) = decide (k.lo = some k2) := by
  cases k <;> cases k2 <;> first | exact absurd rfl hk | decide +kernel
def dueK : List (Key × V) := [(kS "layer", .str ""), (kS "image", .str "layer"), (kS "bundle", .str "image")]
theorem due_at (k : Kd) : valV (mergeK [] dueK) (kS k.s) = some (.str (dueS k)) := by cases k <;> decide +kernel
theorem addD_eq : ∀ {l f : List Str}, l.Nodup → l.foldl addD f = f ++ l.filter fun x => decide (x ∉ f)
  | [], f, _ => by simp
  | x :: l, f, h => by
    obtain ⟨h1, h2⟩ := List.nodup_cons.mp h
    show l.foldl addD (addD f x) = _
    rw [addD_eq h2, List.filter_cons]
    by_cases hx : x ∈ f
    · rw [show addD f x = f from if_pos hx, if_neg (by simp [hx])]
    · rw [show addD f x = f ++ [x] from if_neg hx, if_pos (by simp [hx]), List.append_assoc]
      congr 1
      rw [List.singleton_append]
      congr 1
      refine List.filter_congr fun y hy => ?_
      have hne : y ≠ x := fun z => h1 (by rw [← z]; exact hy)
      rw [decide_eq_decide]
      simp [hne]
def notIn (f : List Str) : V → Bool
  | .str x => decide (x ∉ f)
  | _ => false
theorem inV_str {a : Str} {s : List Str} : inV (.str a) (s.map V.str) = decide (a ∈ s) := by
  unfold inV
  rw [List.any_map, Bool.eq_iff_iff, List.any_eq_true, decide_eq_true_eq]
  constructor
  · rintro ⟨y, hy, e⟩
    have e : (y == a) = true := e
    rw [← beq_iff_eq.mp e]
    exact hy
  · intro h
    exact ⟨a, h, (show (a == a) = true from beq_self_eq_true a)⟩
theorem flat_str (s : List Str) : (s.map V.str).all flatV = true := by
  rw [List.all_eq_true]
  intro x hx
  obtain ⟨a, _, rfl⟩ := List.mem_map.mp hx
  rfl
theorem filt_str (f l : List Str) : ((l.map V.str).filter (notIn f)).map (fun v => v) = (l.filter fun x => decide (x ∉ f)).map V.str := by
  rw [List.map_id', List.filter_map]
  rfl
section
variable {P : Program} {w : World} {K : PySem.W.Frag} {mg : Str → Option Value} {base : Heap} {C_Store C_Refused C_Malformed a_KINDS a_BELOW : Addr}
theorem ok__law_refs (T : Txt w K mg C_Store C_Refused C_Malformed a_KINDS a_BELOW) : Cal P w K mg base 1 "_law_refs" spLRefs := by
  refine cal_mk T.d__law_refs sc__law_refs (fun vs H Q E h => ?_) (fun f cdv A outer s H vs Q E hr h => ?_)
  · obtain ⟨d, ks, B, a, rfl, _⟩ := h
    rfl
  · obtain ⟨d, ks, B, a, rfl, ⟨A', h4, h5⟩, wf, hm, k⟩ := h
    have hu := hu_of hr
    have ok := wf.ok a hm
    have hl := ok.l
    have hf := ok.f
    unfold Bl.refs refsL at k
    unfold faultK at hf
    refine ⟨_, (pss_cons (ps_asg (pe_dget hu (pv 0) (pv 1) (fun _ _ => rfl)) (pg_tup (by rfl) (pgs_cons (pg_name (i := 2) sc__law_refs.nd rfl (by first | exact Or.inl rfl | exact Or.inr rfl)) (pgs_cons (pg_name (i := 3) sc__law_refs.nd rfl (by first | exact Or.inl rfl | exact Or.inr rfl)) pgs_nil))))
      (pss_cons (ps_set (i := 4) sc__law_refs.nd rfl (by first | exact Or.inl rfl | exact Or.inr rfl) (pe_split (pv 3) (pe_str)))
      (pss_cons (ps_if (pt_cmpR op_eq (pv 2) (pe_str) (nomark _)) (pss_one (ps_ret (pe_lst pa_nil))) pss_nil)
      (pss_cons (ps_if (pt_cmpR op_eq (pv 2) (pe_str) (nomark _)) (pss_one (ps_ret (pe_slice sl_list (pv 4) (po_some (pe_int)) (po_some (pe_un un_neg (pe_int)))))) pss_nil)
      (pss_one (ps_ret (pe_lc (own := [("_law_line", 5)]) (g := (gName 5)) (by rfl) sc__law_refs.nd (pi_list (pe_slice sl_list (pv 4) (po_some (pe_int)) (po_some (pe_un un_neg (pe_int))))) (blkOk_by (own := [("_law_line", 5)]) (N := n__law_refs) (sc := defScope s__law_refs) (by decide +kernel)) (fun _ _ _ _ _ => (pg_name (i := 5) sc__law_refs.nd rfl (by first | exact Or.inl rfl | exact Or.inr rfl))) (fun _ _ _ _ _ => pts_nil) (fun _ _ _ _ _ => (pe_ix (ix_listK K rfl) (pe_split (pv 5) (pe_str)) (pe_int) (fun _ _ => rfl)))))))))), ?_⟩
    walk_at "lw"
    refine g_rdgetS (.of h4) (by rw [valV_mkS, if_pos hm]) ?_
    refine g_gtup (SqT.of (h5 a hm)) rfl ?_
    walk_at "lw"
    refine g_rstr (x := SX.S (B a).t) ?_
    walk_at "lw"
    refine g_spl (by decide +kernel) (by rw [SX.S_len]; exact Nat.le_trans (show (B a).t.length + 2 ≤ 100002 by omega) (by decide)) fun q H1 nq s1 hq => ?_
    rw [split_ln, List.map_map] at hq
    have hq : H1 q = some (.lst ((lnL (B a).t).map strS)) := hq
    walk_at "lw"
    refine if2 (fun e1 => ?_) (fun e1 => ?_)
    · have e1 := str_eq.mp e1
      rw [if_pos e1] at k
      walk_at "lw"
      exact g_klst (by show 0 ≤ 100; decide) fun r H2 _ s2 hr => k r H2 (s1.trans s2) hr
    · have e1 : ¬ (B a).k.s = "layer" := fun z => e1 (by rw [z])
      rw [if_neg e1] at k hf
      walk_at "lw"
      refine if2 (fun e2 => ?_) (fun e2 => ?_)
      · have e2 := str_eq.mp e2
        rw [if_pos e2] at k
        walk_at "lw"
        refine ⟨_, rfl, ?_⟩
        walk_at "lw"
        refine g_slL (SqL.of hq) fun r H2 _ s2 hr => ?_
        rw [cut_mid] at hr
        exact k r H2 (s1.trans s2) hr
      · have e2 : ¬ (B a).k.s = "image" := fun z => e2 (by rw [z])
        rw [if_neg e2] at k
        rw [decide_eq_false e2] at hf
        have h2 := bun_two hf
        walk_at "lw"
        refine ⟨_, rfl, ?_⟩
        walk_at "lw"
        refine g_slL (SqL.of hq) fun r H2 _ s2 hr => ?_
        rw [cut_mid] at hr
        refine g_ritL (SqL.of hr) ?_
        have hml : (mid (lnL (B a).t)).length ≤ 100000 := by rw [mid_len]; have := ln_le (B a).t; omega
        refine lc_map (G := fun H' => SqL K H' r ((mid (lnL (B a).t)).map strS)) walk_list (fun H' s => SqL.of (s _ _ hr)) (by rw [List.length_map]; exact hml) (fun _ => true) (fun v => match v with | .str x => strS (w1 x.cps.toList) | _ => v) ?_ ?_
        · intro x hx H' R s3 kk
          obtain ⟨l, hl2, rfl⟩ := List.mem_map.mp hx
          have hlen := ln_part (mid_mem hl2)
          walk_at "lw"
          refine kk _ rfl (fun H'' R s2 r => ?_) (fun hp' H'' R s2 r => ?_)
          · walk_at "lw"
            exact r
          · walk_at "lw"
            refine g_rstr (x := SX.S l) ?_
            walk_at "lw"
            refine g_spl (by decide +kernel) (by rw [SX.S_len]; exact Nat.le_trans (show l.length + 2 ≤ 100002 by omega) (by decide)) fun wq H5 nwq s5 hwq => ?_
            rw [split_wd, List.map_map] at hwq
            have hwq : H5 wq = some (.lst ((wdL l).map strS)) := hwq
            walk_at "lw"
            refine g_rix (SqL.of hwq) (atI_map (atI_nat (j := 1) (w1_at (h2 l hl2)))) ?_
            exact r _ s5
        · intro q3 H3 nq3 s3 hq3
          rw [List.filter_eq_self.mpr (fun _ _ => rfl), List.map_map] at hq3
          have e : (mid (lnL (B a).t)).map ((fun v => match v with | V.str x => strS (w1 x.cps.toList) | _ => v) ∘ strS) = ((prs (B a).t).map (·.2)).map strS := by
            unfold prs
            rw [List.map_map, List.map_map]
            rfl
          rw [e] at hq3
          exact k q3 H3 ((s1.trans s2).trans s3) hq3
theorem lwh_step (T : Txt w K mg C_Store C_Refused C_Malformed a_KINDS a_BELOW) {n k' j : Nat} {sp' : Sp} (h6 : 1 ≤ j) (hk : k' ≤ j) (c__law_whole : Cal P w K mg base k' "_law_whole" sp') (hs : LWhC n sp') : Cal P w K mg base (j + 1) "_law_whole" (spLWh n) := by
  have c__law_refs : Cal P w K mg base 1 "_law_refs" spLRefs := ok__law_refs T
  refine cal_mk T.d__law_whole sc__law_whole (fun vs H Q E h => ?_) (fun f cdv A outer s H vs Q E hr h => ?_)
  · obtain ⟨d, ks, B, a, rfl, _⟩ := h
    rfl
  · obtain ⟨d, ks, B, a, rfl, hb, wf, hrk, k⟩ := h
    have hu := hu_of hr
    obtain ⟨A', h4, h5⟩ := id hb
    refine ⟨_, (pss_cons (ps_if (pt_cmp (pc_dnotin hu (pv 1) (pv 0))) (pss_one (ps_ret (pe_bl))) pss_nil)
      (pss_cons (ps_set (i := 2) sc__law_whole.nd rfl (by first | exact Or.inl rfl | exact Or.inr rfl) (pe_dget hu (pe_disp (pps_cons (pe_str) (pe_str) (pps_cons (pe_str) (pe_str) (pps_cons (pe_str) (pe_str) pps_nil))) (by rfl) (by rfl) (fun z => by cases z) (by decide)) (pe_ix ix_tup (pe_dget hu (pv 0) (pv 1) (fun _ _ => rfl)) (pe_int) (fun _ _ => rfl)) (fun _ _ => rfl)))
      (pss_cons (ps_for PassesOwn.never rfl (pi_list (pe_c c__law_refs hr (by first | decide | omega) rfl (pa_cons (pv 0) (pa_cons (pv 1) pa_nil)))) (pg_name (i := 3) sc__law_whole.nd rfl (by first | exact Or.inl rfl | exact Or.inr rfl)) (pss_one (ps_if (PW.pt (pw_or (pt_cmp (pc_dnotin hu (pv 3) (pv 0))) (pw_or (pt_cmpR op_ne (pe_ix ix_tup (pe_dget hu (pv 0) (pv 3) (fun _ _ => rfl)) (pe_int) (fun _ _ => rfl)) (pv 2) (nomark _)) (pw_or1 (pt_not (pt_val (pe_c c__law_whole hr (by first | decide | omega) rfl (pa_cons (pv 0) (pa_cons (pv 3) pa_nil))))))))) (pss_one (ps_ret (pe_bl))) pss_nil)))
      (pss_one (ps_ret (pe_bl)))))), ?_⟩
    walk_at "lw"
    refine g_rdnotinS (.of h4) ?_
    rw [dec_in]
    walk_at "lw"
    refine ifn2 (fun hm => ?_) (fun hm => ?_)
    rotate_left
    · walk_at "lw"
      have k := k H (Same.refl _)
      unfold wh at k
      rw [decide_eq_false hm, Bool.false_and] at k
      exact k
    · have hrk := hrk hm
      walk_at "lw"
      refine g_disp fun dd H0 ndd s0 hdd => ?_
      walk_at "lw"
      refine g_rdisp (kvs := dueK) hdd rfl (by decide) fun H1 hd1 k1 => ?_
      have s1 : Same H H1 := s0.chg ndd k1
      have h41 := s1.at h4
      have h51 : ∀ a ∈ ks, H1 (A' a) = some (.tup [.str (B a).k.s, strS (B a).t]) := fun a ha => s1.at (h5 a ha)
      walk_at "lw"
      refine g_rdgetS (.of h41) (by rw [valV_mkS, if_pos hm]) ?_
      walk_at "lw"
      refine g_rixT (SqT.of (h51 a hm)) (j := 0) (v := .str (B a).k.s) rfl ?_
      refine g_rdgetS (.of hd1) (due_at _) ?_
      walk_at "lw"
      refine ⟨d, ks, B, a, rfl, hb.same s1, wf, hm, fun r H2 s2 hr2 => ?_⟩
      refine g_ritL (SqL.of hr2) ?_
      refine for_at (G := fun H' => SqL K H' r ((B a).refs.map strS)) walk_list (fun i σ H' => Same H2 H' ∧ (∀ x ∈ (B a).refs.take i, (decide (SX.S x ∈ ks) && (decide ((B a).k.lo = some (B (SX.S x)).k) && wh ks B n (SX.S x))) = true) ∧
        ∃ v : Option V, σ = [some (.ref d), some (.str a), some (.str (dueS (B a).k)), v]) ⟨Same.refl _, (fun x hx => nomatch hx), none, rfl⟩ (fun i σ H' h => SqL.of (h.1.at hr2)) ?_ ?_
      · rintro i x σ H3 hx ⟨s3, hall, v, rfl⟩
        obtain ⟨y, hy, rfl⟩ := map_at hx
        have hi : i < (B a).refs.length := (List.getElem?_eq_some_iff.mp hy).1
        have s03 := s1.trans (s2.trans s3)
        have h43 := s03.at h4
        have bad : (decide (SX.S y ∈ ks) && (decide ((B a).k.lo = some (B (SX.S y)).k) && wh ks B n (SX.S y))) = false → ∀ H', Same H H' → Q (.bl false) H' := fun hb H' s' => by
          have k := k H' s'
          unfold wh at k
          rw [show (List.all (B a).refs fun r => decide (SX.S r ∈ ks) && (decide ((B a).k.lo = some (B (SX.S r)).k) && wh ks B n (SX.S r))) = false by
            rw [List.all_eq_false]
            exact ⟨y, List.mem_of_getElem? hy, by rw [hb]; decide⟩, Bool.and_false] at k
          exact k
        have hkd : (B a).k ≠ .lay := fun z => by
          rw [refs_lay z] at hi
          exact absurd hi (Nat.not_lt_zero _)
        walk_at "lw"
        refine g_rdnotinS (.of h43) ?_
        rw [dec_in]
        walk_at "lw"
        refine ifn2 (fun hm2 => ?_) (fun hm2 => ?_)
        · have h53 : H3 (A' (SX.S y)) = some (.tup [.str (B (SX.S y)).k.s, strS (B (SX.S y)).t]) := s03.at (h5 _ hm2)
          walk_at "lw"
          refine g_rdgetS (.of h43) (by rw [valV_mkS, if_pos hm2]) ?_
          walk_at "lw"
          refine g_rixT (SqT.of h53) (j := 0) (v := .str (B (SX.S y)).k.s) rfl ?_
          walk_at "lw"
          rw [due_ne hkd]
          by_cases he : (B a).k.lo = some (B (SX.S y)).k
          · have hlt := Kd.lo_rk he
            rw [decide_eq_true he]
            walk_at "lw"
            refine hs H3 _ d ks B (SX.S y) (hb.same s03) wf hm2 (by omega) fun H4 s4 => ?_
            walk_at "lw"
            cases hw : wh ks B n (SX.S y) with
            | true =>
              walk_at "lw"
              refine ⟨s3.trans s4, fun x hx => ?_, _, rfl⟩
              rw [take_ok hy] at hx
              rcases List.mem_append.mp hx with z | z
              · exact hall x z
              · rw [List.mem_singleton.mp z, decide_eq_true hm2, decide_eq_true he, hw]
                rfl
            | false =>
              walk_at "lw"
              exact bad (by rw [hw, Bool.and_false, Bool.and_false]) H4 (s03.trans s4)
          · rw [decide_eq_false he]
            walk_at "lw"
            exact bad (by rw [decide_eq_false he, Bool.false_and, Bool.and_false]) H3 s03
        · walk_at "lw"
          exact bad (by rw [decide_eq_false hm2, Bool.false_and]) H3 s03
      · rintro σ H3 ⟨s3, hall, v, rfl⟩
        rw [List.length_map, List.take_length] at hall
        walk_at "lw"
        have k := k H3 (s1.trans (s2.trans s3))
        unfold wh at k
        rw [decide_eq_true hm, List.all_eq_true.mpr hall] at k
        exact k
theorem no_lwhole (T : Txt w K mg C_Store C_Refused C_Malformed a_KINDS a_BELOW) : Cal P w K mg base 1 "_law_whole" (fun _ _ _ _ => False) :=
  cal_mk T.d__law_whole sc__law_whole (fun vs H Q E h => h.elim) (fun f cdv A outer s H vs Q E hr h => h.elim)
theorem ok__law_whole (T : Txt w K mg C_Store C_Refused C_Malformed a_KINDS a_BELOW) : Cal P w K mg base 4 "_law_whole" (spLWh 2) := by
  have t0 : Cal P w K mg base 2 "_law_whole" (spLWh 0) := lwh_step T (j := 1) (by decide) (by decide) (no_lwhole T) (fun H Q d ks B a _ _ _ h _ => absurd h (Nat.not_lt_zero _))
  have t1 : Cal P w K mg base 3 "_law_whole" (spLWh 1) := lwh_step T (j := 2) (by decide) (by decide) t0 (fun H Q d ks B a hb wf hm h k => ⟨d, ks, B, a, rfl, hb, wf, fun _ => by omega, k⟩)
  exact lwh_step T (j := 3) (by decide) (by decide) t1 (fun H Q d ks B a hb wf hm h k => ⟨d, ks, B, a, rfl, hb, wf, fun _ => by omega, k⟩)
theorem lclo_step (T : Txt w K mg C_Store C_Refused C_Malformed a_KINDS a_BELOW) {n k' j : Nat} {sp' : Sp} (h6 : 1 ≤ j) (hk : k' ≤ j) (c__law_closure : Cal P w K mg base k' "_law_closure" sp') (hs : LCloC n sp') : Cal P w K mg base (j + 1) "_law_closure" (spLClo n) := by
  have c__law_refs : Cal P w K mg base 1 "_law_refs" spLRefs := ok__law_refs T
  refine cal_mk T.d__law_closure sc__law_closure (fun vs H Q E h => ?_) (fun f cdv A outer s H vs Q E hr h => ?_)
  · obtain ⟨d, ks, B, a, rfl, _⟩ := h
    rfl
  · obtain ⟨d, ks, B, a, rfl, hb, wf, hm, hrk, hw, hkl, k⟩ := h
    have hu := hu_of hr
    refine ⟨_, (pss_cons (ps_set (i := 2) sc__law_closure.nd rfl (by first | exact Or.inl rfl | exact Or.inr rfl) (pe_lst (pa_cons (pv 1) pa_nil)))
      (pss_cons (ps_for PassesOwn.never rfl (pi_list (pe_c c__law_refs hr (by first | decide | omega) rfl (pa_cons (pv 0) (pa_cons (pv 1) pa_nil)))) (pg_name (i := 3) sc__law_closure.nd rfl (by first | exact Or.inl rfl | exact Or.inr rfl)) (pss_one (ps_set (i := 2) sc__law_closure.nd rfl (by first | exact Or.inl rfl | exact Or.inr rfl) (pe_op op_cat (pv 2) (pe_lc (own := [("_law_inner", 4)]) (g := (gName 4)) (by rfl) sc__law_closure.nd (pi_list (pe_c c__law_closure hr (by first | decide | omega) rfl (pa_cons (pv 0) (pa_cons (pv 3) pa_nil)))) (blkOk_by (own := [("_law_inner", 4)]) (N := n__law_closure) (sc := defScope s__law_closure) (by decide +kernel)) (fun _ _ _ _ _ => (pg_name (i := 4) sc__law_closure.nd rfl (by first | exact Or.inl rfl | exact Or.inr rfl))) (fun _ _ _ _ _ => (pts_one (pt_cmpR (op_notInK K rfl) (pv 4) (pv 2) (by rfl)))) (fun _ _ _ _ _ => (pv 4)))))))
      (pss_one (ps_ret (pv 2))))), ?_⟩
    walk_at "lw"
    refine g_klst (by show 1 ≤ 100; decide) fun fo H1 nfo s1 hfo => ?_
    walk_at "lw"
    refine ⟨d, ks, B, a, rfl, hb.same s1, wf, hm, fun r H2 s2 hr2 => ?_⟩
    refine g_ritL (SqL.of hr2) ?_
    have hrs : ∀ y ∈ (B a).refs, SX.S y ∈ ks ∧ (B (SX.S y)).k.rk < n ∧ wh ks B n (SX.S y) = true := fun y hy => by
      unfold wh at hw
      rw [Bool.and_eq_true, List.all_eq_true] at hw
      have := hw.2 y hy
      rw [Bool.and_eq_true, Bool.and_eq_true, decide_eq_true_eq, decide_eq_true_eq] at this
      have hlt := Kd.lo_rk this.2.1
      exact ⟨this.1, by omega, this.2.2⟩
    refine for_at (G := fun H' => SqL K H' r ((B a).refs.map strS)) walk_list (fun i σ H' => ∃ (fo : Addr) (v v2 : Option V), Same H H' ∧ H' r = some (.lst ((B a).refs.map strS)) ∧ H' fo = some (.lst ((((B a).refs.take i).foldl (fun f y => (clo B (n - 1) (SX.S y)).foldl addD f) [a]).map V.str)) ∧
      (((B a).refs.take i).foldl (fun f y => (clo B (n - 1) (SX.S y)).foldl addD f) [a]).Nodup ∧ (∀ x ∈ ((B a).refs.take i).foldl (fun f y => (clo B (n - 1) (SX.S y)).foldl addD f) [a], x ∈ ks) ∧
      σ = [some (.ref d), some (.str a), some (.ref fo), v, v2]) ⟨fo, none, none, s1.trans s2, hr2, s2.at hfo, (by simp), (fun x hx => by rw [List.mem_singleton.mp hx]; exact hm), rfl⟩ (fun i σ H' h => by obtain ⟨_, _, _, _, h, _⟩ := h; exact SqL.of h) ?_ ?_
    · rintro i x σ H4 hx ⟨fo, v, v2, s4, hr4, hf4, hnd, hin, rfl⟩
      obtain ⟨y, hy, rfl⟩ := map_at hx
      obtain ⟨q1, q2, q3⟩ := hrs y (List.mem_of_getElem? hy)
      have hn1 : n - 1 + 1 = n := by omega
      rw [take_ok hy, List.foldl_append]
      show (gName 3) _ _ _ _
      generalize hfo' : ((B a).refs.take i).foldl (fun f y => (clo B (n - 1) (SX.S y)).foldl addD f) [a] = f0 at hf4 hnd hin
      have hfl := few_len hnd hin
      have hcn := clo_nd B (n - 1) (SX.S y)
      have hci : ∀ x ∈ clo B (n - 1) (SX.S y), x ∈ ks := clo_mem (n := n - 1) (by rw [hn1]; exact q3)
      have hcl := few_len hcn hci
      walk_at "lw"
      refine hs H4 _ d ks B (SX.S y) (hb.same s4) wf q1 q2 q3 hkl fun r5 H5 s5 hr5 => ?_
      refine g_ritL (SqL.of hr5) ?_
      refine lc_map (G := fun H' => SqL K H' r5 ((clo B (n - 1) (SX.S y)).map V.str)) walk_list (fun H' s => SqL.of (s _ _ hr5)) (by rw [List.length_map]; omega) (notIn f0) (fun v => v) ?_ ?_
      · intro x hx H' R s6 kk
        obtain ⟨z, hz, rfl⟩ := List.mem_map.mp hx
        walk_at "lw"
        refine kk _ rfl (fun H'' R s7 r => ?_) (fun hp' H'' R s7 r => ?_)
        · walk_at "lw"
          refine ⟨fo, _, rfl, .inl (SqL.of (s7.at (s5.at hf4))), rfl, flat_str _, ?_⟩
          rw [inV_str]
          walk_at "lw"
          rw [show (if true = true then !decide (z ∈ f0) else decide (z ∈ f0)) = notIn f0 (.str z) by
            show (!decide (z ∈ f0)) = decide (z ∉ f0)
            by_cases h : z ∈ f0 <;> simp [h]]
          exact r
        · walk_at "lw"
          exact r _ (Same.refl _)
      · intro q6 H6 nq6 s6 hq6
        rw [filt_str] at hq6
        have s56 := s5.trans s6
        refine g_cat (s56.at hf4) hq6 (by rw [List.length_map, List.length_map]; have := List.length_filter_le (fun x => decide (x ∉ f0)) (clo B (n - 1) (SX.S y)); omega) fun q7 H7 nq7 s7 hq7 => ?_
        walk_at "lw"
        have e : (clo B (n - 1) (SX.S y)).foldl addD f0 = f0 ++ (clo B (n - 1) (SX.S y)).filter fun x => decide (x ∉ f0) := addD_eq hcn
        have s47 := s56.trans s7
        refine ⟨q7, _, _, s4.trans s47, s47.at hr4, ?_, foldl_addD_nd hnd, fun x hx => ?_, rfl⟩
        · rw [hq7]
          show _ = some (HO.lst (((clo B (n - 1) (SX.S y)).foldl addD f0).map V.str))
          rw [e, List.map_append]
        · rcases mem_foldl_addD.mp hx with z | z
          · exact hin x z
          · exact hci x z
    · rintro σ H4 ⟨fo, v, v2, s4, hr4, hf4, hnd, hin, rfl⟩
      rw [List.length_map, List.take_length] at hf4
      walk_at "lw"
      refine k fo _ s4 ?_
      rw [hf4]
      congr 2
      cases n with
      | zero =>
        have e : (B a).refs = [] := by
          cases hr : (B a).refs with
          | nil => rfl
          | cons y ys => exact absurd (hrs y (by rw [hr]; exact List.mem_cons_self)).2.1 (Nat.not_lt_zero _)
        rw [e]
        rfl
      | succ n => rfl
theorem no_lclo (T : Txt w K mg C_Store C_Refused C_Malformed a_KINDS a_BELOW) : Cal P w K mg base 1 "_law_closure" (fun _ _ _ _ => False) :=
  cal_mk T.d__law_closure sc__law_closure (fun vs H Q E h => h.elim) (fun f cdv A outer s H vs Q E hr h => h.elim)
theorem ok__law_closure (T : Txt w K mg C_Store C_Refused C_Malformed a_KINDS a_BELOW) : Cal P w K mg base 4 "_law_closure" (spLClo 2) := by
  have t0 : Cal P w K mg base 2 "_law_closure" (spLClo 0) := lclo_step T (j := 1) (by decide) (by decide) (no_lclo T) (fun H Q d ks B a _ _ _ h _ _ _ => absurd h (Nat.not_lt_zero _))
  have t1 : Cal P w K mg base 3 "_law_closure" (spLClo 1) := lclo_step T (j := 2) (by decide) (by decide) t0 (fun H Q d ks B a hb wf hm h hw hl k => ⟨d, ks, B, a, rfl, hb, wf, hm, by omega, hw, hl, k⟩)
  exact lclo_step T (j := 3) (by decide) (by decide) t1 (fun H Q d ks B a hb wf hm h hw hl k => ⟨d, ks, B, a, rfl, hb, wf, hm, by omega, hw, hl, k⟩)
end
end Lw

/-! ## the store is filled -/
namespace Lw
open PySem L2
open PyProof.Rows (envOfC sortedS)
/-- a comprehension over a list, whose items are drawn -/
theorem lc_drawG {J : It} {G : Hp → Prop} {xs : List V} {vs : List Nat} {σ : L2.St} {te : TE} {j : Nat} {Q : VK} {c : Addr → Nat} {H : Hp} {S : Addr} (w : Walk J xs.length G (YAt xs)) (hG : ∀ c' H', Stp (fun i => i = 0) c c' H H' → G H') (hz : xs.length ≤ 100000) (R : Nat → V → Hp → Prop)
    (mono : ∀ i y H1 H2, (∀ b ys, H1 b = some (.tup ys) → H2 b = some (.tup ys)) → R i y H1 → R i y H2) (hS : StateAt c H S) (hw : ∀ x, wipe ((wipe σ vs).set j (some x)) vs = wipe σ vs)
    (he : ∀ (i : Nat) (x : V) (c1 : Addr → Nat) (H1 : Hp) (Rk : VK), xs[i]? = some x → StateAt c1 H1 S → Stp (fun i => i = 0) c c1 H H1 → (∀ (y : V) (c2 : Addr → Nat) (H2 : Hp), R i y H2 → StateAt c2 H2 S → Stp (fun i => i = 0) c1 c2 H1 H2 → Rk y H2) → te ((wipe σ vs).set j (some x)) H1 Rk)
    (k : ∀ (q : Addr) (ys : List V) (c' : Addr → Nat) (H' : Hp), H q = none → ys.length = xs.length → (∀ (i : Nat) (y : V), ys[i]? = some y → R i y H') → StateAt c' H' S → Stp (fun i => i = 0) c c' H H' → H' q = some (.lst ys) → c' q = 9 → Q (.ref q) H') : kLc (gName j) tYes te vs σ Q J H := by
  intro D hD
  refine lc_it w (fun i H2 => ∃ (l : List V) (c2 : Addr → Nat), l.length = i ∧ (∀ (m : Nat) (y : V), l[m]? = some y → R m y H2) ∧ StateAt c2 H2 S ∧ Stp (fun i => i = 0) c c2 H H2 ∧ c2 D = 9 ∧ H2 D = some (.lst l))
    ⟨[], Stp.paint c D 9, rfl, (fun m y h => (by cases h)), hS.frame (I := fun _ => False) (Stp.newc hD) (by decide), Stp.newc hD, Stp.paint_same, upd_same⟩ (fun _ H2 _ h => by obtain ⟨_, c2, _, _, _, st, _⟩ := h; exact hG c2 H2 st) (fun i x H2 H2' hi h y => ?_) (fun H2 h => ?_)
  · obtain ⟨e, hx⟩ := y
    subst e
    obtain ⟨l, c2, h1, h2, S2, st2, cD, hl⟩ := h
    refine ⟨hw x, ?_⟩
    show te _ H2' _
    refine he i x c2 H2' _ hx S2 st2 fun a c3 H3 ga S3 st3 => ?_
    have hD3 := st3.keep _ _ hl (by rw [cD]; decide)
    have tk : ∀ b zs, H3 b = some (.tup zs) → (upd H3 D (.lst (l ++ [a]))) b = some (.tup zs) := fun b zs e => by rw [upd_ne (ne_of e hD3 (by intro z; cases z))]; exact e
    refine ⟨l, hD3, ?_, l ++ [a], c3, by rw [List.length_append, h1]; rfl, fun m y hm => ?_, S3.frame (I := fun i => i = 9) (Stp.own hD3 (by rw [st3.col _ _ hl, cD]) (fun xs z => by cases z)) (by decide), ?_, by rw [st3.col _ _ hl, cD], upd_same⟩
    · rw [h1]
      exact Nat.lt_of_lt_of_le (show i < 200000 by omega) (by decide)
    · by_cases hj : m < l.length
      · rw [List.getElem?_append_left hj] at hm
        exact mono _ _ _ _ (fun b zs e => tk b zs (st3.tup _ _ e)) (h2 m y hm)
      · rw [List.getElem?_append_right (by omega)] at hm
        cases hq : m - l.length with
        | zero =>
          rw [hq] at hm
          cases hm
          have : m = i := by omega
          subst this
          exact mono _ _ _ _ tk ga
        | succ n => rw [hq] at hm; cases hm
    · have st4 := st2.trans st3
      exact ⟨fun b o e n => by rw [upd_ne (ne_of_none e hD)]; exact st4.keep b o e n, st4.col, fun b xs e => by rw [upd_ne (ne_of_none e hD)]; exact st4.tup b xs e, fun b e => by
        by_cases z : b = D
        · subst z; rw [upd_same] at e; cases e
        · rw [upd_ne z] at e; exact st4.fre b e⟩
  · obtain ⟨l, c2, h1, h2, S2, st2, cD, hl⟩ := h
    exact k D l c2 H2 hD h1 h2 S2 st2 hl cD
theorem adr90 : ∀ i < 90, isAdr ((("00000000000000" : Str) ++ Str.ofString (toString ((10 + i : Nat) : Int))).cps.toList) = true := by decide +kernel
theorem S_of (x : Str) : SX.S x.cps.toList = x := by
  cases x
  rfl
def spPick : Sp := fun vs H Q _ => ∃ (c : Addr → Nat) (S q : Addr) (as : List (List Nat)), vs = [.ref S, .ref q] ∧ StateAt c H S ∧ H q = some (.lst (as.map strS)) ∧ c q = 9 ∧ (∀ a ∈ as, isAdr a = true) ∧ as.length ≤ 1000 ∧
  ∀ (a : List Nat) (c' : Addr → Nat) (H' : Hp), isAdr a = true → StateAt c' H' S → Stp (fun i => i = 0) c c' H H' → Q (.str (SX.S a)) H'
/-- pairs of a kind and a text in a list -/
def OrdAt (H : Hp) (o : Addr) (es : List (Addr × Bl)) : Prop := H o = some (.lst (es.map fun e => V.ref e.1)) ∧ ∀ e ∈ es, H e.1 = some (.tup [.str e.2.k.s, strS e.2.t])
def B0 : Str → Bl := fun _ => ⟨.lay, []⟩
structure FI (C : Addr) (S p d o : Addr) (n : Nat) (ks : List Str) (B : Str → Bl) (es : List (Addr × Bl)) (c : Addr → Nat) (H : Hp) : Prop where
  S : StateAt c H S
  st : StoreAt C c H p ks B
  bd : BlobsAt c H d ks B
  co : c o = 9
  ord : OrdAt H o es
  ok : ∀ e ∈ es, e.2.Ok
  le : es.length ≤ n
section
variable {C S p d o : Addr} {n : Nat} {ks : List Str} {B : Str → Bl} {es : List (Addr × Bl)} {c c' : Addr → Nat} {H H' : Hp}
theorem FI.step (F : FI C S p d o n ks B es c H) (S' : StateAt c' H' S) (s : Stp (fun i => i = 0) c c' H H') : FI C S p d o n ks B es c' H' :=
  ⟨S', F.st.frame s (by decide), F.bd.frame s (by decide), by rw [s.col _ _ F.ord.1, F.co], ⟨s.keep _ _ F.ord.1 (by rw [F.co]; decide), fun e he => s.tup _ _ (F.ord.2 e he)⟩, F.ok, F.le⟩
theorem FI.same (F : FI C S p d o n ks B es c H) (s : Same H H') : FI C S p d o n ks B es c H' := F.step (F.S.frame (I := fun _ => False) (Stp.same s) (by decide)) (Stp.same s)
theorem FI.samec (F : FI C S p d o n ks B es c H) {q : Addr} (s : Same H H') (nq : H q = none) : FI C S p d o n ks B es (Stp.paint c q 9) H' := F.step (F.S.frame (I := fun _ => False) (L2x_sameN (i := 9) s nq) (by decide)) (L2x_sameN s nq)
theorem FI.push {Q : VK} {t : Addr} {b : Bl} (F : FI C S p d o n ks B es c H) (ht : H t = some (.tup [.str b.k.s, strS b.t])) (hb : b.Ok) (hn : n < 1000)
    (k : ∀ H', FI C S p d o (n + 1) ks B (es ++ [(t, b)]) c H' → Stp (fun i => i = 9) c c H H' → (∀ x, x ≠ o → H' x = H x) → Q .non H') : rAppend (.ref o) [.ref t] H Q := by
  have hle := F.le
  refine g_append F.ord.1 (by rw [List.length_map]; omega) fun H' h' k' => ?_
  have st : Stp (fun i => i = 9) c c H H' := Stp.ch F.ord.1 F.co (fun xs z => by cases z) h' k'
  refine k H' ⟨F.S.frame st (by decide), F.st.frame st (by decide), F.bd.frame st (by decide), F.co, ⟨?_, fun e he => ?_⟩, fun e he => ?_, by rw [List.length_append]; show es.length + 1 ≤ _; omega⟩ st k'
  · rw [h', List.map_append]
    rfl
  · rcases List.mem_append.mp he with z | z
    · exact st.tup _ _ (F.ord.2 e z)
    · rw [List.mem_singleton.mp z]; exact st.tup _ _ ht
  · rcases List.mem_append.mp he with z | z
    · exact F.ok e z
    · rw [List.mem_singleton.mp z]; exact hb
end
def KOk (ks : List Str) : Prop := ∀ a ∈ ks, ∃ l, a = SX.S l ∧ isAdr l = true
def spFill (C : Addr) : Sp := fun vs H Q _ => ∃ (c : Addr → Nat) (S p d : Addr), vs = [.ref S, .ref p, .ref d] ∧ StateAt c H S ∧ StoreAt C c H p [] B0 ∧ BlobsAt c H d [] B0 ∧
  ∀ (ks : List Str) (B : Str → Bl) (c' : Addr → Nat) (H' : Hp), SWf ks B → KOk ks → ks.length ≤ 20 → StateAt c' H' S → StoreAt C c' H' p ks B → BlobsAt c' H' d ks B → Q (.bl true) H'
theorem img_ok {as : List (List Nat)} (h : ∀ a ∈ as, isAdr a = true) (hl : as.length ≤ 50) : (⟨.img, imgL as⟩ : Bl).Ok := by
  obtain ⟨h1, h2⟩ := img_t h (by omega)
  exact ⟨by show faultK "image" _ = none; unfold faultK; rw [if_neg (by decide +kernel), decide_eq_true rfl]; exact (fault_img h hl).1, h2, h1⟩
theorem bun_ok {ps : List (List Nat × List Nat)} (W : WFB ps) : (⟨.bun, bunL ps⟩ : Bl).Ok := by
  obtain ⟨h1, h2⟩ := bun_t W
  exact ⟨by show faultK "bundle" _ = none; unfold faultK; rw [if_neg (by decide +kernel), decide_eq_false (by decide +kernel)]; exact (fault_bun W).1, h2, h1⟩
theorem lay_ok {t : List Nat} (h : okC t) (hl : t.length ≤ 10000) : (⟨.lay, t⟩ : Bl).Ok := ⟨fault_lay t, hl, h⟩
theorem signs8_okC {l : List Nat} (h : ∀ x ∈ l, x ∈ signs8) : okC l := fun c hc => by
  have : ∀ c ∈ signs8, c < 0x110000 := by decide
  exact this c (h c hc)
theorem cut_take {xs : List V} {n : Nat} : cutV xs none (some (n : Int)) = xs.take n := by
  unfold cutV
  rw [HT.sIx_none, HT.sIx_nat, List.drop_zero, Nat.sub_zero]
  by_cases h : n ≤ xs.length
  · rw [Nat.min_eq_left h]
  · rw [Nat.min_eq_right (by omega), List.take_of_length_le (Nat.le_refl _), List.take_of_length_le (by omega)]
def nm3 : List (List Nat) := [[109, 105, 108, 108], [121, 97, 114, 100], [100, 111, 99, 107]]
theorem nm3_eq : ([.str "mill", .str "yard", .str "dock"] : List V) = nm3.map strS := by
  have h : (["mill", "yard", "dock"] : List Str) = nm3.map SX.S := by decide +kernel
  have h2 := congrArg (List.map V.str) h
  rw [List.map_map] at h2
  exact h2
theorem nm3_pl : ∀ p ∈ nm3, isPlat p = true := by decide
theorem nm3_nd (n : Nat) : (nm3.take n).Nodup := (show nm3.Nodup by decide).sublist (List.take_sublist _ _)
section
variable {P : Program} {w : World} {K : PySem.W.Frag} {mg : Str → Option Value} {base : Heap} {C_Store C_Refused C_Malformed a_KINDS a_BELOW : Addr}
theorem ok__law_pick (T : Txt w K mg C_Store C_Refused C_Malformed a_KINDS a_BELOW) : Cal P w K mg base 2 "_law_pick" spPick := by
  have c__law_take : Cal P w K mg base 1 "_law_take" spTake := ok__law_take T
  refine cal_mk T.d__law_pick sc__law_pick (fun vs H Q E h => ?_) (fun f cdv A outer s H vs Q E hr h => ?_)
  · obtain ⟨c, S, q, as, rfl, _⟩ := h
    rfl
  · obtain ⟨c, S, q, as, rfl, S0, hq, cq, has, hl, k⟩ := h
    refine ⟨_, (pss_cons (ps_if (PW.pt (pw_or (pt_cmpR op_eq (pe_callB call_len_seq' (by rfl) T.n_len (by decide +kernel) (pa_cons (pv 1) pa_nil)) (pe_int) (nomark _)) (pw_or1 (pt_cmpR op_eq (pe_c c__law_take hr (by first | decide | omega) rfl (pa_cons (pv 0) (pa_cons (pe_int) pa_nil))) (pe_int) (nomark _))))) (pss_one (ps_ret (pe_op op_cat_str (pe_str) (pe_callTy call_str_int (by rfl) T.n_str (by decide +kernel) (pa_cons (pe_op op_add (pe_int) (pe_c c__law_take hr (by first | decide | omega) rfl (pa_cons (pv 0) (pa_cons (pe_int) pa_nil)))) pa_nil))))) pss_nil)
      (pss_one (ps_ret (pe_ix ix_list (pv 1) (pe_op op_sub (pe_op op_sub (pe_callB call_len_seq' (by rfl) T.n_len (by decide +kernel) (pa_cons (pv 1) pa_nil)) (pe_int)) (pe_c c__law_take hr (by first | decide | omega) rfl (pa_cons (pv 0) (pa_cons (pe_callB call_len_seq' (by rfl) T.n_len (by decide +kernel) (pa_cons (pv 1) pa_nil)) pa_nil)))) (fun _ _ => rfl))))), ?_⟩
    have fresh : ∀ (r : Int) (c1 : Addr → Nat) (H1 : Hp), 0 ≤ r → r < 90 → StateAt c1 H1 S → Stp (fun i => i = 0) c c1 H H1 → rCatS (.str "00000000000000") (.str (Str.ofString (toString (10 + r)))) H1 Q := fun r c1 H1 r0 r1 S1 st1 => by
      obtain ⟨i, rfl⟩ := Int.eq_ofNat_of_zero_le r0
      have ha := adr90 i (by omega)
      have e : (10 + (i : Int)) = ((10 + i : Nat) : Int) := by omega
      rw [e]
      have hlen := adr_len ha
      have hll : (("00000000000000" : Str) ++ Str.ofString (toString ((10 + i : Nat) : Int))).length = 16 := hlen
      refine ⟨_, _, rfl, rfl, ?_, ?_⟩
      · have h2 : (("00000000000000" : Str) ++ Str.ofString (toString ((10 + i : Nat) : Int))).length = ("00000000000000" : Str).length + (Str.ofString (toString ((10 + i : Nat) : Int))).length := by
          unfold Str.length
          show (("00000000000000" : Str).cps ++ (Str.ofString (toString ((10 + i : Nat) : Int))).cps).size = _
          rw [Array.size_append]
        rw [← h2, hll]
        decide
      · rw [← S_of (("00000000000000" : Str) ++ Str.ofString (toString ((10 + i : Nat) : Int)))]
        exact k _ c1 H1 ha S1 st1
    walk_at "lw"
    rw [List.length_map]
    refine if2 (fun h0 => ?_) (fun h0 => ?_)
    · walk_at "lw"
      refine ⟨c, S, 90, rfl, S0, by decide, by decide, fun r c1 H1 r0 r1 S1 st1 => ?_⟩
      walk_at "lw"
      refine ⟨_, rfl, Nat.lt_of_le_of_lt (Nat.log2_le_self _) (by omega), ?_⟩
      exact fresh r c1 H1 r0 r1 S1 st1
    · have h0 : ¬ as.length = 0 := fun z => h0 (by rw [z]; rfl)
      walk_at "lw"
      refine ⟨c, S, 8, rfl, S0, by decide, by decide, fun r c1 H1 r0 r1 S1 st1 => ?_⟩
      walk_at "lw"
      refine if2 (fun h1 => ?_) (fun h1 => ?_)
      · walk_at "lw"
        refine ⟨c1, S, 90, rfl, S1, by decide, by decide, fun r c2 H2 r0 r1 S2 st2 => ?_⟩
        walk_at "lw"
        refine ⟨_, rfl, Nat.lt_of_le_of_lt (Nat.log2_le_self _) (by omega), ?_⟩
        exact fresh r c2 H2 r0 r1 S2 (st1.trans st2)
      · have hq1 := st1.keep _ _ hq (by rw [cq]; decide)
        have cq1 : c1 q = 9 := by rw [st1.col _ _ hq, cq]
        walk_at "lw"
        rw [List.length_map]
        refine ⟨c1, S, _, rfl, S1, by omega, by omega, fun r c2 H2 r0 r1 S2 st2 => ?_⟩
        obtain ⟨v, hv, hat⟩ := at_in (xs := as) (i := (as.length : Int) - 1 - r) (by omega) (by omega)
        walk_at "lw"
        refine g_rix (SqL.of (st2.keep _ _ hq1 (by rw [cq1]; decide))) (atI_map hat) ?_
        exact k v c2 H2 (has v (List.mem_of_getElem? hv)) S2 (st1.trans st2)
theorem ok__law_fill (T : Txt w K mg C_Store C_Refused C_Malformed a_KINDS a_BELOW) : Cal P w K mg base 3 "_law_fill" (spFill C_Store) := by
  have c__law_take : Cal P w K mg base 1 "_law_take" spTake := ok__law_take T
  have c__law_text : Cal P w K mg base 2 "_law_text" spText := ok__law_text T
  have c__law_pick : Cal P w K mg base 2 "_law_pick" spPick := ok__law_pick T
  have c_address_of : Cal P w K mg base 1 "address_of" spAddr := ok_address_of T
  have c_image_text : Cal P w K mg base 1 "image_text" spImg := ok_image_text T
  have c_bundle_text : Cal P w K mg base 1 "bundle_text" spBun := ok_bundle_text T
  have t_Store_keep : Met P w K mg base 2 C_Store "keep" (spKeep C_Store) := ok_Store_keep T
  refine cal_mk T.d__law_fill sc__law_fill (fun vs H Q E h => ?_) (fun f cdv A outer s H vs Q E hr h => ?_)
  · obtain ⟨c, S, p, d, rfl, _⟩ := h
    rfl
  · obtain ⟨c, S, p, d, rfl, S0, W0, D0, k⟩ := h
    have hu := hu_of hr
    refine ⟨_, (pss_cons (ps_set (i := 3) sc__law_fill.nd rfl (by first | exact Or.inl rfl | exact Or.inr rfl) (pe_lst pa_nil))
      (pss_cons (ps_for PassesOwn.never rfl (pi_range1 (by rfl) T.n_range (pa_cons (pe_c c__law_take hr (by first | decide | omega) rfl (pa_cons (pv 0) (pa_cons (pe_int) pa_nil))) pa_nil)) (pg_name (i := 4) sc__law_fill.nd rfl (by first | exact Or.inl rfl | exact Or.inr rfl)) (pss_one (ps_expr (pe_bm PySem.F.plainAttrs_list PySem.F.slot_list_append PySem.F.type_list_append mt_append (pv 3) (pa_cons (pe_tup (pa_cons (pe_str) (pa_cons (pe_c c__law_text hr (by first | decide | omega) rfl (pa_cons (pv 0) (pa_cons (pe_int) pa_nil))) pa_nil))) pa_nil)))))
      (pss_cons (ps_set (i := 5) sc__law_fill.nd rfl (by first | exact Or.inl rfl | exact Or.inr rfl) (pe_lc (own := [("_law_pair", 12)]) (g := (gName 12)) (by rfl) sc__law_fill.nd (pi_list (pv 3)) (blkOk_by (own := [("_law_pair", 12)]) (N := n__law_fill) (sc := defScope s__law_fill) (by decide +kernel)) (fun _ _ _ _ _ => (pg_name (i := 12) sc__law_fill.nd rfl (by first | exact Or.inl rfl | exact Or.inr rfl))) (fun _ _ _ _ _ => pts_nil) (fun _ _ _ _ _ => (pe_c c_address_of hr (by first | decide | omega) rfl (pa_cons (pe_str) (pa_cons (pe_ix (ix_tupK K rfl) (pv 12) (pe_int) (fun _ _ => rfl)) pa_nil))))))
      (pss_cons (ps_for PassesOwn.never rfl (pi_range1 (by rfl) T.n_range (pa_cons (pe_c c__law_take hr (by first | decide | omega) rfl (pa_cons (pv 0) (pa_cons (pe_int) pa_nil))) pa_nil)) (pg_name (i := 4) sc__law_fill.nd rfl (by first | exact Or.inl rfl | exact Or.inr rfl)) (pss_cons (ps_setLc (i := 6) (own := [("_law_j", 13)]) (g := (gName 13)) (by rfl) sc__law_fill.nd rfl rfl (sw_true rfl rfl rfl (by decide +kernel)) (pi_range1 (by rfl) T.n_range (pa_cons (pe_c c__law_take hr (by first | decide | omega) rfl (pa_cons (pv 0) (pa_cons (pe_int) pa_nil))) pa_nil)) (blkOk_by (own := [("_law_j", 13)]) (N := n__law_fill) (sc := defScope s__law_fill) (by decide +kernel)) (fun _ _ _ _ _ => (pg_name (i := 13) sc__law_fill.nd rfl (by first | exact Or.inl rfl | exact Or.inr rfl))) (fun _ _ _ _ _ => pts_nil) (fun _ _ _ _ _ => (pe_c c__law_pick hr (by first | decide | omega) rfl (pa_cons (pv 0) (pa_cons (pv 5) pa_nil)))))
      (C8.pss_cut (ps_if (PW.pt (pw_and (pt_cmpR op_eq (pe_c c__law_take hr (by first | decide | omega) rfl (pa_cons (pv 0) (pa_cons (pe_int) pa_nil))) (pe_int) (nomark _)) (pw_and1 (pt_cmpR op_gt (pe_callB call_len_seq' (by rfl) T.n_len (by decide +kernel) (pa_cons (pv 3) pa_nil)) (pe_int) (nomark _))))) (pss_one (ps_expr (pe_bm PySem.F.plainAttrs_list PySem.F.slot_list_append PySem.F.type_list_append mt_append (pv 6) (pa_cons (pe_c c_address_of hr (by first | decide | omega) rfl (pa_cons (pe_ix ix_tup (pe_ix ix_list (pv 3) (pe_op op_sub (pe_callB call_len_seq' (by rfl) T.n_len (by decide +kernel) (pa_cons (pv 3) pa_nil)) (pe_int)) (fun _ _ => rfl)) (pe_int) (fun _ _ => rfl)) (pa_cons (pe_ix ix_tup (pe_ix ix_list (pv 3) (pe_op op_sub (pe_callB call_len_seq' (by rfl) T.n_len (by decide +kernel) (pa_cons (pv 3) pa_nil)) (pe_int)) (fun _ _ => rfl)) (pe_int) (fun _ _ => rfl)) pa_nil))) pa_nil)))) pss_nil)
      (pss_one (ps_expr (pe_bm PySem.F.plainAttrs_list PySem.F.slot_list_append PySem.F.type_list_append mt_append (pv 3) (pa_cons (pe_tup (pa_cons (pe_str) (pa_cons (pe_c c_image_text hr (by first | decide | omega) rfl (pa_cons (pv 6) pa_nil)) pa_nil))) pa_nil)))))))
      (pss_cons (ps_set (i := 7) sc__law_fill.nd rfl (by first | exact Or.inl rfl | exact Or.inr rfl) (pe_lc (own := [("_law_pair", 12)]) (g := (gName 12)) (by rfl) sc__law_fill.nd (pi_list (pv 3)) (blkOk_by (own := [("_law_pair", 12)]) (N := n__law_fill) (sc := defScope s__law_fill) (by decide +kernel)) (fun _ _ _ _ _ => (pg_name (i := 12) sc__law_fill.nd rfl (by first | exact Or.inl rfl | exact Or.inr rfl))) (fun _ _ _ _ _ => pts_nil) (fun _ _ _ _ _ => (pe_c c_address_of hr (by first | decide | omega) rfl (pa_cons (pe_ix (ix_tupK K rfl) (pv 12) (pe_int) (fun _ _ => rfl)) (pa_cons (pe_ix (ix_tupK K rfl) (pv 12) (pe_int) (fun _ _ => rfl)) pa_nil))))))
      (pss_cons (ps_for PassesOwn.never rfl (pi_range1 (by rfl) T.n_range (pa_cons (pe_c c__law_take hr (by first | decide | omega) rfl (pa_cons (pv 0) (pa_cons (pe_int) pa_nil))) pa_nil)) (pg_name (i := 4) sc__law_fill.nd rfl (by first | exact Or.inl rfl | exact Or.inr rfl)) (pss_cons (ps_set (i := 8) sc__law_fill.nd rfl (by first | exact Or.inl rfl | exact Or.inr rfl) (pe_slice sl_list (pe_lst (pa_cons (pe_str) (pa_cons (pe_str) (pa_cons (pe_str) pa_nil)))) po_none (po_some (pe_op op_add (pe_int) (pe_c c__law_take hr (by first | decide | omega) rfl (pa_cons (pv 0) (pa_cons (pe_int) pa_nil)))))))
      (pss_one (ps_expr (pe_bm PySem.F.plainAttrs_list PySem.F.slot_list_append PySem.F.type_list_append mt_append (pv 3) (pa_cons (pe_tup (pa_cons (pe_str) (pa_cons (pe_c c_bundle_text hr (by first | decide | omega) rfl (pa_cons (pe_lc (own := [("_law_name", 14)]) (g := (gName 14)) (by rfl) sc__law_fill.nd (pi_list (pv 8)) (blkOk_by (own := [("_law_name", 14)]) (N := n__law_fill) (sc := defScope s__law_fill) (by decide +kernel)) (fun _ _ _ _ _ => (pg_name (i := 14) sc__law_fill.nd rfl (by first | exact Or.inl rfl | exact Or.inr rfl))) (fun _ _ _ _ _ => pts_nil) (fun _ _ _ _ _ => (pe_tup (pa_cons (pv 14) (pa_cons (pe_c c__law_pick hr (by first | decide | omega) rfl (pa_cons (pv 0) (pa_cons (pv 7) pa_nil))) pa_nil))))) pa_nil)) pa_nil))) pa_nil))))))
      (pss_cons (ps_for PassesOwn.never rfl (pi_list (pv 3)) (pg_tup (by rfl) (pgs_cons (pg_name (i := 9) sc__law_fill.nd rfl (by first | exact Or.inl rfl | exact Or.inr rfl)) (pgs_cons (pg_name (i := 10) sc__law_fill.nd rfl (by first | exact Or.inl rfl | exact Or.inr rfl)) pgs_nil))) (pss_cons (ps_set (i := 11) sc__law_fill.nd rfl (by first | exact Or.inl rfl | exact Or.inr rfl) (pe_mt t_Store_keep hr (by first | decide | omega) (pv 1) (pa_cons (pv 9) (pa_cons (pv 10) pa_nil))))
      (pss_cons (ps_if (pt_cmpR op_ne (pv 11) (pe_c c_address_of hr (by first | decide | omega) rfl (pa_cons (pv 9) (pa_cons (pv 10) pa_nil))) (nomark _)) (pss_one (ps_ret (pe_bl))) pss_nil)
      (pss_one (ps_dput hu (pv 2) (pv 11) (pe_tup (pa_cons (pv 9) (pa_cons (pv 10) pa_nil))) rfl)))))
      (pss_one (ps_ret (pe_bl)))))))))), ?_⟩
    walk_at "lw"
    refine g_klst (by show 0 ≤ 100; decide) fun o H1 no s1 ho => ?_
    have st1 : Stp (fun _ => False) c (Stp.paint c o 9) H H1 := L2x_sameN s1 no
    have F1 : FI C_Store S p d o 0 [] B0 [] (Stp.paint c o 9) H1 := ⟨S0.frame st1 (by decide), W0.frame st1 (by decide), D0.frame st1 (by decide), Stp.paint_same, ⟨ho, fun e he => nomatch he⟩, (fun e he => nomatch he), Nat.le_refl _⟩
    generalize Stp.paint c o 9 = c1 at F1
    clear st1 S0 W0 D0 s1 no ho
    walk_at "lw"
    refine ⟨c1, S, 5, rfl, F1.S, by decide, by decide, fun r c2 H2 r0 r1 S2 st2 => ?_⟩
    have F2 := F1.step S2 st2
    clear F1 S2 st2
    walk_at "lw"
    refine g_for1 r0 (by omega) (fun i σ H => ∃ (c : Addr → Nat) (es : List (Addr × Bl)) (v : Option V), σ = [some (.ref S), some (.ref p), some (.ref d), some (.ref o), v, none, none, none, none, none, none, none, none, none, none] ∧ FI C_Store S p d o i [] B0 es c H) ⟨c2, [], _, rfl, F2⟩ ?_ ?_
    · rintro i σ H3 hi ⟨c3, es, v, rfl, F3⟩
      walk_at "lw"
      refine g_tyL F3.ord.1 ?_
      walk_at "lw"
      refine ⟨c3, S, 4, rfl, F3.S, by decide, by decide, fun l c4 H4 hl hx S4 st4 => ?_⟩
      have F4 := F3.step S4 st4
      walk_at "lw"
      refine g_ktup (by show 2 ≤ 100; decide) fun t H5 nt s5 ht => ?_
      walk_at "lw"
      refine (F4.same s5).push (b := ⟨.lay, l⟩) ht (lay_ok (signs8_okC hx) (by omega)) (by omega) fun H6 F6 _ _ => ?_
      walk_at "lw"
      exact ⟨c4, _, _, rfl, F6⟩
    rintro σ H3 ⟨c3, es, v, rfl, F3⟩
    clear F2
    have F3 : FI C_Store S p d o 4 [] B0 es c3 H3 := ⟨F3.S, F3.st, F3.bd, F3.co, F3.ord, F3.ok, by have := F3.le; omega⟩
    walk_at "lw"
    refine g_ritL (SqL.of F3.ord.1) ?_
    refine lc_map (G := fun H' => SqL K H' o (es.map fun e => V.ref e.1)) walk_list (fun H' s => SqL.of (s _ _ F3.ord.1)) (by rw [List.length_map]; have := F3.le; omega) (fun _ => true)
      (fun v => match v with | .ref a => (match H3 a with | some (.tup [_, .str y]) => strS (adrL "layer" y.cps.toList) | _ => .non) | _ => .non) ?_ ?_
    · intro x hx H' R s1 kk
      obtain ⟨e, he, rfl⟩ := List.mem_map.mp hx
      have h3 := F3.ord.2 e he
      walk_at "lw"
      refine kk _ rfl (fun H'' R s2 r => ?_) (fun hp' H'' R s2 r => ?_)
      · walk_at "lw"
        exact r
      · walk_at "lw"
        refine g_rixT (SqT.of (s2.at h3)) (j := 1) (v := strS e.2.t) rfl ?_
        walk_at "lw"
        refine ⟨"layer", e.2.t, rfl, by decide +kernel, ?_⟩
        have r := r H'' (Same.refl _)
        simp only [h3] at r
        exact r
    intro L H4 nL s4 hL
    rw [List.filter_eq_self.mpr (fun _ _ => rfl), List.map_map] at hL
    have eL : es.map ((fun v => match v with | .ref a => (match H3 a with | some (.tup [_, .str y]) => strS (adrL "layer" y.cps.toList) | _ => .non) | _ => .non) ∘ fun e => V.ref e.1) = (es.map fun e => adrL "layer" e.2.t).map strS := by
      rw [List.map_map]
      refine List.map_congr_left fun e he => ?_
      simp only [Function.comp, F3.ord.2 e he, strS]
    rw [eL] at hL
    have noL : L ≠ o := fun z => by rw [z, F3.ord.1] at nL; cases nL
    have F4 := F3.samec s4 nL
    have cL : (Stp.paint c3 L 9) L = 9 := Stp.paint_same
    generalize Stp.paint c3 L 9 = c4 at F4 cL
    generalize hls : es.map (fun e => adrL "layer" e.2.t) = ls at hL
    have hla : ∀ a ∈ ls, isAdr a = true := fun a ha => by
      rw [← hls] at ha
      obtain ⟨e, _, rfl⟩ := List.mem_map.mp ha
      exact adr_is _ _
    have hll : ls.length ≤ 4 := by rw [← hls, List.length_map]; exact F3.le
    clear F3 hls eL s4 nL
    walk_at "lw"
    refine ⟨c4, S, 5, rfl, F4.S, by decide, by decide, fun r c5 H5 r0 r1 S5 st5 => ?_⟩
    have F5 := F4.step S5 st5
    have hL5 := st5.keep _ _ hL (by rw [cL]; decide)
    have cL5 : c5 L = 9 := by rw [st5.col _ _ hL, cL]
    clear F4 S5 st5 hL cL
    walk_at "lw"
    refine g_for1 r0 (by omega) (fun i σ H => ∃ (c : Addr → Nat) (es : List (Addr × Bl)) (v v6 : Option V), σ = [some (.ref S), some (.ref p), some (.ref d), some (.ref o), v, some (.ref L), v6, none, none, none, none, none, none, none, none] ∧ FI C_Store S p d o (4 + i) [] B0 es c H ∧ H L = some (.lst (ls.map strS)) ∧ c L = 9) ⟨c5, es, _, _, rfl, F5, hL5, cL5⟩ ?_ ?_
    · clear F5 hL5 cL5
      rintro i σ H6 hi ⟨c6, es, v, v6, rfl, F6, hL6, cL6⟩
      walk_at "lw"
      refine ⟨c6, S, 5, rfl, F6.S, by decide, by decide, fun m c7 H7 m0 m1 S7 st7 => ?_⟩
      have F7 := F6.step S7 st7
      have hL7 := st7.keep _ _ hL6 (by rw [cL6]; decide)
      have cL7 : c7 L = 9 := by rw [st7.col _ _ hL6, cL6]
      clear F6 S7 st7
      walk_at "lw"
      refine g_ritR m0 (by omega) ?_
      refine lc_draw walk_rng (by rw [List.length_map, List.length_range]; omega) strS (fun a => isAdr a = true) F7.S (fun x => rfl) (fun x c8 H8 R S8 st8 kk => ?_) ?_
      · walk_at "lw"
        exact ⟨c8, S, L, ls, rfl, S8, st8.keep _ _ hL7 (by rw [cL7]; decide), by rw [st8.col _ _ hL7, cL7], hla, by omega, fun a c9 H9 ha S9 st9 => kk a c9 H9 ha S9 st9⟩
      intro q as c8 H8 nq hlen has S8 st8 hq cq
      rw [List.length_map, List.length_range] at hlen
      have F8 := F7.step S8 st8
      have hL8 := st8.keep _ _ hL7 (by rw [cL7]; decide)
      have cL8 : c8 L = 9 := by rw [st8.col _ _ hL7, cL7]
      have noq : q ≠ o := fun z => by rw [z, F7.ord.1] at nq; cases nq
      have nqL : q ≠ L := fun z => by rw [z, hL7] at nq; cases nq
      clear F7 S8 st8 nq
      walk_at "lw"
      refine g_cut (fun σ H => ∃ (c : Addr → Nat) (as : List (List Nat)) (v : Option V), σ = [some (.ref S), some (.ref p), some (.ref d), some (.ref o), some (.int (i : Int)), some (.ref L), some (.ref q), none, none, none, none, none, none, none, none] ∧ FI C_Store S p d o (4 + i) [] B0 es c H ∧ H L = some (.lst (ls.map strS)) ∧ c L = 9 ∧
        H q = some (.lst (as.map strS)) ∧ (∀ a ∈ as, isAdr a = true) ∧ as.length ≤ 5) ?_ ?_
      · walk_at "lw"
        refine ⟨c8, S, 9, rfl, F8.S, by decide, by decide, fun r c9 H9 r0 r1 S9 st9 => ?_⟩
        have F9 := F8.step S9 st9
        have hL9 := st9.keep _ _ hL8 (by rw [cL8]; decide)
        have cL9 : c9 L = 9 := by rw [st9.col _ _ hL8, cL8]
        have hq9 := st9.keep _ _ hq (by rw [cq]; decide)
        have cq9 : c9 q = 9 := by rw [st9.col _ _ hq, cq]
        walk_at "lw"
        refine if2 (fun hz => ?_) (fun hz => ?_)
        · have ho9 := F9.ord.1
          walk_at "lw"
          rw [List.length_map]
          refine if2 (fun hz2 => ?_) (fun hz2 => ?_)
          · have hlast : es[es.length - 1]? = some (es[es.length - 1]'(by omega)) := List.getElem?_eq_getElem (by omega)
            generalize es[es.length - 1]'(by omega) = e at hlast
            have hatE : atI (es.map fun e => V.ref e.1) ((es.length : Int) - 1) = some (.ref e.1) := by
              have := atI_map (f := fun e : Addr × Bl => V.ref e.1) (atI_nat hlast)
              rw [show ((es.length - 1 : Nat) : Int) = (es.length : Int) - 1 by omega] at this
              exact this
            have he3 := F9.ord.2 e (List.mem_of_getElem? hlast)
            walk_at "lw"
            refine g_tyL hq9 ?_
            walk_at "lw"
            rw [List.length_map]
            refine g_rix (SqL.of ho9) hatE ?_
            walk_at "lw"
            refine g_rixT (SqT.of he3) (j := 0) (v := .str e.2.k.s) rfl ?_
            walk_at "lw"
            rw [List.length_map]
            refine g_rix (SqL.of ho9) hatE ?_
            walk_at "lw"
            refine g_rixT (SqT.of he3) (j := 1) (v := strS e.2.t) rfl ?_
            walk_at "lw"
            refine ⟨e.2.k.s, e.2.t, rfl, e.2.k.s_kind, ?_⟩
            walk_at "lw"
            refine g_append hq9 (by rw [List.length_map]; omega) fun H10 h10 k10 => ?_
            have st10 : Stp (fun i => i = 9) c9 c9 H9 H10 := Stp.ch hq9 cq9 (fun xs z => by cases z) h10 k10
            walk_at "lw"
            refine ⟨c9, as ++ [adrL e.2.k.s e.2.t], none, rfl, ⟨F9.S.frame st10 (by decide), F9.st.frame st10 (by decide), F9.bd.frame st10 (by decide), F9.co, ⟨by rw [k10 o noq.symm]; exact ho9, fun e he => st10.tup _ _ (F9.ord.2 e he)⟩, F9.ok, F9.le⟩, by rw [k10 L nqL.symm]; exact hL9, cL9, by rw [h10, List.map_append]; rfl, fun a ha => ?_, by rw [List.length_append]; show as.length + 1 ≤ 5; omega⟩
            rcases List.mem_append.mp ha with z | z
            · exact has a z
            · rw [List.mem_singleton.mp z]; exact adr_is _ _
          · walk_at "lw"
            exact ⟨c9, as, none, rfl, F9, hL9, cL9, hq9, has, by omega⟩
        · walk_at "lw"
          exact ⟨c9, as, none, rfl, F9, hL9, cL9, hq9, has, by omega⟩
      · clear F8 hL8 cL8 has hlen hq cq
        rintro σ H9 ⟨c9, as, _, rfl, F9, hL9, cL9, hq9, has, hlen⟩
        walk_at "lw"
        refine g_tyL F9.ord.1 ?_
        walk_at "lw"
        refine ⟨q, as, rfl, hq9, by omega, fun a ha => by rw [adr_len (has a ha)]; decide, fun H10 s10 => ?_⟩
        walk_at "lw"
        refine g_ktup (by show 2 ≤ 100; decide) fun t H11 nt s11 ht => ?_
        walk_at "lw"
        have s911 := s10.trans s11
        refine (F9.same s911).push (b := ⟨.img, imgL as⟩) ht (img_ok has (by omega)) (by omega) fun H12 F12 st12 k12 => ?_
        walk_at "lw"
        exact ⟨c9, _, _, _, rfl, F12, by rw [k12 L noL]; exact s911.at hL9, cL9⟩
    clear F5 hL5 cL5
    rintro σ H6 ⟨c6, es, v, v6, rfl, F6, hL6, cL6⟩
    have F6 : FI C_Store S p d o 9 [] B0 es c6 H6 := ⟨F6.S, F6.st, F6.bd, F6.co, F6.ord, F6.ok, by have := F6.le; omega⟩
    clear hL6 cL6 hla hll
    walk_at "lw"
    refine g_ritL (SqL.of F6.ord.1) ?_
    refine lc_map (G := fun H' => SqL K H' o (es.map fun e => V.ref e.1)) walk_list (fun H' s => SqL.of (s _ _ F6.ord.1)) (by rw [List.length_map]; have := F6.le; omega) (fun _ => true)
      (fun v => match v with | .ref a => (match H6 a with | some (.tup [.str k, .str y]) => strS (adrL k y.cps.toList) | _ => .non) | _ => .non) ?_ ?_
    · intro x hx H' R s1 kk
      obtain ⟨e, he, rfl⟩ := List.mem_map.mp hx
      have h3 := F6.ord.2 e he
      walk_at "lw"
      refine kk _ rfl (fun H'' R s2 r => ?_) (fun hp' H'' R s2 r => ?_)
      · walk_at "lw"
        exact r
      · walk_at "lw"
        refine g_rixT (SqT.of (s2.at h3)) (j := 0) (v := .str e.2.k.s) rfl ?_
        walk_at "lw"
        refine g_rixT (SqT.of (s2.at h3)) (j := 1) (v := strS e.2.t) rfl ?_
        walk_at "lw"
        refine ⟨e.2.k.s, e.2.t, rfl, e.2.k.s_kind, ?_⟩
        have r := r H'' (Same.refl _)
        simp only [h3] at r
        exact r
    intro Kn H7 nK s7 hK
    rw [List.filter_eq_self.mpr (fun _ _ => rfl), List.map_map] at hK
    have eK : es.map ((fun v => match v with | .ref a => (match H6 a with | some (.tup [.str k, .str y]) => strS (adrL k y.cps.toList) | _ => .non) | _ => .non) ∘ fun e => V.ref e.1) = (es.map fun e => adrL e.2.k.s e.2.t).map strS := by
      rw [List.map_map]
      refine List.map_congr_left fun e he => ?_
      simp only [Function.comp, F6.ord.2 e he, strS]
    rw [eK] at hK
    have noK : Kn ≠ o := fun z => by rw [z, F6.ord.1] at nK; cases nK
    have F7 := F6.samec s7 nK
    have cK : (Stp.paint c6 Kn 9) Kn = 9 := Stp.paint_same
    generalize Stp.paint c6 Kn 9 = c7 at F7 cK
    generalize hls : es.map (fun e => adrL e.2.k.s e.2.t) = kn at hK
    have hka : ∀ a ∈ kn, isAdr a = true := fun a ha => by
      rw [← hls] at ha
      obtain ⟨e, _, rfl⟩ := List.mem_map.mp ha
      exact adr_is _ _
    have hkl : kn.length ≤ 9 := by rw [← hls, List.length_map]; exact F6.le
    clear F6 hls eK s7 nK
    walk_at "lw"
    refine ⟨c7, S, 4, rfl, F7.S, by decide, by decide, fun r c8 H8 r0 r1 S8 st8 => ?_⟩
    have F8 := F7.step S8 st8
    have hK8 := st8.keep _ _ hK (by rw [cK]; decide)
    have cK8 : c8 Kn = 9 := by rw [st8.col _ _ hK, cK]
    clear F7 S8 st8 hK cK
    walk_at "lw"
    refine g_for1 r0 (by omega) (fun i σ H => ∃ (c : Addr → Nat) (es : List (Addr × Bl)) (v v8 : Option V), σ = [some (.ref S), some (.ref p), some (.ref d), some (.ref o), v, some (.ref L), v6, some (.ref Kn), v8, none, none, none, none, none, none] ∧ FI C_Store S p d o (9 + i) [] B0 es c H ∧ H Kn = some (.lst (kn.map strS)) ∧ c Kn = 9) ⟨c8, es, _, _, rfl, F8, hK8, cK8⟩ ?_ ?_
    · clear F8 hK8 cK8
      rintro i σ H9 hi ⟨c9, es, v, v8, rfl, F9, hK9, cK9⟩
      walk_at "lw"
      refine g_klst (by show 3 ≤ 100; decide) fun nl H10 nn s10 hnl => ?_
      rw [nm3_eq] at hnl
      have F10 := F9.samec s10 nn
      have cn : (Stp.paint c9 nl 9) nl = 9 := Stp.paint_same
      have cK10 : (Stp.paint c9 nl 9) Kn = 9 := by rw [Stp.paint_ne (ne_of_none hK9 nn)]; exact cK9
      have hK10 := s10.at hK9
      generalize Stp.paint c9 nl 9 = c10 at F10 cn cK10
      clear F9 hK9 cK9 s10 nn
      walk_at "lw"
      refine ⟨c10, S, 3, rfl, F10.S, by decide, by decide, fun m c11 H11 m0 m1 S11 st11 => ?_⟩
      have F11 := F10.step S11 st11
      have hn11 := st11.keep _ _ hnl (by rw [cn]; decide)
      have hK11 := st11.keep _ _ hK10 (by rw [cK10]; decide)
      have cK11 : c11 Kn = 9 := by rw [st11.col _ _ hK10, cK10]
      clear F10 S11 st11 hnl cn hK10 cK10
      walk_at "lw"
      refine g_slL (SqL.of hn11) fun n2 H12 nn2 s12 hn2 => ?_
      obtain ⟨m, rfl⟩ := Int.eq_ofNat_of_zero_le m0
      rw [show (1 + (m : Int)) = ((m + 1 : Nat) : Int) by omega, cut_take, ← List.map_take] at hn2
      have F12 := F11.samec s12 nn2
      have c2 : (Stp.paint c11 n2 9) n2 = 9 := Stp.paint_same
      have cK12 : (Stp.paint c11 n2 9) Kn = 9 := by rw [Stp.paint_ne (ne_of_none hK11 nn2)]; exact cK11
      have hK12 := s12.at hK11
      generalize Stp.paint c11 n2 9 = c12 at F12 c2 cK12
      clear F11 hK11 cK11 s12 nn2 hn11
      have hnd := nm3_nd (m + 1)
      have hpl : ∀ p ∈ nm3.take (m + 1), isPlat p = true := fun p hp => nm3_pl p (List.mem_of_mem_take hp)
      have hnl : (nm3.take (m + 1)).length = m + 1 := by rw [List.length_take, show nm3.length = 3 from rfl]; omega
      generalize nm3.take (m + 1) = nms at hn2 hnd hpl hnl
      walk_at "lw"
      refine g_tyL F12.ord.1 ?_
      walk_at "lw"
      refine g_ritL (SqL.of hn2) ?_
      refine lc_drawG (G := fun H' => SqL K H' n2 (nms.map strS)) walk_list (fun c' H' st => SqL.of (st.keep _ _ hn2 (by rw [c2]; decide))) (by rw [List.length_map]; omega) (fun i y H => ∃ e : Addr × List Nat × List Nat, y = .ref e.1 ∧ (nms[i]? = some e.2.1 ∧ isAdr e.2.2 = true ∧ H e.1 = some (.tup [strS e.2.1, strS e.2.2])))
        (fun i y H1 H2 tk ⟨e, e1, e2, e3, e4⟩ => ⟨e, e1, e2, e3, tk _ _ e4⟩) F12.S (fun x => rfl) (fun i x c13 H13 R hx S13 st13 kk => ?_) ?_
      · obtain ⟨nm, hnm, rfl⟩ := map_at hx
        walk_at "lw"
        refine ⟨c13, S, Kn, kn, rfl, S13, st13.keep _ _ hK12 (by rw [cK12]; decide), by rw [st13.col _ _ hK12, cK12], hka, by omega, fun a c14 H14 ha S14 st14 => ?_⟩
        walk_at "lw"
        refine g_ktup (by show 2 ≤ 100; decide) fun u H15 nu s15 hu => ?_
        exact kk (.ref u) c14 H15 ⟨(u, nm, a), rfl, hnm, ha, hu⟩ (S14.frame (I := fun _ => False) (Stp.same s15) (by decide)) (st14.trans (Stp.same s15))
      · intro q ys c13 H13 nq hlen hR S13 st13 hq cq
        rw [List.length_map] at hlen
        obtain ⟨ps, rfl, hps⟩ := choose_list hR
        rw [List.length_map] at hlen
        have hnames : (ps.map (·.2)).map (·.1) = nms := by
          refine List.ext_getElem? fun i => ?_
          rw [List.map_map, List.getElem?_map]
          by_cases hi : i < ps.length
          · have h1 := List.getElem?_eq_getElem hi
            rw [h1]
            exact (hps i _ h1).1.symm
          · rw [List.getElem?_eq_none (by omega), List.getElem?_eq_none (by omega)]
            rfl
        have W : WFB (ps.map (·.2)) := by
          refine ⟨fun e he => ?_, by rw [hnames]; exact hnd, fun z => ?_, by rw [List.length_map]; omega⟩
          · obtain ⟨z, hz, rfl⟩ := List.mem_map.mp he
            obtain ⟨i, hi⟩ := List.getElem?_of_mem hz
            obtain ⟨h1, h2, _⟩ := hps i z hi
            exact ⟨hpl _ (List.mem_of_getElem? h1), h2⟩
          · have := congrArg List.length z
            rw [List.length_map, List.length_nil] at this
            omega
        have F13 := F12.step S13 st13
        have hK13 := st13.keep _ _ hK12 (by rw [cK12]; decide)
        have cK13 : c13 Kn = 9 := by rw [st13.col _ _ hK12, cK12]
        walk_at "lw"
        refine ⟨q, ps, rfl, hq, fun e he => ?_, by omega, fun e he => ?_, fun H14 s14 => ?_⟩
        · obtain ⟨i, hi⟩ := List.getElem?_of_mem he
          exact (hps i e hi).2.2
        · obtain ⟨p1, p2⟩ := W.all e.2 (List.mem_map.mpr ⟨e, he, rfl⟩)
          have := plat_len p1
          have := adr_len p2
          omega
        · walk_at "lw"
          refine g_ktup (by show 2 ≤ 100; decide) fun t H15 nt s15 ht => ?_
          walk_at "lw"
          have s1315 := s14.trans s15
          refine (F13.same s1315).push (b := (⟨.bun, bunL (List.map (fun e : Addr × List Nat × List Nat => e.2) ps)⟩ : Bl)) ht (bun_ok W) (by omega) fun H16 F16 st16 k16 => ?_
          walk_at "lw"
          exact ⟨c13, _, _, _, rfl, F16, by rw [k16 Kn noK]; exact s1315.at hK13, cK13⟩
    clear F8 hK8 cK8
    rintro σ H9 ⟨c9, es, v, v8, rfl, F9, _, _⟩
    have F9 : FI C_Store S p d o 12 [] B0 es c9 H9 := ⟨F9.S, F9.st, F9.bd, F9.co, F9.ord, F9.ok, by have := F9.le; omega⟩
    walk_at "lw"
    refine g_ritL (SqL.of F9.ord.1) ?_
    refine for_at (G := fun H' => SqL K H' o (es.map fun e => V.ref e.1)) walk_list (fun i σ H' => ∃ (ks : List Str) (B : Str → Bl) (w1 w2 w3 : Option V), FI C_Store S p d o 12 ks B es c9 H' ∧ SWf ks B ∧ KOk ks ∧ ks.length ≤ i ∧
      σ = [some (.ref S), some (.ref p), some (.ref d), some (.ref o), v, some (.ref L), v6, some (.ref Kn), v8, w1, w2, w3, none, none, none]) ⟨[], B0, none, none, none, F9, ⟨List.nodup_nil, fun a ha => nomatch ha⟩, (fun a ha => nomatch ha), Nat.le_refl _, rfl⟩ (fun i σ H' h => by obtain ⟨_, _, _, _, _, F, _⟩ := h; exact SqL.of F.ord.1) ?_ ?_
    · rintro i x σ H10 hx ⟨ks, B, w1, w2, w3, F10, wf, kok, hkl10, rfl⟩
      obtain ⟨e, he, rfl⟩ := map_at hx
      have hi : i < es.length := (List.getElem?_eq_some_iff.mp he).1
      have hem := List.mem_of_getElem? he
      have het := F10.ord.2 e hem
      have hle := F10.le
      obtain ⟨dx, dd, _, h2, _⟩ := id F10.st.ex
      refine g_gtup (SqT.of het) rfl ?_
      walk_at "lw"
      refine ⟨c9, p, ks, B, e.2, rfl, F10.st, by omega, fun H11 W11 st11 => ?_⟩
      walk_at "lw"
      refine ⟨e.2.k.s, e.2.t, rfl, e.2.k.s_kind, ?_⟩
      walk_at "lw"
      refine ifF (by rw [decide_eq_true (show V.str (adrB e.2) = V.str (adr e.2.k.s e.2.t) from rfl)]; rfl) ?_
      have D11 := F10.bd.frame st11 (by decide)
      have S11 := F10.S.frame st11 (by decide)
      have o11 := st11.keep _ _ F10.ord.1 (by rw [F10.co]; decide)
      walk_at "lw"
      refine g_ktup (by show 2 ≤ 100; decide) fun t H12 nt s12 ht => ?_
      have D12 := D11.same s12
      obtain ⟨A', a1, a2⟩ := D12.bd
      walk_at "lw"
      refine g_rdputS a1 (by rw [mkS_len]; omega) fun H13 d13 k13 => ?_
      have st13 : Stp (fun i => i = 2) c9 c9 H12 H13 := Stp.ch a1 D12.cd (fun xs z => by cases z) d13 k13
      have st123 : Stp (fun i => i = 2) c9 c9 H11 H13 := (Stp.same s12).trans st13
      walk_at "lw"
      refine ⟨_, _, _, _, _, ⟨S11.frame st123 (by decide), W11.frame st123 (by decide), ⟨D12.cd, BlobD.put a1 a2 (b := e.2) ht d13 k13⟩, F10.co, ⟨st123.keep _ _ o11 (by rw [F10.co]; decide), fun z hz => st123.tup _ _ (st11.tup _ _ (F10.ord.2 z hz))⟩, F10.ok, F10.le⟩, wf.put (F10.ok e hem), fun a ha => ?_, Nat.le_trans putS_len (by omega), rfl⟩
      rcases mem_putS.mp ha with z | z
      · exact kok a z
      · exact ⟨_, z, adr_is _ _⟩
    · rintro σ H10 ⟨ks, B, w1, w2, w3, F10, wf, kok, hkl10, rfl⟩
      rw [List.length_map] at hkl10
      have := F10.le
      walk_at "lw"
      exact k ks B c9 H10 wf kok (by omega) F10.S F10.st F10.bd
end
end Lw

/-! ## the law -/
namespace Lw
open PySem L2
open PyProof.Rows (envOfC sortedS)
def spLaw (K : PySem.W.Frag) : Sp := fun vs H Q _ => ∃ (a : Addr) (ns : List Int), vs = [.ref a] ∧ SqL K H a (ns.map V.int) ∧ ns.length ≤ 63 ∧ ∀ H', Q (.bl true) H'
theorem KOk.list {ks : List Str} (h : KOk ks) : ∃ as : List (List Nat), ks = as.map SX.S ∧ ∀ a ∈ as, isAdr a = true := by
  refine ⟨ks.map fun x => x.cps.toList, ?_, fun a ha => ?_⟩
  · rw [List.map_map]
    conv => lhs; rw [← List.map_id ks]
    exact List.map_congr_left fun x _ => (S_of x).symm
  · obtain ⟨x, hx, rfl⟩ := List.mem_map.mp ha
    obtain ⟨l, rfl, hl⟩ := h x hx
    exact hl
theorem KOk.sub {ks ys : List Str} (h : KOk ks) (s : ∀ x ∈ ys, x ∈ ks) : KOk ys := fun a ha => h a (s a ha)
theorem eqv_self {d : PyData} (h : d.canLay0 = true) : PyData.eqv d d = true := SeqAt.eqv_refl _ h
/-- two lists of the same texts -/
theorem g_rneL {K : PySem.W.Frag} {H : Hp} {Q : VK} {p q : Addr} {as : List (List Nat)} (h1 : H p = some (.lst (as.map strS))) (h2 : H q = some (.lst (as.map strS))) (ok : ∀ a ∈ as, okC a) (k : Q (.bl false) H) : rNeD K (.ref p) (.ref q) H Q :=
  ⟨_, _, dp_list h1, dp_list h2, shaped_strs ok, shaped_strs ok, by rw [eqv_self (show (PyData.list _).canLay0 = true from (sh_strs as ok).1)]; exact k⟩
theorem pair_ok {k x : Str} (hk : PyData.strOk k = true) (hx : PyData.strOk x = true) : (PyData.tuple [.str k, .str x]).canLay0 = true := by
  simp only [PyData.canLay0, PyData.canLayAll0, hk, hx, Bool.and_true]
theorem pair_shaped {k x : Str} (hk : PyData.strOk k = true) (hx : PyData.strOk x = true) : SeqAt.shaped (.tuple [.str k, .str x]) = true := by
  unfold SeqAt.shaped
  rw [pair_ok hk hx, Bool.true_and, decide_eq_true_eq]
  simp only [PyData.depth, PyData.depthAll]
  decide
theorem dp_pair {K : PySem.W.Frag} {H : Hp} {t : Addr} {k x : Str} (h : H t = some (.tup [.str k, .str x])) : Dp K H (.ref t) (.tuple [.str k, .str x]) := .tup (SqT.of h) (.cons (.str _) (.cons (.str _) .nil))
theorem non_shaped : SeqAt.shaped PyData.none = true := by
  unfold SeqAt.shaped
  simp only [PyData.canLay0, PyData.depth]
  decide
theorem g_rneP {K : PySem.W.Frag} {H : Hp} {Q : VK} {p q : Addr} {k x : Str} (h1 : H p = some (.tup [.str k, .str x])) (h2 : H q = some (.tup [.str k, .str x])) (hk : PyData.strOk k = true) (hx : PyData.strOk x = true) (kk : Q (.bl false) H) : rNeD K (.ref p) (.ref q) H Q :=
  ⟨_, _, dp_pair h1, dp_pair h2, pair_shaped hk hx, pair_shaped hk hx, by rw [eqv_self (pair_ok hk hx)]; exact kk⟩
theorem g_rneN {K : PySem.W.Frag} {H : Hp} {Q : VK} (kk : Q (.bl false) H) : rNeD K .non .non H Q := ⟨_, _, .non, .non, non_shaped, non_shaped, kk⟩
theorem refs_okC {b : Bl} (h : b.Ok) : ∀ a ∈ b.refs, okC a := by
  intro a ha
  unfold Bl.refs refsL prs at ha
  have hm : ∀ l ∈ mid (lnL b.t), okC l := fun l hl => ln_okC h.c (mid_mem hl)
  split at ha
  · cases ha
  · split at ha
    · exact hm a ha
    · rw [List.map_map] at ha
      obtain ⟨l, hl, rfl⟩ := List.mem_map.mp ha
      show okC (w1 l)
      unfold w1
      rw [List.getD_eq_getElem?_getD]
      cases hq : (wdL l)[1]? with
      | none => exact fun c hc => nomatch hc
      | some x => exact wd_okC (hm l hl) (List.mem_of_getElem? hq)
section
variable {P : Program} {w : World} {K : PySem.W.Frag} {mg : Str → Option Value} {base : Heap} {C_Store C_Refused C_Malformed a_KINDS a_BELOW : Addr}
theorem ok_law (T : Txt w K mg C_Store C_Refused C_Malformed a_KINDS a_BELOW) {f : Addr} {fd : FuncData} (F : Fun K "law" "law" s_law f fd) : FnOk P w K mg base CX0 12 f fd ["_law_script"] (spLaw K) := by
  have c__law_state : Cal P w K mg base 1 "_law_state" (spState K) := ok__law_state T
  have c__law_take : Cal P w K mg base 1 "_law_take" spTake := ok__law_take T
  have c__law_fill : Cal P w K mg base 3 "_law_fill" (spFill C_Store) := ok__law_fill T
  have c__law_refs : Cal P w K mg base 1 "_law_refs" spLRefs := ok__law_refs T
  have c__law_whole : Cal P w K mg base 4 "_law_whole" (spLWh 2) := ok__law_whole T
  have c__law_closure : Cal P w K mg base 4 "_law_closure" (spLClo 2) := ok__law_closure T
  have m_Store : Mak P w K mg base 1 "Store" C_Store (spSInit C_Store) := ok_Store___init__ T
  have t_Store_blob : Met P w K mg base 1 C_Store "blob" (spBlob C_Store) := ok_Store_blob T
  have t_Store_remove_blob : Met P w K mg base 1 C_Store "remove_blob" (spRemove C_Store) := ok_Store_remove_blob T
  have t_Store_addresses : Met P w K mg base 1 C_Store "addresses" (spAdrs C_Store) := ok_Store_addresses T
  have t_Store_below : Met P w K mg base 6 C_Store "below" (spBelow C_Store) := ok_Store_below T
  have t_Store_is_whole : Met P w K mg base 9 C_Store "is_whole" (spWhx C_Store 2) := ok_Store_is_whole T
  have t_Store_closure : Met P w K mg base 9 C_Store "closure" (spClo C_Store 2) := ok_Store_closure T
  refine F.ok sc_law (fun vs H Q E h => ?_) (fun cdv A outer s H vs Q E hr h => ?_)
  · obtain ⟨a, ns, rfl, _⟩ := h
    rfl
  · obtain ⟨sc, ns, rfl, hS, hlen, k⟩ := h
    have hu := hu_of hr
    refine ⟨_, (pss_cons (ps_set (i := 1) sc_law.nd rfl (by first | exact Or.inl rfl | exact Or.inr rfl) (pe_c c__law_state hr (by first | decide | omega) rfl (pa_cons (pv 0) pa_nil)))
      (pss_cons (ps_set (i := 2) sc_law.nd rfl (by first | exact Or.inl rfl | exact Or.inr rfl) (pe_mk0 m_Store hr (by first | decide | omega) rfl))
      (pss_cons (ps_set (i := 3) sc_law.nd rfl (by first | exact Or.inl rfl | exact Or.inr rfl) (pe_dnewK))
      (pss_cons (ps_if (pt_not (pt_val (pe_c c__law_fill hr (by first | decide | omega) rfl (pa_cons (pv 1) (pa_cons (pv 2) (pa_cons (pv 3) pa_nil)))))) (pss_one (ps_ret (pe_bl))) pss_nil)
      (pss_cons (ps_set (i := 4) sc_law.nd rfl (by first | exact Or.inl rfl | exact Or.inr rfl) (pe_callB (call_sortedD rfl) (by rfl) T.n_sorted (by decide +kernel) (pa_cons (pv 3) pa_nil)))
      (pss_cons (ps_for PassesOwn.never rfl (pi_range1 (by rfl) T.n_range (pa_cons (pe_c c__law_take hr (by first | decide | omega) rfl (pa_cons (pv 1) (pa_cons (pe_int) pa_nil))) pa_nil)) (pg_name (i := 5) sc_law.nd rfl (by first | exact Or.inl rfl | exact Or.inr rfl)) (pss_one (ps_if (pt_cmpR op_gt (pe_callB call_lenD' (by rfl) T.n_len (by decide +kernel) (pa_cons (pv 3) pa_nil)) (pe_int) (nomark _)) (pss_cons (ps_set (i := 6) sc_law.nd rfl (by first | exact Or.inl rfl | exact Or.inr rfl) (pe_ix ix_list (pe_callB (call_sortedD rfl) (by rfl) T.n_sorted (by decide +kernel) (pa_cons (pv 3) pa_nil)) (pe_c c__law_take hr (by first | decide | omega) rfl (pa_cons (pv 1) (pa_cons (pe_callB call_lenD' (by rfl) T.n_len (by decide +kernel) (pa_cons (pv 3) pa_nil)) pa_nil))) (fun _ _ => rfl)))
      (pss_cons (ps_expr (pe_mt t_Store_remove_blob hr (by first | decide | omega) (pv 2) (pa_cons (pv 6) pa_nil)))
      (pss_one (ps_expr (pe_dpop1 (pv 3) (pv 6) ⟨rfl, by rfl, rfl, rfl⟩))))) pss_nil)))
      (pss_cons (ps_if (pt_cmpR (op_neD hr.units) (pe_mt0 t_Store_addresses hr (by first | decide | omega) (pv 2)) (pe_callB (call_sortedD rfl) (by rfl) T.n_sorted (by decide +kernel) (pa_cons (pv 3) pa_nil)) (nomark _)) (pss_one (ps_ret (pe_bl))) pss_nil)
      (pss_cons (ps_for PassesOwn.never rfl (pi_list (pv 4)) (pg_name (i := 6) sc_law.nd rfl (by first | exact Or.inl rfl | exact Or.inr rfl)) (pss_cons (ps_set (i := 7) sc_law.nd rfl (by first | exact Or.inl rfl | exact Or.inr rfl) (pe_mt t_Store_is_whole hr (by first | decide | omega) (pv 2) (pa_cons (pv 6) pa_nil)))
      (pss_cons (ps_if (PW.pt (pw_or (pt_cmpR op_ne (pe_callB call_repr_bool (by rfl) T.n_repr (by decide +kernel) (pa_cons (pv 7) pa_nil)) (pe_callB call_repr_bool (by rfl) T.n_repr (by decide +kernel) (pa_cons (pe_c c__law_whole hr (by first | decide | omega) rfl (pa_cons (pv 3) (pa_cons (pv 6) pa_nil))) pa_nil)) (nomark _)) (pw_or1 (pt_cmpR (op_neD hr.units) (pe_mt t_Store_blob hr (by first | decide | omega) (pv 2) (pa_cons (pv 6) pa_nil)) (pe_dget1 hu (pv 3) (pv 6) ⟨rfl, by rfl, rfl, rfl⟩) (nomark _))))) (pss_one (ps_ret (pe_bl))) pss_nil)
      (pss_cons (ps_if (PW.pt (pw_and (pt_cmp (pc_din hu (pv 6) (pv 3))) (pw_and1 (pt_cmpR (op_neD hr.units) (pe_mt t_Store_below hr (by first | decide | omega) (pv 2) (pa_cons (pv 6) pa_nil)) (pe_c c__law_refs hr (by first | decide | omega) rfl (pa_cons (pv 3) (pa_cons (pv 6) pa_nil))) (nomark _))))) (pss_one (ps_ret (pe_bl))) pss_nil)
      (pss_one (ps_if (PW.pt (pw_and (pt_val (pv 7)) (pw_and1 (pt_cmpR (op_neD hr.units) (pe_mt t_Store_closure hr (by first | decide | omega) (pv 2) (pa_cons (pv 6) pa_nil)) (pe_c c__law_closure hr (by first | decide | omega) rfl (pa_cons (pv 3) (pa_cons (pv 6) pa_nil))) (nomark _))))) (pss_one (ps_ret (pe_bl))) pss_nil))))))
      (pss_one (ps_ret ((pe_or (pe_cmpR op_isBl (pe_mt t_Store_is_whole hr (by first | decide | omega) (pv 2) (pa_cons (pe_str) pa_nil)) (pe_bl) (by rfl)) (pe_one (pe_cmp (pc_din hu (pe_str) (pv 3)) rfl)))))))))))))), ?_⟩
    walk_at "lw"
    refine ⟨sc, ns, fun _ => 9, rfl, hS, hlen, fun S c1 H1 S1 st1 => ?_⟩
    walk_at "lw"
    intro p dx np ndx nex
    refine ⟨p, dx, rfl, upd_same, fun l H2 nl hp hl kp => ⟨rfl, ?_⟩⟩
    have s2 : Same H1 H2 := Same.made np ndx kp
    have s2' : Same H1 (upd (upd H1 dx (.own p)) p (.ins C_Store dx [])) := (Same.new ndx).thenNew (by rw [upd_ne nex.symm]; exact np)
    have npl : p ≠ l := fun z => by subst z; rw [upd_same] at nl; cases nl
    have nl1 : H1 l = none := s2'.free nl
    have st2 : Stp (fun _ => False) c1 (Stp.paint (Stp.paint c1 p 1) l 1) H1 H2 := Stp.sameC s2 fun b o e => by
      rw [Stp.paint_ne (ne_of_none e nl1), Stp.paint_ne (ne_of_none e np)]
    have W2 : StoreAt C_Store (Stp.paint (Stp.paint c1 p 1) l 1) H2 p [] B0 := ⟨dx, l, by rw [Stp.paint_ne npl]; exact Stp.paint_same, hp, Stp.paint_same, fun _ => l, hl, fun a ha => nomatch ha⟩
    generalize Stp.paint (Stp.paint c1 p 1) l 1 = c2 at st2 W2
    have S2 := S1.frame st2 (by decide)
    clear S1 st2 st1 kp hp hl s2 s2' npl nl1 nl np ndx nex
    walk_at "lw"
    refine g_dnew fun d H3 nd s3 hd => ?_
    have st3 : Stp (fun _ => False) c2 (Stp.paint c2 d 2) H2 H3 := L2x_sameN s3 nd
    have W3 := W2.frame st3 (by decide)
    have S3 := S2.frame st3 (by decide)
    have D3 : BlobsAt (Stp.paint c2 d 2) H3 d [] B0 := ⟨Stp.paint_same, fun _ => d, hd, fun a ha => nomatch ha⟩
    generalize Stp.paint c2 d 2 = c3 at W3 S3 D3
    clear W2 S2 st3 s3 nd hd
    walk_at "lw"
    refine ⟨c3, S, p, d, rfl, S3, W3, D3, fun ks B c4 H4 wf kok hkl S4 W4 D4 => ?_⟩
    clear S3 W3 D3
    walk_at "lw"
    obtain ⟨A4, a4, b4⟩ := id D4.bd
    refine ⟨d, _, ks, rfl, .of a4, mkS_keys, by omega, fun ev Ev hpe hse nE => ?_⟩
    have sE : Same H4 (upd H4 Ev (.lst (ev.map V.str))) := Same.new nE
    have hE : (upd H4 Ev (.lst (ev.map V.str))) Ev = some (.lst (ev.map V.str)) := upd_same
    have stE : Stp (fun _ => False) c4 (Stp.paint c4 Ev 9) H4 (upd H4 Ev (.lst (ev.map V.str))) := L2x_sameN sE nE
    have S5 := S4.frame stE (by decide)
    have W5 := W4.frame stE (by decide)
    have D5 := D4.frame stE (by decide)
    have cE : (Stp.paint c4 Ev 9) Ev = 9 := Stp.paint_same
    generalize Stp.paint c4 Ev 9 = c5 at S5 W5 D5 cE
    generalize upd H4 Ev (.lst (ev.map V.str)) = H5 at S5 W5 D5 hE
    have evl : ev.length ≤ 20 := by rw [hpe.length_eq]; exact hkl
    clear S4 W4 D4 a4 b4 sE stE nE
    walk_at "lw"
    refine ⟨c5, S, 5, rfl, S5, by decide, by decide, fun r c6 H6 r0 r1 S6 st6 => ?_⟩
    have W6 := W5.frame st6 (by decide)
    have D6 := D5.frame st6 (by decide)
    have hE6 := st6.keep _ _ hE (by rw [cE]; decide)
    have cE6 : c6 Ev = 9 := by rw [st6.col _ _ hE, cE]
    clear S5 W5 D5 hE cE st6
    walk_at "lw"
    refine g_for1 r0 (by omega) (fun i σ H => ∃ (c : Addr → Nat) (ks : List Str) (v v6 : Option V), σ = [some (.ref sc), some (.ref S), some (.ref p), some (.ref d), some (.ref Ev), v, v6, none] ∧ StateAt c H S ∧ StoreAt C_Store c H p ks B ∧ BlobsAt c H d ks B ∧ SWf ks B ∧ KOk ks ∧ ks.length ≤ 20 ∧ H Ev = some (.lst (ev.map V.str)) ∧ c Ev = 9)
      ⟨c6, ks, _, _, rfl, S6, W6, D6, wf, kok, hkl, hE6, cE6⟩ ?_ ?_
    · clear S6 W6 D6 wf kok hkl hE6 cE6 hpe hse
      rintro i σ H7 hi ⟨c7, ks, v, v6, rfl, S7, W7, D7, wf, kok, hkl, hE7, cE7⟩
      obtain ⟨A7, a7, b7⟩ := id D7.bd
      walk_at "lw"
      rw [mkS_len]
      refine if2 (fun hpos => ?_) (fun hpos => ?_)
      · have hpos : 0 < ks.length := by omega
        walk_at "lw"
        refine ⟨d, _, ks, rfl, .of a7, mkS_keys, by omega, fun ys Y hpy hsy nY => ?_⟩
        have sY : Same H7 (upd H7 Y (.lst (ys.map V.str))) := Same.new nY
        have hY : (upd H7 Y (.lst (ys.map V.str))) Y = some (.lst (ys.map V.str)) := upd_same
        have stY : Stp (fun _ => False) c7 (Stp.paint c7 Y 9) H7 (upd H7 Y (.lst (ys.map V.str))) := L2x_sameN sY nY
        have S8 := S7.frame stY (by decide)
        have W8 := W7.frame stY (by decide)
        have D8 := D7.frame stY (by decide)
        have hE8 := stY.keep _ _ hE7 (fun z => z)
        have cE8 : (Stp.paint c7 Y 9) Ev = 9 := by rw [stY.col _ _ hE7, cE7]
        have cY : (Stp.paint c7 Y 9) Y = 9 := Stp.paint_same
        have a8 := stY.keep _ _ a7 (fun z => z)
        generalize Stp.paint c7 Y 9 = c8 at S8 W8 D8 cE8 cY
        generalize upd H7 Y (.lst (ys.map V.str)) = H8 at S8 W8 D8 hY hE8 a8
        clear S7 W7 D7 sY stY nY hE7 cE7 a7 b7
        walk_at "lw"
        rw [mkS_len]
        refine ⟨c8, S, _, rfl, S8, by omega, by omega, fun m c9 H9 m0 m1 S9 st9 => ?_⟩
        have W9 := W8.frame st9 (by decide)
        have D9 := D8.frame st9 (by decide)
        have hE9 := st9.keep _ _ hE8 (by rw [cE8]; decide)
        have cE9 : c9 Ev = 9 := by rw [st9.col _ _ hE8, cE8]
        obtain ⟨a, ha, hat⟩ := at_in (xs := ys) (i := m) m0 (by rw [hpy.length_eq]; exact m1)
        have hak : a ∈ ks := hpy.mem_iff.mp (List.mem_of_getElem? ha)
        refine g_rix (SqL.of (st9.keep _ _ hY (by rw [cY]; decide))) (atI_map hat) ?_
        obtain ⟨dx9, dd9, _, h29, _⟩ := id W9.ex
        walk_at "lw"
        refine ⟨c9, p, ks, B, a, rfl, W9, hak, fun H10 W10 st10 => ?_⟩
        have D10 := D9.frame st10 (by decide)
        have S10 := S9.frame st10 (by decide)
        have hE10 := st10.keep _ _ hE9 (by rw [cE9]; decide)
        obtain ⟨A10, a10, b10⟩ := id D10.bd
        walk_at "lw"
        refine g_risd (.of a10) ?_
        walk_at "lw"
        refine g_rdpopS a10 (by rw [valV_mkS, if_pos hak]) fun H11 d11 k11 => ?_
        have st11 : Stp (fun i => i = 2) c9 c9 H10 H11 := Stp.ch a10 D10.cd (fun xs z => by cases z) d11 k11
        walk_at "lw"
        exact ⟨c9, ks.filter fun j => decide (j ≠ a), _, _, rfl, S10.frame st11 (by decide), W10.frame st11 (by decide), ⟨D10.cd, BlobD.del a10 b10 d11 k11⟩, wf.del a, kok.sub fun x hx => (List.mem_filter.mp hx).1, Nat.le_trans (List.length_filter_le _ _) hkl, st11.keep _ _ hE10 (by rw [cE9]; decide), cE9⟩
      · walk_at "lw"
        exact ⟨c7, ks, _, _, rfl, S7, W7, D7, wf, kok, hkl, hE7, cE7⟩
    clear S6 W6 D6 wf hkl hE6 cE6 hse
    have evok : KOk ev := kok.sub fun x hx => hpe.mem_iff.mp hx
    clear hpe kok
    rintro σ H7 ⟨c7, ks, v, v6, rfl, S7, W7, D7, wf, kok, hkl, hE7, cE7⟩
    obtain ⟨dx7, dd7, _, h27, _⟩ := id W7.ex
    walk_at "lw"
    refine ⟨c7, p, ks, B, rfl, W7, by omega, fun ys r H8 hpy hsy s8 hr8 => ?_⟩
    have D8 := D7.same s8
    obtain ⟨A8, a8, b8⟩ := id D8.bd
    walk_at "lw"
    refine ⟨d, _, ks, rfl, .of a8, mkS_keys, by omega, fun zs r2 hpz hsz nr2 => ?_⟩
    have e12 : zs = ys := str_sorted_eq (hpz.trans hpy.symm) hsz hsy
    subst e12
    obtain ⟨as, ras, has⟩ := (kok.sub fun x hx => hpz.mem_iff.mp hx : KOk zs).list
    have hokA : ∀ a ∈ as, okC a := fun a ha => adr_okC (has a ha)
    have emap : zs.map V.str = as.map strS := by rw [ras, List.map_map]; rfl
    have s9 := s8.thenNew (o := .lst (zs.map V.str)) nr2
    have hr9 := (Same.new (o := .lst (zs.map V.str)) nr2).at hr8
    have hr29 : (upd H8 r2 (.lst (zs.map V.str))) r2 = some (.lst (zs.map V.str)) := upd_same
    generalize upd H8 r2 (.lst (zs.map V.str)) = H9 at s9 hr9 hr29
    rw [emap] at hr9 hr29
    refine g_rneL hr9 hr29 hokA ?_
    walk_at "lw"
    have W9 := W7.same s9
    have D9 := D7.same s9
    have hE9 := s9.at hE7
    clear S7 W7 D7 hE7 cE7 D8 a8 b8 hr9 hr29 hpy hsy hpz hsz s8 s9 nr2 hr8 emap ras has hokA
    refine g_ritL (SqL.of hE9) ?_
    refine for_at (G := fun H' => SqL K H' Ev (ev.map V.str)) walk_list (fun i σ H' => Same H9 H' ∧ ∃ w6 w7 : Option V, σ = [some (.ref sc), some (.ref S), some (.ref p), some (.ref d), some (.ref Ev), v, w6, w7]) ⟨Same.refl _, _, _, rfl⟩ (fun i σ H' h => SqL.of (h.1.at hE9)) ?_ ?_
    · rintro i x σ H10 hx ⟨s10, w6, w7, rfl⟩
      obtain ⟨a, ha, rfl⟩ := map_at hx
      have W10 := W9.same s10
      have D10 := D9.same s10
      obtain ⟨dx10, dd10, _, h210, _⟩ := id W10.ex
      walk_at "lw"
      refine ⟨c7, p, ks, B, a, rfl, W10, wf, fun _ => by cases (B a).k <;> decide, fun H11 s11 => ?_⟩
      have W11 := W10.same s11
      have D11 := D10.same s11
      walk_at "lw"
      refine ⟨d, ks, B, a, rfl, D11.bd, wf, fun _ => by cases (B a).k <;> decide, fun H12 s12 => ?_⟩
      have W12 := W11.same s12
      have D12 := D11.same s12
      walk_at "lw"
      refine ifF (by rw [decide_eq_true rfl]; rfl) ?_
      obtain ⟨dx12, dd12, _, h212, _⟩ := id W12.ex
      obtain ⟨A12, a12, b12⟩ := id D12.bd
      have s1012 := s10.trans (s11.trans s12)
      walk_at "lw"
      refine ⟨c7, p, ks, B, a, rfl, W12, fun hn => ?_, fun hm t ht => ?_⟩
      · walk_at "lw"
        refine g_risd (.of a12) ?_
        walk_at "lw"
        refine g_rdget1S (.of a12) ?_
        rw [valV_mkS, if_neg hn]
        refine g_rneN ?_
        walk_at "lw"
        refine g_rdinS (.of a12) ?_
        rw [dec_in, decide_eq_false hn]
        walk_at "lw"
        have e : wh ks B 3 a = false := by unfold wh; rw [decide_eq_false hn, Bool.false_and]
        rw [e]
        walk_at "lw"
        exact ⟨s1012, _, _, rfl⟩
      · have ok := wf.ok a hm
        have hlo : (B a).k.rk ≤ 2 := by cases (B a).k <;> decide
        walk_at "lw"
        refine g_risd (.of a12) ?_
        walk_at "lw"
        refine g_rdget1S (.of a12) ?_
        rw [valV_mkS, if_pos hm]
        refine g_rneP ht (b12 a hm) (Kd.s_ok _) (okS ok.c) ?_
        walk_at "lw"
        refine g_rdinS (.of a12) ?_
        rw [dec_in, decide_eq_true hm]
        walk_at "lw"
        refine ⟨c7, p, ks, B, a, rfl, W12, wf, hm, fun r13 H13 s13 hr13 => ?_⟩
        have W13 := W12.same s13
        have D13 := D12.same s13
        walk_at "lw"
        refine ⟨d, ks, B, a, rfl, D13.bd, wf, hm, fun r14 H14 s14 hr14 => ?_⟩
        have W14 := W13.same s14
        have D14 := D13.same s14
        refine g_rneL (s14.at hr13) hr14 (refs_okC ok) ?_
        have s1014 := s1012.trans (s13.trans s14)
        obtain ⟨dx14, dd14, _, h214, _⟩ := id W14.ex
        walk_at "lw"
        cases hw : wh ks B 3 a with
        | false =>
          walk_at "lw"
          exact ⟨s1014, _, _, rfl⟩
        | true =>
          walk_at "lw"
          refine ⟨c7, p, ks, B, a, rfl, W14, wf, hm, hlo, hw, by omega, fun r15 H15 s15 hr15 => ?_⟩
          have D15 := D14.same s15
          walk_at "lw"
          refine ⟨d, ks, B, a, rfl, D15.bd, wf, hm, hlo, hw, by omega, fun r16 H16 s16 hr16 => ?_⟩
          obtain ⟨as, ras, has⟩ := (kok.sub fun x hx => clo_mem hw x hx : KOk (clo B 2 a)).list
          have emap : (clo B 2 a).map V.str = as.map strS := by rw [ras, List.map_map]; rfl
          have hr15' := s16.at hr15
          rw [emap] at hr15' hr16
          refine g_rneL hr15' hr16 (fun a ha => adr_okC (has a ha)) ?_
          walk_at "lw"
          exact ⟨s1014.trans (s15.trans s16), _, _, rfl⟩
    · rintro σ H10 ⟨s10, w6, w7, rfl⟩
      have W10 := W9.same s10
      have D10 := D9.same s10
      obtain ⟨dx10, dd10, _, h210, _⟩ := id W10.ex
      walk_at "lw"
      refine ⟨c7, p, ks, B, "ffffffffffffffff", rfl, W10, wf, fun _ => by cases (B "ffffffffffffffff").k <;> decide, fun H11 s11 => ?_⟩
      have D11 := D10.same s11
      obtain ⟨A11, a11, b11⟩ := id D11.bd
      walk_at "lw"
      cases hw : wh ks B 3 "ffffffffffffffff" with
      | false =>
        walk_at "lw"
        exact k H11
      | true =>
        have hm : ("ffffffffffffffff" : Str) ∈ ks := by
          unfold wh at hw
          rw [Bool.and_eq_true, decide_eq_true_eq] at hw
          exact hw.1
        walk_at "lw"
        refine g_rdinS (.of a11) ?_
        rw [dec_in, decide_eq_true hm]
        walk_at "lw"
        exact k H11
end
end Lw

namespace Lw
open PySem L2
open PyProof.Rows (envOfC)
theorem all_mk {l : PySem.W.OpenLaw} {w : World} {K : PySem.W.Frag} {h : Heap} {mg : Str → Option Value} {fa C_Store C_Refused C_Malformed a_KINDS a_BELOW f_Store___init__ f_Store_keep f_Store_blob f_Store_remove_blob f_Store_addresses f_Store_below f_Store_is_whole f_Store_closure f_Malformed___init__ f_address_of f_is_address f_image_text f_bundle_text f_lines_of f_read_image f_is_platform f_read_bundle f_references f__law_state f__law_take f__law_text f__law_pick f__law_fill f__law_refs f__law_whole f__law_closure f_law : Addr} {od_Store___init__ an_Store___init__ : Option Addr} {sl_Store___init__ : Array (Option Value)} {oc_Store___init__ kV_Store___init__ dc_Store___init__ pm_Store___init__ cd_Store___init__ ct_Store___init__ : Value} {od_Store_keep an_Store_keep : Option Addr} {sl_Store_keep : Array (Option Value)} {oc_Store_keep kV_Store_keep dc_Store_keep pm_Store_keep cd_Store_keep ct_Store_keep : Value} {od_Store_blob an_Store_blob : Option Addr} {sl_Store_blob : Array (Option Value)} {oc_Store_blob kV_Store_blob dc_Store_blob pm_Store_blob cd_Store_blob ct_Store_blob : Value} {od_Store_remove_blob an_Store_remove_blob : Option Addr} {sl_Store_remove_blob : Array (Option Value)} {oc_Store_remove_blob kV_Store_remove_blob dc_Store_remove_blob pm_Store_remove_blob cd_Store_remove_blob ct_Store_remove_blob : Value} {od_Store_addresses an_Store_addresses : Option Addr} {sl_Store_addresses : Array (Option Value)} {oc_Store_addresses kV_Store_addresses dc_Store_addresses pm_Store_addresses cd_Store_addresses ct_Store_addresses : Value} {od_Store_below an_Store_below : Option Addr} {sl_Store_below : Array (Option Value)} {oc_Store_below kV_Store_below dc_Store_below pm_Store_below cd_Store_below ct_Store_below : Value} {od_Store_is_whole an_Store_is_whole : Option Addr} {sl_Store_is_whole : Array (Option Value)} {oc_Store_is_whole kV_Store_is_whole dc_Store_is_whole pm_Store_is_whole cd_Store_is_whole ct_Store_is_whole : Value} {od_Store_closure an_Store_closure : Option Addr} {sl_Store_closure : Array (Option Value)} {oc_Store_closure kV_Store_closure dc_Store_closure pm_Store_closure cd_Store_closure ct_Store_closure : Value} {od_Malformed___init__ an_Malformed___init__ : Option Addr} {sl_Malformed___init__ : Array (Option Value)} {oc_Malformed___init__ kV_Malformed___init__ dc_Malformed___init__ pm_Malformed___init__ cd_Malformed___init__ ct_Malformed___init__ : Value} {od_address_of an_address_of : Option Addr} {sl_address_of : Array (Option Value)} {oc_address_of kV_address_of dc_address_of pm_address_of cd_address_of ct_address_of : Value} {od_is_address an_is_address : Option Addr} {sl_is_address : Array (Option Value)} {oc_is_address kV_is_address dc_is_address pm_is_address cd_is_address ct_is_address : Value} {od_image_text an_image_text : Option Addr} {sl_image_text : Array (Option Value)} {oc_image_text kV_image_text dc_image_text pm_image_text cd_image_text ct_image_text : Value} {od_bundle_text an_bundle_text : Option Addr} {sl_bundle_text : Array (Option Value)} {oc_bundle_text kV_bundle_text dc_bundle_text pm_bundle_text cd_bundle_text ct_bundle_text : Value} {od_lines_of an_lines_of : Option Addr} {sl_lines_of : Array (Option Value)} {oc_lines_of kV_lines_of dc_lines_of pm_lines_of cd_lines_of ct_lines_of : Value} {od_read_image an_read_image : Option Addr} {sl_read_image : Array (Option Value)} {oc_read_image kV_read_image dc_read_image pm_read_image cd_read_image ct_read_image : Value} {od_is_platform an_is_platform : Option Addr} {sl_is_platform : Array (Option Value)} {oc_is_platform kV_is_platform dc_is_platform pm_is_platform cd_is_platform ct_is_platform : Value} {od_read_bundle an_read_bundle : Option Addr} {sl_read_bundle : Array (Option Value)} {oc_read_bundle kV_read_bundle dc_read_bundle pm_read_bundle cd_read_bundle ct_read_bundle : Value} {od_references an_references : Option Addr} {sl_references : Array (Option Value)} {oc_references kV_references dc_references pm_references cd_references ct_references : Value} {od__law_state an__law_state : Option Addr} {sl__law_state : Array (Option Value)} {oc__law_state kV__law_state dc__law_state pm__law_state cd__law_state ct__law_state : Value} {od__law_take an__law_take : Option Addr} {sl__law_take : Array (Option Value)} {oc__law_take kV__law_take dc__law_take pm__law_take cd__law_take ct__law_take : Value} {od__law_text an__law_text : Option Addr} {sl__law_text : Array (Option Value)} {oc__law_text kV__law_text dc__law_text pm__law_text cd__law_text ct__law_text : Value} {od__law_pick an__law_pick : Option Addr} {sl__law_pick : Array (Option Value)} {oc__law_pick kV__law_pick dc__law_pick pm__law_pick cd__law_pick ct__law_pick : Value} {od__law_fill an__law_fill : Option Addr} {sl__law_fill : Array (Option Value)} {oc__law_fill kV__law_fill dc__law_fill pm__law_fill cd__law_fill ct__law_fill : Value} {od__law_refs an__law_refs : Option Addr} {sl__law_refs : Array (Option Value)} {oc__law_refs kV__law_refs dc__law_refs pm__law_refs cd__law_refs ct__law_refs : Value} {od__law_whole an__law_whole : Option Addr} {sl__law_whole : Array (Option Value)} {oc__law_whole kV__law_whole dc__law_whole pm__law_whole cd__law_whole ct__law_whole : Value} {od__law_closure an__law_closure : Option Addr} {sl__law_closure : Array (Option Value)} {oc__law_closure kV__law_closure dc__law_closure pm__law_closure cd__law_closure ct__law_closure : Value} {od_law an_law : Option Addr} {sl_law : Array (Option Value)} {oc_law kV_law dc_law pm_law cd_law ct_law : Value} {nm_Malformed q_Malformed : Str} {N_Malformed : Addr} {bs_Malformed sb_Malformed : List Value} {sn_Malformed : List Str} {ab_Malformed : Bool} {col_Malformed : Option Bool} {dd_Malformed : Option Addr} {m0_Malformed m1_Malformed m2_Malformed m3_Malformed m5_Malformed : Option Value} {t_DIGITS t_LETTERS t_MAX_LINES t_PRIME : Tok} {its_KINDS : Array Value} {n_KINDS : Nat} {sl_KINDS : Array (Option Value)} {es_BELOW : Array DictEntry} {n_BELOW : Nat} {t_below1 t_below2 : Tok} (X : K.In h) (G : h.Ns mainGlobals mg) (hfa : mg "law" = some (.ref fa))
    (a_Store : PySem.W.nsIn K mainGlobals "Store" = some (some (.ref C_Store)))
    (pg_Store : PySem.W.plainGet K C_Store Str.empty = true)
    (hd_Store : PySem.W.hasDictIn K C_Store = true)
    (po_Store : PySem.W.plainOver K C_Store = true)
    (sa_Store : PySem.W.findIn K (.ref C_Store) "__setattr__" = some (some (.builtin "object.__setattr__")))
    (mk_Store : PySem.W.makesIn K C_Store = true)
    (kc_Store : PySem.W.keepIn K (.ref C_Store) = true)
    (na_Store_blobs : PySem.W.findIn K (.ref C_Store) "blobs" = some none)
    (a_Store___init__ : PySem.W.findIn K (.ref C_Store) "__init__" = some (some (.ref f_Store___init__)))
    (i_Store___init__ : PySem.W.isFn K (.ref f_Store___init__) = true)
    (l_Store___init__ : K.lookup f_Store___init__ = some ⟨oc_Store___init__, od_Store___init__, .func (PySem.W.fnOf "__init__" "Store.__init__" (defArgs s_Store___init__) (defBody s_Store___init__) (defScope s_Store___init__) .none kV_Store___init__ dc_Store___init__ pm_Store___init__ an_Store___init__ cd_Store___init__ ct_Store___init__), sl_Store___init__⟩)
    (c_Store___init__ : PySem.W.codeIn K cd_Store___init__ "Store.__init__" = true)
    (k_Store___init__ : PySem.W.keepIn K (.ref f_Store___init__) = true)
    (a_Store_keep : PySem.W.findIn K (.ref C_Store) "keep" = some (some (.ref f_Store_keep)))
    (i_Store_keep : PySem.W.isFn K (.ref f_Store_keep) = true)
    (l_Store_keep : K.lookup f_Store_keep = some ⟨oc_Store_keep, od_Store_keep, .func (PySem.W.fnOf "keep" "Store.keep" (defArgs s_Store_keep) (defBody s_Store_keep) (defScope s_Store_keep) .none kV_Store_keep dc_Store_keep pm_Store_keep an_Store_keep cd_Store_keep ct_Store_keep), sl_Store_keep⟩)
    (c_Store_keep : PySem.W.codeIn K cd_Store_keep "Store.keep" = true)
    (k_Store_keep : PySem.W.keepIn K (.ref f_Store_keep) = true)
    (a_Store_blob : PySem.W.findIn K (.ref C_Store) "blob" = some (some (.ref f_Store_blob)))
    (i_Store_blob : PySem.W.isFn K (.ref f_Store_blob) = true)
    (l_Store_blob : K.lookup f_Store_blob = some ⟨oc_Store_blob, od_Store_blob, .func (PySem.W.fnOf "blob" "Store.blob" (defArgs s_Store_blob) (defBody s_Store_blob) (defScope s_Store_blob) .none kV_Store_blob dc_Store_blob pm_Store_blob an_Store_blob cd_Store_blob ct_Store_blob), sl_Store_blob⟩)
    (c_Store_blob : PySem.W.codeIn K cd_Store_blob "Store.blob" = true)
    (k_Store_blob : PySem.W.keepIn K (.ref f_Store_blob) = true)
    (a_Store_remove_blob : PySem.W.findIn K (.ref C_Store) "remove_blob" = some (some (.ref f_Store_remove_blob)))
    (i_Store_remove_blob : PySem.W.isFn K (.ref f_Store_remove_blob) = true)
    (l_Store_remove_blob : K.lookup f_Store_remove_blob = some ⟨oc_Store_remove_blob, od_Store_remove_blob, .func (PySem.W.fnOf "remove_blob" "Store.remove_blob" (defArgs s_Store_remove_blob) (defBody s_Store_remove_blob) (defScope s_Store_remove_blob) .none kV_Store_remove_blob dc_Store_remove_blob pm_Store_remove_blob an_Store_remove_blob cd_Store_remove_blob ct_Store_remove_blob), sl_Store_remove_blob⟩)
    (c_Store_remove_blob : PySem.W.codeIn K cd_Store_remove_blob "Store.remove_blob" = true)
    (k_Store_remove_blob : PySem.W.keepIn K (.ref f_Store_remove_blob) = true)
    (a_Store_addresses : PySem.W.findIn K (.ref C_Store) "addresses" = some (some (.ref f_Store_addresses)))
    (i_Store_addresses : PySem.W.isFn K (.ref f_Store_addresses) = true)
    (l_Store_addresses : K.lookup f_Store_addresses = some ⟨oc_Store_addresses, od_Store_addresses, .func (PySem.W.fnOf "addresses" "Store.addresses" (defArgs s_Store_addresses) (defBody s_Store_addresses) (defScope s_Store_addresses) .none kV_Store_addresses dc_Store_addresses pm_Store_addresses an_Store_addresses cd_Store_addresses ct_Store_addresses), sl_Store_addresses⟩)
    (c_Store_addresses : PySem.W.codeIn K cd_Store_addresses "Store.addresses" = true)
    (k_Store_addresses : PySem.W.keepIn K (.ref f_Store_addresses) = true)
    (a_Store_below : PySem.W.findIn K (.ref C_Store) "below" = some (some (.ref f_Store_below)))
    (i_Store_below : PySem.W.isFn K (.ref f_Store_below) = true)
    (l_Store_below : K.lookup f_Store_below = some ⟨oc_Store_below, od_Store_below, .func (PySem.W.fnOf "below" "Store.below" (defArgs s_Store_below) (defBody s_Store_below) (defScope s_Store_below) .none kV_Store_below dc_Store_below pm_Store_below an_Store_below cd_Store_below ct_Store_below), sl_Store_below⟩)
    (c_Store_below : PySem.W.codeIn K cd_Store_below "Store.below" = true)
    (k_Store_below : PySem.W.keepIn K (.ref f_Store_below) = true)
    (a_Store_is_whole : PySem.W.findIn K (.ref C_Store) "is_whole" = some (some (.ref f_Store_is_whole)))
    (i_Store_is_whole : PySem.W.isFn K (.ref f_Store_is_whole) = true)
    (l_Store_is_whole : K.lookup f_Store_is_whole = some ⟨oc_Store_is_whole, od_Store_is_whole, .func (PySem.W.fnOf "is_whole" "Store.is_whole" (defArgs s_Store_is_whole) (defBody s_Store_is_whole) (defScope s_Store_is_whole) .none kV_Store_is_whole dc_Store_is_whole pm_Store_is_whole an_Store_is_whole cd_Store_is_whole ct_Store_is_whole), sl_Store_is_whole⟩)
    (c_Store_is_whole : PySem.W.codeIn K cd_Store_is_whole "Store.is_whole" = true)
    (k_Store_is_whole : PySem.W.keepIn K (.ref f_Store_is_whole) = true)
    (a_Store_closure : PySem.W.findIn K (.ref C_Store) "closure" = some (some (.ref f_Store_closure)))
    (i_Store_closure : PySem.W.isFn K (.ref f_Store_closure) = true)
    (l_Store_closure : K.lookup f_Store_closure = some ⟨oc_Store_closure, od_Store_closure, .func (PySem.W.fnOf "closure" "Store.closure" (defArgs s_Store_closure) (defBody s_Store_closure) (defScope s_Store_closure) .none kV_Store_closure dc_Store_closure pm_Store_closure an_Store_closure cd_Store_closure ct_Store_closure), sl_Store_closure⟩)
    (c_Store_closure : PySem.W.codeIn K cd_Store_closure "Store.closure" = true)
    (k_Store_closure : PySem.W.keepIn K (.ref f_Store_closure) = true)
    (a_Refused : PySem.W.nsIn K mainGlobals "Refused" = some (some (.ref C_Refused)))
    (a_Malformed : PySem.W.nsIn K mainGlobals "Malformed" = some (some (.ref C_Malformed)))
    (xL_Malformed : K.lookup C_Malformed = some (excClassObj nm_Malformed q_Malformed C_Malformed N_Malformed bs_Malformed [.ref C_Refused, .type "ValueError", .type "Exception", .type "BaseException", .type "object"] true sn_Malformed sb_Malformed ab_Malformed col_Malformed dd_Malformed m0_Malformed m1_Malformed m2_Malformed m3_Malformed m5_Malformed "ValueError.__new__"))
    (sa_Malformed : PySem.W.findIn K (.ref C_Malformed) "__setattr__" = some (some (.builtin "object.__setattr__")))
    (ga_Malformed : PySem.W.findIn K (.ref C_Malformed) "__getattribute__" = some (some (.builtin "BaseException.__getattribute__")))
    (gg_Malformed : PySem.W.findIn K (.ref C_Malformed) "__getattr__" = some none)
    (kC_Malformed : PySem.W.keepIn K (.ref C_Malformed) = true)
    (eC_Malformed : PySem.W.subIn K (.ref C_Malformed) (.type "BaseException") = some true)
    (tC_Malformed : PySem.W.typeIn K (.ref C_Malformed) = some (.type "type"))
    (hC_Malformed : PySem.W.hasDictIn K C_Malformed = true)
    (iC_Malformed : PySem.W.isClsIn K C_Malformed = true)
    (sC_Malformed : PySem.W.subIn K (.ref C_Malformed) (.ref C_Malformed) = some true)
    (hk_Malformed : PySem.W.findIn K (.ref C_Malformed) "__class__" = some (some (.builtin "object.__class__")))
    (hm_Malformed : PySem.W.mroIn K C_Malformed (.type "object") = some true)
    (na_Malformed_line : PySem.W.findIn K (.ref C_Malformed) "line" = some none)
    (a_Malformed___init__ : PySem.W.findIn K (.ref C_Malformed) "__init__" = some (some (.ref f_Malformed___init__)))
    (t_Malformed___init__ : PySem.W.typeIn K (.ref f_Malformed___init__) = some (.type "function"))
    (l_Malformed___init__ : K.lookup f_Malformed___init__ = some ⟨oc_Malformed___init__, od_Malformed___init__, .func (PySem.W.fnOf "__init__" "Malformed.__init__" (defArgs s_Malformed___init__) (defBody s_Malformed___init__) (defScope s_Malformed___init__) .none kV_Malformed___init__ dc_Malformed___init__ pm_Malformed___init__ an_Malformed___init__ cd_Malformed___init__ ct_Malformed___init__), sl_Malformed___init__⟩)
    (c_Malformed___init__ : PySem.W.codeIn K cd_Malformed___init__ "Malformed.__init__" = true)
    (k_Malformed___init__ : PySem.W.keepIn K (.ref f_Malformed___init__) = true)
    (hn_obj : PySem.W.specialIn K (.builtin "object.__class__") "__get__" = some (some (.builtin "getset_descriptor.__get__")))
    (ht_obj : PySem.W.takesIn K (.builtin "object.__class__") = some true)
    (a_address_of : PySem.W.nsIn K mainGlobals "address_of" = some (some (.ref f_address_of)))
    (l_address_of : K.lookup f_address_of = some ⟨oc_address_of, od_address_of, .func (PySem.W.fnOf "address_of" "address_of" (defArgs s_address_of) (defBody s_address_of) (defScope s_address_of) .none kV_address_of dc_address_of pm_address_of an_address_of cd_address_of ct_address_of), sl_address_of⟩)
    (c_address_of : PySem.W.codeIn K cd_address_of "address_of" = true)
    (k_address_of : PySem.W.keepIn K (.ref f_address_of) = true)
    (a_is_address : PySem.W.nsIn K mainGlobals "is_address" = some (some (.ref f_is_address)))
    (l_is_address : K.lookup f_is_address = some ⟨oc_is_address, od_is_address, .func (PySem.W.fnOf "is_address" "is_address" (defArgs s_is_address) (defBody s_is_address) (defScope s_is_address) .none kV_is_address dc_is_address pm_is_address an_is_address cd_is_address ct_is_address), sl_is_address⟩)
    (c_is_address : PySem.W.codeIn K cd_is_address "is_address" = true)
    (k_is_address : PySem.W.keepIn K (.ref f_is_address) = true)
    (a_image_text : PySem.W.nsIn K mainGlobals "image_text" = some (some (.ref f_image_text)))
    (l_image_text : K.lookup f_image_text = some ⟨oc_image_text, od_image_text, .func (PySem.W.fnOf "image_text" "image_text" (defArgs s_image_text) (defBody s_image_text) (defScope s_image_text) .none kV_image_text dc_image_text pm_image_text an_image_text cd_image_text ct_image_text), sl_image_text⟩)
    (c_image_text : PySem.W.codeIn K cd_image_text "image_text" = true)
    (k_image_text : PySem.W.keepIn K (.ref f_image_text) = true)
    (a_bundle_text : PySem.W.nsIn K mainGlobals "bundle_text" = some (some (.ref f_bundle_text)))
    (l_bundle_text : K.lookup f_bundle_text = some ⟨oc_bundle_text, od_bundle_text, .func (PySem.W.fnOf "bundle_text" "bundle_text" (defArgs s_bundle_text) (defBody s_bundle_text) (defScope s_bundle_text) .none kV_bundle_text dc_bundle_text pm_bundle_text an_bundle_text cd_bundle_text ct_bundle_text), sl_bundle_text⟩)
    (c_bundle_text : PySem.W.codeIn K cd_bundle_text "bundle_text" = true)
    (k_bundle_text : PySem.W.keepIn K (.ref f_bundle_text) = true)
    (a_lines_of : PySem.W.nsIn K mainGlobals "lines_of" = some (some (.ref f_lines_of)))
    (l_lines_of : K.lookup f_lines_of = some ⟨oc_lines_of, od_lines_of, .func (PySem.W.fnOf "lines_of" "lines_of" (defArgs s_lines_of) (defBody s_lines_of) (defScope s_lines_of) .none kV_lines_of dc_lines_of pm_lines_of an_lines_of cd_lines_of ct_lines_of), sl_lines_of⟩)
    (c_lines_of : PySem.W.codeIn K cd_lines_of "lines_of" = true)
    (k_lines_of : PySem.W.keepIn K (.ref f_lines_of) = true)
    (a_read_image : PySem.W.nsIn K mainGlobals "read_image" = some (some (.ref f_read_image)))
    (l_read_image : K.lookup f_read_image = some ⟨oc_read_image, od_read_image, .func (PySem.W.fnOf "read_image" "read_image" (defArgs s_read_image) (defBody s_read_image) (defScope s_read_image) .none kV_read_image dc_read_image pm_read_image an_read_image cd_read_image ct_read_image), sl_read_image⟩)
    (c_read_image : PySem.W.codeIn K cd_read_image "read_image" = true)
    (k_read_image : PySem.W.keepIn K (.ref f_read_image) = true)
    (a_is_platform : PySem.W.nsIn K mainGlobals "is_platform" = some (some (.ref f_is_platform)))
    (l_is_platform : K.lookup f_is_platform = some ⟨oc_is_platform, od_is_platform, .func (PySem.W.fnOf "is_platform" "is_platform" (defArgs s_is_platform) (defBody s_is_platform) (defScope s_is_platform) .none kV_is_platform dc_is_platform pm_is_platform an_is_platform cd_is_platform ct_is_platform), sl_is_platform⟩)
    (c_is_platform : PySem.W.codeIn K cd_is_platform "is_platform" = true)
    (k_is_platform : PySem.W.keepIn K (.ref f_is_platform) = true)
    (a_read_bundle : PySem.W.nsIn K mainGlobals "read_bundle" = some (some (.ref f_read_bundle)))
    (l_read_bundle : K.lookup f_read_bundle = some ⟨oc_read_bundle, od_read_bundle, .func (PySem.W.fnOf "read_bundle" "read_bundle" (defArgs s_read_bundle) (defBody s_read_bundle) (defScope s_read_bundle) .none kV_read_bundle dc_read_bundle pm_read_bundle an_read_bundle cd_read_bundle ct_read_bundle), sl_read_bundle⟩)
    (c_read_bundle : PySem.W.codeIn K cd_read_bundle "read_bundle" = true)
    (k_read_bundle : PySem.W.keepIn K (.ref f_read_bundle) = true)
    (a_references : PySem.W.nsIn K mainGlobals "references" = some (some (.ref f_references)))
    (l_references : K.lookup f_references = some ⟨oc_references, od_references, .func (PySem.W.fnOf "references" "references" (defArgs s_references) (defBody s_references) (defScope s_references) .none kV_references dc_references pm_references an_references cd_references ct_references), sl_references⟩)
    (c_references : PySem.W.codeIn K cd_references "references" = true)
    (k_references : PySem.W.keepIn K (.ref f_references) = true)
    (a__law_state : PySem.W.nsIn K mainGlobals "_law_state" = some (some (.ref f__law_state)))
    (l__law_state : K.lookup f__law_state = some ⟨oc__law_state, od__law_state, .func (PySem.W.fnOf "_law_state" "_law_state" (defArgs s__law_state) (defBody s__law_state) (defScope s__law_state) .none kV__law_state dc__law_state pm__law_state an__law_state cd__law_state ct__law_state), sl__law_state⟩)
    (c__law_state : PySem.W.codeIn K cd__law_state "_law_state" = true)
    (k__law_state : PySem.W.keepIn K (.ref f__law_state) = true)
    (a__law_take : PySem.W.nsIn K mainGlobals "_law_take" = some (some (.ref f__law_take)))
    (l__law_take : K.lookup f__law_take = some ⟨oc__law_take, od__law_take, .func (PySem.W.fnOf "_law_take" "_law_take" (defArgs s__law_take) (defBody s__law_take) (defScope s__law_take) .none kV__law_take dc__law_take pm__law_take an__law_take cd__law_take ct__law_take), sl__law_take⟩)
    (c__law_take : PySem.W.codeIn K cd__law_take "_law_take" = true)
    (k__law_take : PySem.W.keepIn K (.ref f__law_take) = true)
    (a__law_text : PySem.W.nsIn K mainGlobals "_law_text" = some (some (.ref f__law_text)))
    (l__law_text : K.lookup f__law_text = some ⟨oc__law_text, od__law_text, .func (PySem.W.fnOf "_law_text" "_law_text" (defArgs s__law_text) (defBody s__law_text) (defScope s__law_text) .none kV__law_text dc__law_text pm__law_text an__law_text cd__law_text ct__law_text), sl__law_text⟩)
    (c__law_text : PySem.W.codeIn K cd__law_text "_law_text" = true)
    (k__law_text : PySem.W.keepIn K (.ref f__law_text) = true)
    (a__law_pick : PySem.W.nsIn K mainGlobals "_law_pick" = some (some (.ref f__law_pick)))
    (l__law_pick : K.lookup f__law_pick = some ⟨oc__law_pick, od__law_pick, .func (PySem.W.fnOf "_law_pick" "_law_pick" (defArgs s__law_pick) (defBody s__law_pick) (defScope s__law_pick) .none kV__law_pick dc__law_pick pm__law_pick an__law_pick cd__law_pick ct__law_pick), sl__law_pick⟩)
    (c__law_pick : PySem.W.codeIn K cd__law_pick "_law_pick" = true)
    (k__law_pick : PySem.W.keepIn K (.ref f__law_pick) = true)
    (a__law_fill : PySem.W.nsIn K mainGlobals "_law_fill" = some (some (.ref f__law_fill)))
    (l__law_fill : K.lookup f__law_fill = some ⟨oc__law_fill, od__law_fill, .func (PySem.W.fnOf "_law_fill" "_law_fill" (defArgs s__law_fill) (defBody s__law_fill) (defScope s__law_fill) .none kV__law_fill dc__law_fill pm__law_fill an__law_fill cd__law_fill ct__law_fill), sl__law_fill⟩)
    (c__law_fill : PySem.W.codeIn K cd__law_fill "_law_fill" = true)
    (k__law_fill : PySem.W.keepIn K (.ref f__law_fill) = true)
    (a__law_refs : PySem.W.nsIn K mainGlobals "_law_refs" = some (some (.ref f__law_refs)))
    (l__law_refs : K.lookup f__law_refs = some ⟨oc__law_refs, od__law_refs, .func (PySem.W.fnOf "_law_refs" "_law_refs" (defArgs s__law_refs) (defBody s__law_refs) (defScope s__law_refs) .none kV__law_refs dc__law_refs pm__law_refs an__law_refs cd__law_refs ct__law_refs), sl__law_refs⟩)
    (c__law_refs : PySem.W.codeIn K cd__law_refs "_law_refs" = true)
    (k__law_refs : PySem.W.keepIn K (.ref f__law_refs) = true)
    (a__law_whole : PySem.W.nsIn K mainGlobals "_law_whole" = some (some (.ref f__law_whole)))
    (l__law_whole : K.lookup f__law_whole = some ⟨oc__law_whole, od__law_whole, .func (PySem.W.fnOf "_law_whole" "_law_whole" (defArgs s__law_whole) (defBody s__law_whole) (defScope s__law_whole) .none kV__law_whole dc__law_whole pm__law_whole an__law_whole cd__law_whole ct__law_whole), sl__law_whole⟩)
    (c__law_whole : PySem.W.codeIn K cd__law_whole "_law_whole" = true)
    (k__law_whole : PySem.W.keepIn K (.ref f__law_whole) = true)
    (a__law_closure : PySem.W.nsIn K mainGlobals "_law_closure" = some (some (.ref f__law_closure)))
    (l__law_closure : K.lookup f__law_closure = some ⟨oc__law_closure, od__law_closure, .func (PySem.W.fnOf "_law_closure" "_law_closure" (defArgs s__law_closure) (defBody s__law_closure) (defScope s__law_closure) .none kV__law_closure dc__law_closure pm__law_closure an__law_closure cd__law_closure ct__law_closure), sl__law_closure⟩)
    (c__law_closure : PySem.W.codeIn K cd__law_closure "_law_closure" = true)
    (k__law_closure : PySem.W.keepIn K (.ref f__law_closure) = true)
    (a_law : PySem.W.nsIn K mainGlobals "law" = some (some (.ref f_law)))
    (l_law : K.lookup f_law = some ⟨oc_law, od_law, .func (PySem.W.fnOf "law" "law" (defArgs s_law) (defBody s_law) (defScope s_law) .none kV_law dc_law pm_law an_law cd_law ct_law), sl_law⟩)
    (c_law : PySem.W.codeIn K cd_law "law" = true)
    (k_law : PySem.W.keepIn K (.ref f_law) = true)
    (z_abs : PySem.W.nsIn K mainGlobals "abs" = some none)
    (z_int : PySem.W.nsIn K mainGlobals "int" = some none)
    (z_len : PySem.W.nsIn K mainGlobals "len" = some none)
    (z_list : PySem.W.nsIn K mainGlobals "list" = some none)
    (z_ord : PySem.W.nsIn K mainGlobals "ord" = some none)
    (z_range : PySem.W.nsIn K mainGlobals "range" = some none)
    (z_repr : PySem.W.nsIn K mainGlobals "repr" = some none)
    (z_sorted : PySem.W.nsIn K mainGlobals "sorted" = some none)
    (z_str : PySem.W.nsIn K mainGlobals "str" = some none)
    (v_DIGITS : PySem.W.nsIn K mainGlobals "DIGITS" = some (some (Value.str "0123456789abcdef" t_DIGITS)))
    (v_LETTERS : PySem.W.nsIn K mainGlobals "LETTERS" = some (some (Value.str "abcdefghijklmnopqrstuvwxyz" t_LETTERS)))
    (v_MAX_LINES : PySem.W.nsIn K mainGlobals "MAX_LINES" = some (some (Value.int 50 t_MAX_LINES)))
    (v_PRIME : PySem.W.nsIn K mainGlobals "PRIME" = some (some (Value.int 2305843009213693951 t_PRIME)))
    (v_KINDS : PySem.W.nsIn K mainGlobals "KINDS" = some (some (.ref a_KINDS)))
    (at_KINDS : K.lookup a_KINDS = some ⟨.type "tuple", none, .seq its_KINDS n_KINDS, sl_KINDS⟩)
    (vl_KINDS : Vals (kinds3.map V.str) its_KINDS.toList)
    (sz_KINDS : its_KINDS.size ≤ sizeLine)
    (v_BELOW : PySem.W.nsIn K mainGlobals "BELOW" = some (some (.ref a_BELOW)))
    (at_BELOW : K.lookup a_BELOW = some ⟨.type "dict", none, .dict es_BELOW n_BELOW, #[]⟩)
    (p_below1 : PySem.W.nsIn K a_BELOW "image" = some (some (.str "layer" t_below1)))
    (p_below2 : PySem.W.nsIn K a_BELOW "bundle" = some (some (.str "image" t_below2)))
    (lit_BELOW : PySem.W.KeysLit w.params es_BELOW.toList)
    : ∃ fd : FuncData, (∀ (s : Shared) (v : Value), BindsTo s fd ⟨[v], []⟩ [("_law_script", v)]) ∧ ∀ base : Heap, K.In base → base.Ns mainGlobals mg → FnOk l.prog w K mg base CX0 12 fa fd ["_law_script"] (spLaw K) := by
  have e := hfa.symm.trans (PySem.W.mg_of X G a_law)
  cases e
  have F_Store___init__ := fun_mk (st := s_Store___init__) l_Store___init__ c_Store___init__ k_Store___init__
  have b_Store___init__ := F_Store___init__.binds (ps := ["self"]) fun _ _ _ _ _ _ us hl => match us, hl with | [_], _ => rfl
  have F_Store_keep := fun_mk (st := s_Store_keep) l_Store_keep c_Store_keep k_Store_keep
  have b_Store_keep := F_Store_keep.binds (ps := ["self", "kind", "text"]) fun _ _ _ _ _ _ us hl => match us, hl with | [_, _, _], _ => rfl
  have F_Store_blob := fun_mk (st := s_Store_blob) l_Store_blob c_Store_blob k_Store_blob
  have b_Store_blob := F_Store_blob.binds (ps := ["self", "address"]) fun _ _ _ _ _ _ us hl => match us, hl with | [_, _], _ => rfl
  have F_Store_remove_blob := fun_mk (st := s_Store_remove_blob) l_Store_remove_blob c_Store_remove_blob k_Store_remove_blob
  have b_Store_remove_blob := F_Store_remove_blob.binds (ps := ["self", "address"]) fun _ _ _ _ _ _ us hl => match us, hl with | [_, _], _ => rfl
  have F_Store_addresses := fun_mk (st := s_Store_addresses) l_Store_addresses c_Store_addresses k_Store_addresses
  have b_Store_addresses := F_Store_addresses.binds (ps := ["self"]) fun _ _ _ _ _ _ us hl => match us, hl with | [_], _ => rfl
  have F_Store_below := fun_mk (st := s_Store_below) l_Store_below c_Store_below k_Store_below
  have b_Store_below := F_Store_below.binds (ps := ["self", "address"]) fun _ _ _ _ _ _ us hl => match us, hl with | [_, _], _ => rfl
  have F_Store_is_whole := fun_mk (st := s_Store_is_whole) l_Store_is_whole c_Store_is_whole k_Store_is_whole
  have b_Store_is_whole := F_Store_is_whole.binds (ps := ["self", "address"]) fun _ _ _ _ _ _ us hl => match us, hl with | [_, _], _ => rfl
  have F_Store_closure := fun_mk (st := s_Store_closure) l_Store_closure c_Store_closure k_Store_closure
  have b_Store_closure := F_Store_closure.binds (ps := ["self", "address"]) fun _ _ _ _ _ _ us hl => match us, hl with | [_, _], _ => rfl
  have F_Malformed___init__ := fun_mk (st := s_Malformed___init__) l_Malformed___init__ c_Malformed___init__ k_Malformed___init__
  have b_Malformed___init__ := F_Malformed___init__.binds (ps := ["self", "line"]) fun _ _ _ _ _ _ us hl => match us, hl with | [_, _], _ => rfl
  have F_address_of := fun_mk (st := s_address_of) l_address_of c_address_of k_address_of
  have b_address_of := F_address_of.binds (ps := ["kind", "text"]) fun _ _ _ _ _ _ us hl => match us, hl with | [_, _], _ => rfl
  have F_is_address := fun_mk (st := s_is_address) l_is_address c_is_address k_is_address
  have b_is_address := F_is_address.binds (ps := ["text"]) fun _ _ _ _ _ _ us hl => match us, hl with | [_], _ => rfl
  have F_image_text := fun_mk (st := s_image_text) l_image_text c_image_text k_image_text
  have b_image_text := F_image_text.binds (ps := ["layers"]) fun _ _ _ _ _ _ us hl => match us, hl with | [_], _ => rfl
  have F_bundle_text := fun_mk (st := s_bundle_text) l_bundle_text c_bundle_text k_bundle_text
  have b_bundle_text := F_bundle_text.binds (ps := ["entries"]) fun _ _ _ _ _ _ us hl => match us, hl with | [_], _ => rfl
  have F_lines_of := fun_mk (st := s_lines_of) l_lines_of c_lines_of k_lines_of
  have b_lines_of := F_lines_of.binds (ps := ["text", "head"]) fun _ _ _ _ _ _ us hl => match us, hl with | [_, _], _ => rfl
  have F_read_image := fun_mk (st := s_read_image) l_read_image c_read_image k_read_image
  have b_read_image := F_read_image.binds (ps := ["text"]) fun _ _ _ _ _ _ us hl => match us, hl with | [_], _ => rfl
  have F_is_platform := fun_mk (st := s_is_platform) l_is_platform c_is_platform k_is_platform
  have b_is_platform := F_is_platform.binds (ps := ["word"]) fun _ _ _ _ _ _ us hl => match us, hl with | [_], _ => rfl
  have F_read_bundle := fun_mk (st := s_read_bundle) l_read_bundle c_read_bundle k_read_bundle
  have b_read_bundle := F_read_bundle.binds (ps := ["text"]) fun _ _ _ _ _ _ us hl => match us, hl with | [_], _ => rfl
  have F_references := fun_mk (st := s_references) l_references c_references k_references
  have b_references := F_references.binds (ps := ["kind", "text"]) fun _ _ _ _ _ _ us hl => match us, hl with | [_, _], _ => rfl
  have F__law_state := fun_mk (st := s__law_state) l__law_state c__law_state k__law_state
  have b__law_state := F__law_state.binds (ps := ["_law_script"]) fun _ _ _ _ _ _ us hl => match us, hl with | [_], _ => rfl
  have F__law_take := fun_mk (st := s__law_take) l__law_take c__law_take k__law_take
  have b__law_take := F__law_take.binds (ps := ["_law_state_here", "_law_most"]) fun _ _ _ _ _ _ us hl => match us, hl with | [_, _], _ => rfl
  have F__law_text := fun_mk (st := s__law_text) l__law_text c__law_text k__law_text
  have b__law_text := F__law_text.binds (ps := ["_law_state_here", "_law_most"]) fun _ _ _ _ _ _ us hl => match us, hl with | [_, _], _ => rfl
  have F__law_pick := fun_mk (st := s__law_pick) l__law_pick c__law_pick k__law_pick
  have b__law_pick := F__law_pick.binds (ps := ["_law_state_here", "_law_known"]) fun _ _ _ _ _ _ us hl => match us, hl with | [_, _], _ => rfl
  have F__law_fill := fun_mk (st := s__law_fill) l__law_fill c__law_fill k__law_fill
  have b__law_fill := F__law_fill.binds (ps := ["_law_state_here", "_law_store", "_law_blobs"]) fun _ _ _ _ _ _ us hl => match us, hl with | [_, _, _], _ => rfl
  have F__law_refs := fun_mk (st := s__law_refs) l__law_refs c__law_refs k__law_refs
  have b__law_refs := F__law_refs.binds (ps := ["_law_blobs", "_law_address"]) fun _ _ _ _ _ _ us hl => match us, hl with | [_, _], _ => rfl
  have F__law_whole := fun_mk (st := s__law_whole) l__law_whole c__law_whole k__law_whole
  have b__law_whole := F__law_whole.binds (ps := ["_law_blobs", "_law_address"]) fun _ _ _ _ _ _ us hl => match us, hl with | [_, _], _ => rfl
  have F__law_closure := fun_mk (st := s__law_closure) l__law_closure c__law_closure k__law_closure
  have b__law_closure := F__law_closure.binds (ps := ["_law_blobs", "_law_address"]) fun _ _ _ _ _ _ us hl => match us, hl with | [_, _], _ => rfl
  have F_law := fun_mk (st := s_law) l_law c_law k_law
  have T : Txt w K mg C_Store C_Refused C_Malformed a_KINDS a_BELOW := ⟨⟨pg_Store, hd_Store, po_Store, sa_Store⟩,
    na_Store_blobs,
    ⟨_, _, F_Store___init__, ⟨mk_Store, a_Store___init__, i_Store___init__, kc_Store⟩, PySem.W.mg_of X G a_Store, b_Store___init__⟩,
    ⟨_, _, F_Store_keep, ⟨a_Store_keep, i_Store_keep, k_Store_keep⟩, b_Store_keep⟩,
    ⟨_, _, F_Store_blob, ⟨a_Store_blob, i_Store_blob, k_Store_blob⟩, b_Store_blob⟩,
    ⟨_, _, F_Store_remove_blob, ⟨a_Store_remove_blob, i_Store_remove_blob, k_Store_remove_blob⟩, b_Store_remove_blob⟩,
    ⟨_, _, F_Store_addresses, ⟨a_Store_addresses, i_Store_addresses, k_Store_addresses⟩, b_Store_addresses⟩,
    ⟨_, _, F_Store_below, ⟨a_Store_below, i_Store_below, k_Store_below⟩, b_Store_below⟩,
    ⟨_, _, F_Store_is_whole, ⟨a_Store_is_whole, i_Store_is_whole, k_Store_is_whole⟩, b_Store_is_whole⟩,
    ⟨_, _, F_Store_closure, ⟨a_Store_closure, i_Store_closure, k_Store_closure⟩, b_Store_closure⟩,
    PySem.W.mg_of X G a_Refused,
    PySem.W.mg_of X G a_Malformed,
    ⟨⟨_, _, _, _, _, _, _, _, _, _, _, _, _, _, _, xL_Malformed, by first | decide +kernel | rfl | (unfold PySem.HandSPX.refsVE; decide +kernel) | (simp only [PySem.HandSPX.refsVE]; decide +kernel)⟩, sa_Malformed, eC_Malformed, tC_Malformed, kC_Malformed⟩,
    ⟨ga_Malformed, gg_Malformed, eC_Malformed, hC_Malformed⟩,
    ⟨iC_Malformed, ga_Malformed, gg_Malformed, eC_Malformed, hk_Malformed, hn_obj, ht_obj, hm_Malformed⟩,
    exm_self eC_Malformed iC_Malformed tC_Malformed sC_Malformed,
    na_Malformed_line,
    ⟨_, _, F_Malformed___init__, a_Malformed___init__, t_Malformed___init__, PySem.W.mg_of X G a_Malformed, b_Malformed___init__⟩,
    ⟨_, _, F_address_of, PySem.W.mg_of X G a_address_of, b_address_of⟩,
    ⟨_, _, F_is_address, PySem.W.mg_of X G a_is_address, b_is_address⟩,
    ⟨_, _, F_image_text, PySem.W.mg_of X G a_image_text, b_image_text⟩,
    ⟨_, _, F_bundle_text, PySem.W.mg_of X G a_bundle_text, b_bundle_text⟩,
    ⟨_, _, F_lines_of, PySem.W.mg_of X G a_lines_of, b_lines_of⟩,
    ⟨_, _, F_read_image, PySem.W.mg_of X G a_read_image, b_read_image⟩,
    ⟨_, _, F_is_platform, PySem.W.mg_of X G a_is_platform, b_is_platform⟩,
    ⟨_, _, F_read_bundle, PySem.W.mg_of X G a_read_bundle, b_read_bundle⟩,
    ⟨_, _, F_references, PySem.W.mg_of X G a_references, b_references⟩,
    ⟨_, _, F__law_state, PySem.W.mg_of X G a__law_state, b__law_state⟩,
    ⟨_, _, F__law_take, PySem.W.mg_of X G a__law_take, b__law_take⟩,
    ⟨_, _, F__law_text, PySem.W.mg_of X G a__law_text, b__law_text⟩,
    ⟨_, _, F__law_pick, PySem.W.mg_of X G a__law_pick, b__law_pick⟩,
    ⟨_, _, F__law_fill, PySem.W.mg_of X G a__law_fill, b__law_fill⟩,
    ⟨_, _, F__law_refs, PySem.W.mg_of X G a__law_refs, b__law_refs⟩,
    ⟨_, _, F__law_whole, PySem.W.mg_of X G a__law_whole, b__law_whole⟩,
    ⟨_, _, F__law_closure, PySem.W.mg_of X G a__law_closure, b__law_closure⟩,
    PySem.W.mg_none_of X G z_abs,
    PySem.W.mg_none_of X G z_int,
    PySem.W.mg_none_of X G z_len,
    PySem.W.mg_none_of X G z_list,
    PySem.W.mg_none_of X G z_ord,
    PySem.W.mg_none_of X G z_range,
    PySem.W.mg_none_of X G z_repr,
    PySem.W.mg_none_of X G z_sorted,
    PySem.W.mg_none_of X G z_str,
    ⟨_, PySem.W.mg_of X G v_DIGITS, ⟨_, rfl⟩⟩,
    ⟨_, PySem.W.mg_of X G v_LETTERS, ⟨_, rfl⟩⟩,
    ⟨_, PySem.W.mg_of X G v_MAX_LINES, ⟨_, rfl⟩⟩,
    ⟨_, PySem.W.mg_of X G v_PRIME, ⟨_, rfl⟩⟩,
    ⟨_, PySem.W.mg_of X G v_KINDS, rfl⟩,
    ⟨_, _, _, at_KINDS, rfl, rfl, rfl, sz_KINDS, vl_KINDS⟩,
    ⟨_, PySem.W.mg_of X G v_BELOW, rfl⟩,
    ⟨_, _, _, at_BELOW, lit_BELOW, p_below1, ⟨_, rfl⟩⟩,
    ⟨_, _, _, at_BELOW, lit_BELOW, p_below2, ⟨_, rfl⟩⟩⟩
  exact ⟨PySem.W.fnOf "law" "law" (defArgs s_law) (defBody s_law) (defScope s_law) .none kV_law dc_law pm_law an_law cd_law ct_law, fun s v => .of_eq rfl, fun base _ _ => ok_law T F_law⟩
theorem walk {l : PySem.W.OpenLaw} {q : Program} {loose : List Str} {XP : (Str → Option Value) → Heap → Prop} {YP : World → Heap → Prop} {d : DefRec} {K : Params → PySem.W.Frag} (hn : l.most = some 63) (hdf : d.params.defaults = [])
    (hY : ∀ (w : World) (h : Heap), YP w h → (K w.params).In h)
    (F : ∀ (w : World) (mg : Str → Option Value) (fa : Addr) (h : Heap), (K w.params).In h → h.Ns mainGlobals mg → mg d.name = some (.ref fa) →
      ∃ fd : FuncData, (∀ (s : Shared) (u : Value), BindsTo s fd ⟨[u], []⟩ [("_law_script", u)]) ∧ ∀ base : Heap, (K w.params).In base → base.Ns mainGlobals mg → FnOk l.prog w (K w.params) mg base CX0 12 fa fd ["_law_script"] (spLaw (K w.params))) :
    PySem.W.WalkO q loose XP YP l.row.toRowW d [] (fun f vs => PySem.call f vs) :=
  L2.walk_of (n := 63) (k := 12) (x := "_law_script") (CX := fun _ => CX0) (sp := fun w => spLaw (K w.params)) hn (by decide) hdf ⟨rfl, by decide, by decide⟩ hY F (fun _ _ a ns hl _ hS => ⟨a, ns, rfl, hS, hl, fun _ => rfl⟩) fun _ _ _ _ _ z => z
end Lw
open PySem PySem.W PyProof.Rows
set_option maxRecDepth 100000 in
set_option maxHeartbeats 0 in
theorem PySem.Challenge.cw_layerwharf_k03_whole_blobs_holds : PySem.Challenge.rw_layerwharf_k03_whole_blobs.Holds := by
  w_on; o_law; k_head; (case hw => w_witness2)
  k_fill
  refine Lw.walk (l := PySem.Challenge.rw_layerwharf_k03_whole_blobs) rfl rfl (fun w h Y => PySem.W.kIn_of Y) ?F
  case F =>
    intro w mg fa h KX G hmg
    refine' Lw.all_mk KX G hmg ?a_Store ?pg_Store ?hd_Store ?po_Store ?sa_Store ?mk_Store ?kc_Store ?na_Store_blobs ?a_Store___init__ ?i_Store___init__ ?l_Store___init__ ?c_Store___init__ ?k_Store___init__ ?a_Store_keep ?i_Store_keep ?l_Store_keep ?c_Store_keep ?k_Store_keep ?a_Store_blob ?i_Store_blob ?l_Store_blob ?c_Store_blob ?k_Store_blob ?a_Store_remove_blob ?i_Store_remove_blob ?l_Store_remove_blob ?c_Store_remove_blob ?k_Store_remove_blob ?a_Store_addresses ?i_Store_addresses ?l_Store_addresses ?c_Store_addresses ?k_Store_addresses ?a_Store_below ?i_Store_below ?l_Store_below ?c_Store_below ?k_Store_below ?a_Store_is_whole ?i_Store_is_whole ?l_Store_is_whole ?c_Store_is_whole ?k_Store_is_whole ?a_Store_closure ?i_Store_closure ?l_Store_closure ?c_Store_closure ?k_Store_closure ?a_Refused ?a_Malformed ?xL_Malformed ?sa_Malformed ?ga_Malformed ?gg_Malformed ?kC_Malformed ?eC_Malformed ?tC_Malformed ?hC_Malformed ?iC_Malformed ?sC_Malformed ?hk_Malformed ?hm_Malformed ?na_Malformed_line ?a_Malformed___init__ ?t_Malformed___init__ ?l_Malformed___init__ ?c_Malformed___init__ ?k_Malformed___init__ ?hn_obj ?ht_obj ?a_address_of ?l_address_of ?c_address_of ?k_address_of ?a_is_address ?l_is_address ?c_is_address ?k_is_address ?a_image_text ?l_image_text ?c_image_text ?k_image_text ?a_bundle_text ?l_bundle_text ?c_bundle_text ?k_bundle_text ?a_lines_of ?l_lines_of ?c_lines_of ?k_lines_of ?a_read_image ?l_read_image ?c_read_image ?k_read_image ?a_is_platform ?l_is_platform ?c_is_platform ?k_is_platform ?a_read_bundle ?l_read_bundle ?c_read_bundle ?k_read_bundle ?a_references ?l_references ?c_references ?k_references ?a__law_state ?l__law_state ?c__law_state ?k__law_state ?a__law_take ?l__law_take ?c__law_take ?k__law_take ?a__law_text ?l__law_text ?c__law_text ?k__law_text ?a__law_pick ?l__law_pick ?c__law_pick ?k__law_pick ?a__law_fill ?l__law_fill ?c__law_fill ?k__law_fill ?a__law_refs ?l__law_refs ?c__law_refs ?k__law_refs ?a__law_whole ?l__law_whole ?c__law_whole ?k__law_whole ?a__law_closure ?l__law_closure ?c__law_closure ?k__law_closure ?a_law ?l_law ?c_law ?k_law ?z_abs ?z_int ?z_len ?z_list ?z_ord ?z_range ?z_repr ?z_sorted ?z_str ?v_DIGITS ?v_LETTERS ?v_MAX_LINES ?v_PRIME ?v_KINDS ?at_KINDS ?vl_KINDS ?sz_KINDS ?v_BELOW ?at_BELOW ?p_below1 ?p_below2 ?lit_BELOW
    (case a_Store => k_is)
    (case pg_Store => k_is)
    (case hd_Store => k_is)
    (case po_Store => k_is)
    (case sa_Store => k_is)
    (case mk_Store => k_is)
    (case kc_Store => k_is)
    (case na_Store_blobs => k_is)
    (case a_Store___init__ => k_is)
    (case i_Store___init__ => k_is)
    (case l_Store___init__ => k_is)
    (case c_Store___init__ => k_is)
    (case k_Store___init__ => k_is)
    (case a_Store_keep => k_is)
    (case i_Store_keep => k_is)
    (case l_Store_keep => k_is)
    (case c_Store_keep => k_is)
    (case k_Store_keep => k_is)
    (case a_Store_blob => k_is)
    (case i_Store_blob => k_is)
    (case l_Store_blob => k_is)
    (case c_Store_blob => k_is)
    (case k_Store_blob => k_is)
    (case a_Store_remove_blob => k_is)
    (case i_Store_remove_blob => k_is)
    (case l_Store_remove_blob => k_is)
    (case c_Store_remove_blob => k_is)
    (case k_Store_remove_blob => k_is)
    (case a_Store_addresses => k_is)
    (case i_Store_addresses => k_is)
    (case l_Store_addresses => k_is)
    (case c_Store_addresses => k_is)
    (case k_Store_addresses => k_is)
    (case a_Store_below => k_is)
    (case i_Store_below => k_is)
    (case l_Store_below => k_is)
    (case c_Store_below => k_is)
    (case k_Store_below => k_is)
    (case a_Store_is_whole => k_is)
    (case i_Store_is_whole => k_is)
    (case l_Store_is_whole => k_is)
    (case c_Store_is_whole => k_is)
    (case k_Store_is_whole => k_is)
    (case a_Store_closure => k_is)
    (case i_Store_closure => k_is)
    (case l_Store_closure => k_is)
    (case c_Store_closure => k_is)
    (case k_Store_closure => k_is)
    (case a_Refused => k_is)
    (case a_Malformed => k_is)
    (case xL_Malformed => k_is)
    (case sa_Malformed => k_is)
    (case ga_Malformed => k_is)
    (case gg_Malformed => k_is)
    (case kC_Malformed => k_is)
    (case eC_Malformed => k_is)
    (case tC_Malformed => k_is)
    (case hC_Malformed => k_is)
    (case iC_Malformed => k_is)
    (case sC_Malformed => first | rfl | k_is)
    (case hk_Malformed => k_is)
    (case hm_Malformed => k_is)
    (case na_Malformed_line => k_is)
    (case a_Malformed___init__ => k_is)
    (case t_Malformed___init__ => k_is)
    (case l_Malformed___init__ => k_is)
    (case c_Malformed___init__ => k_is)
    (case k_Malformed___init__ => k_is)
    (case hn_obj => k_is)
    (case ht_obj => k_is)
    (case a_address_of => k_is)
    (case l_address_of => k_is)
    (case c_address_of => k_is)
    (case k_address_of => k_is)
    (case a_is_address => k_is)
    (case l_is_address => k_is)
    (case c_is_address => k_is)
    (case k_is_address => k_is)
    (case a_image_text => k_is)
    (case l_image_text => k_is)
    (case c_image_text => k_is)
    (case k_image_text => k_is)
    (case a_bundle_text => k_is)
    (case l_bundle_text => k_is)
    (case c_bundle_text => k_is)
    (case k_bundle_text => k_is)
    (case a_lines_of => k_is)
    (case l_lines_of => k_is)
    (case c_lines_of => k_is)
    (case k_lines_of => k_is)
    (case a_read_image => k_is)
    (case l_read_image => k_is)
    (case c_read_image => k_is)
    (case k_read_image => k_is)
    (case a_is_platform => k_is)
    (case l_is_platform => k_is)
    (case c_is_platform => k_is)
    (case k_is_platform => k_is)
    (case a_read_bundle => k_is)
    (case l_read_bundle => k_is)
    (case c_read_bundle => k_is)
    (case k_read_bundle => k_is)
    (case a_references => k_is)
    (case l_references => k_is)
    (case c_references => k_is)
    (case k_references => k_is)
    (case a__law_state => k_is)
    (case l__law_state => k_is)
    (case c__law_state => k_is)
    (case k__law_state => k_is)
    (case a__law_take => k_is)
    (case l__law_take => k_is)
    (case c__law_take => k_is)
    (case k__law_take => k_is)
    (case a__law_text => k_is)
    (case l__law_text => k_is)
    (case c__law_text => k_is)
    (case k__law_text => k_is)
    (case a__law_pick => k_is)
    (case l__law_pick => k_is)
    (case c__law_pick => k_is)
    (case k__law_pick => k_is)
    (case a__law_fill => k_is)
    (case l__law_fill => k_is)
    (case c__law_fill => k_is)
    (case k__law_fill => k_is)
    (case a__law_refs => k_is)
    (case l__law_refs => k_is)
    (case c__law_refs => k_is)
    (case k__law_refs => k_is)
    (case a__law_whole => k_is)
    (case l__law_whole => k_is)
    (case c__law_whole => k_is)
    (case k__law_whole => k_is)
    (case a__law_closure => k_is)
    (case l__law_closure => k_is)
    (case c__law_closure => k_is)
    (case k__law_closure => k_is)
    (case a_law => k_is)
    (case l_law => k_is)
    (case c_law => k_is)
    (case k_law => k_is)
    (case z_abs => k_is)
    (case z_int => k_is)
    (case z_len => k_is)
    (case z_list => k_is)
    (case z_ord => k_is)
    (case z_range => k_is)
    (case z_repr => k_is)
    (case z_sorted => k_is)
    (case z_str => k_is)
    (case v_DIGITS => k_is)
    (case v_LETTERS => k_is)
    (case v_MAX_LINES => k_is)
    (case v_PRIME => k_is)
    (case v_KINDS => k_is)
    (case at_KINDS => k_is)
    (case vl_KINDS => exact .cons ⟨_, rfl⟩ (.cons ⟨_, rfl⟩ (.cons ⟨_, rfl⟩ .nil)))
    (case sz_KINDS => (show 3 ≤ sizeLine); decide)
    (case v_BELOW => k_is)
    (case at_BELOW => k_is)
    (case p_below1 => k_is)
    (case p_below2 => k_is)
    (case lit_BELOW => exact ⟨⟨_, _, rfl, rfl⟩, ⟨_, _, rfl, rfl⟩, trivial⟩)
